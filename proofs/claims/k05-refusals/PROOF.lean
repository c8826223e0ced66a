import PyProof.Rows.All
import Wide.All
import OpenK.AllK
import Wide.FinOn
import HandS.ForMost
import HandS.IsInst
import HandS.ExcInit
import HandS.ExcIs
import HandS.ExcField
import HandS.ExcValue
import HandS.Defaults
import KE.KExcIs
import HandS.MakeKw
import HandS.Hot
import HandS.HotCalls
import HandS.ExcCtx
import PySem.Challenge.RW_midferry_k05_refusals_made
import HandS.Style
import HandS.Walk
import HandS.Conv
import HandS.Codes
import HandS.ExcBuiltin
import HandS.ExcInitHot
import HandS.EndTab
import KE.KxIndex
set_option Elab.async false
set_option linter.all false
set_option maxRecDepth 100000
set_option maxHeartbeats 4000000
/-! ## promises of defs that are called where no repr is under way -/
namespace KG
open PySem PySem.Spec PyProof.Rows L2
abbrev Gd (A : Around) : Prop := A.guards = some []
structure FnG (P : Program) (w : World) (K : PySem.W.Frag) (mg : Str → Option Value) (base : Heap) (k : Nat) (f : Addr) (fd : FuncData) (ps : List Str) (sp : Sp) : Prop where
  len : ∀ vs H Q E, sp vs H Q E → vs.length = ps.length
  go : ∀ (A : Around) (outer : List Env) (s : Shared) (H : Hp) (args : Args) (us : List Value) (vs : List V) (Q : VK),
    Gd A → Room k A → Env0 P w K mg base A outer s H → BindsTo s fd args (ps.zip us) → Vals vs us → sp vs H Q E0 →
      codeAny (model P w) A (.call (.ref f) args) (CR CX0 outer P w H s Q E0) s
section
variable {P : Program} {w : World} {K : PySem.W.Frag} {mg : Str → Option Value} {base : Heap}
theorem FnG.of {k : Nat} {f : Addr} {fd : FuncData} {ps : List Str} {sp : Sp} (F : FnOk P w K mg base CX0 k f fd ps sp) : FnG P w K mg base k f fd ps sp :=
  ⟨F.len, fun A outer s H args us vs Q _ hr he hb hv hs => F.run A outer s H args us vs Q E0 hr he hb hv hs⟩
theorem FnG.mono {j k : Nat} {f : Addr} {fd : FuncData} {ps : List Str} {sp : Sp} (F : FnG P w K mg base j f fd ps sp) (h : j ≤ k) : FnG P w K mg base k f fd ps sp :=
  ⟨F.len, fun A outer s H args us vs Q g hr he hb hv hs => F.go A outer s H args us vs Q g (hr.mono h) he hb hv hs⟩
/-- a def by its body; the body knows that no repr is under way -/
theorem okG {x qual : Str} {st : Stmt} {f : Addr} {fd : FuncData} {N ps : List Str} {k : Nat} {sp : Sp} (F : Fun K x qual st f fd) (S : FnScope N ps (defScope st))
    (len : ∀ vs H Q E, sp vs H Q E → vs.length = ps.length)
    (hbody : ∀ (cdv : Value) (A : Around) (outer : List Env) (s : Shared) (H : Hp) (vs : List V) (Q : VK), Gd (A.deeper (envOfC qual (defScope st) s.heap.objs.size f cdv)) →
      Room k (A.deeper (envOfC qual (defScope st) s.heap.objs.size f cdv)) → sp vs H Q E0 →
      ∃ t, PSs (cxOf CX0 P w K mg base N qual (defScope st) f cdv A outer s H E0).nox (defBody st) t ∧ t { nx := fun _ H' => Q .non H', rt := Q } (start N vs) H) :
    FnG P w K mg base (k + 1) f fd ps sp := by
  refine ⟨len, ?_⟩
  intro A outer s H args us vs Q hg hr e0 hb r hsp
  obtain ⟨oc, od, kV, doc, pm, an, cdv, ct, osl, rfl, lk, hcd⟩ := F.ex
  have stays : ∀ b o, base.get? b = some o → s.heap.get? b = some o := fun b o e => (e0.bs b o e).1
  have inK : K.In s.heap := e0.mod.kin.keeps stays
  have noL : s.heap.NoLimit := e0.mod.nolimit.keeps stays
  have kinds : ∀ y ∈ ps.zip us, (defScope st).names.lookup y.1 = some .local ∨ ((defScope st).names.lookup y.1 = some .cell ∧ ((cellsFrom (s.heap.objs.size + 1) (defScope st).names []).lookup y.1).isSome = true) := by
    rintro ⟨n, v⟩ hy
    have hn := (List.of_mem_zip hy).1
    cases S.par n hn with
    | inl q => exact .inl q
    | inr q => exact .inr ⟨q, PySem.W.cellsFrom_some _ _ _ (.inl q)⟩
  apply codeAny_call_function hr.depth (inK _ _ lk) rfl S.co S.gen rfl (PySem.W.codeRec_of inK hcd)
  apply hb
  apply wpAny_newFunctionEnv_cells S.kind kinds
  intro env he s1 x
  subst he
  refine ⟨noL.keeps x.toInCall.keep, codeAny_func ?_⟩
  have hgd : Gd (A.deeper (envOfC qual (defScope st) s.heap.objs.size f cdv)) := hg
  obtain ⟨t, ht0, hq⟩ := hbody cdv A outer s H vs Q hgd (hr.deeper _) hsp
  have ht := ht0.nox
  have I := inv_start (CX := CX0) (E := E0) (qual := qual) (f := f) (cd := cdv) S hr.hd e0 (len _ _ _ _ hsp) r x
  have done : ∀ {σ' : L2.St} {H' : Hp} {s' : Shared} {v : V} {u : Value}, Inv (cxOf CX0 P w K mg base N qual (defScope st) f cdv A outer s H E0) [] σ' H' s' → RelV v u → Q v H' → CE outer P w H s Q u s' := by
    intro σ' H' s' v u J rv q
    exact ⟨v, H', J.os, J.bare, J.base, J.hok, rv, q⟩
  apply wpAny_mono (ht.run [] s1 (start N vs) H _ I hq)
  · intro fl s' hs
    cases fl with
    | ret u => obtain ⟨v, σ', H', J, rv, q⟩ := hs; exact done J rv q
    | next => obtain ⟨σ', H', J, q⟩ := hs; exact done (v := V.non) J rfl q
    | brk => obtain ⟨_, _, _, q⟩ := hs; exact q.elim
    | cont => obtain ⟨_, _, _, q⟩ := hs; exact q.elim
  · intro e s' hs
    exact hs
end
section
variable {X : Cx} {k : Nat} {f : Addr} {fd : FuncData} {ps ks : List Str} {sp : Sp} {x : Str} {p pos : Pos} {e : Expr} {es : List Expr} {kws : List Keyword} {t tk : TA}
theorem runG {pins : List (Addr × Obj)} {σ : L2.St} {H : Hp} {s : Shared} {Q : VK} {args : Args} {us : List Value} {vs : List V} (F : FnG X.prog X.w X.K X.mg X.base k f fd ps sp) (hg : Gd X.A) (hr : Room k X.A)
    (I : Inv X pins σ H s) (hb : BindsTo s fd args (ps.zip us)) (r : Vals vs us) (h : sp vs H Q E0) : codeAny (model X.prog X.w) X.A (.call (.ref f) args)
      (fun rr s' => match rr with | .ok (.ret u) => EP X pins σ Q u s' | .ok _ => False | .error e => X.xe e s') s := by
  refine codeAny_mono (F.go X.A X.stack s H args us vs Q hg hr I.env0 hb r h) fun rr s' hq => ?_
  cases rr with
  | error er => exact hq.elim
  | ok fl =>
    cases fl with
    | ret u => exact I.after hq
    | _ => exact hq.elim
/-- f(e, ..) -/
theorem pe_callG (F : FnG X.prog X.w X.K X.mg X.base k f fd ps sp) (hgd : Gd X.A) (hr : Room k X.A) (hg : Gl X x) (hm : X.mg x = some (.ref f)) (hk : PySem.W.keepIn X.K (.ref f) = true) (hb : Binds X.K fd ps [])
    (ha : PA X (e :: es) t) (hdb : (x == ("__debug__" : Str)) = false := by decide) (he : starEach (e :: es) X.env = (false, eval e X.env) :: starEach es X.env := by rfl) (hpl : (backTo pos (starEach es X.env)).any (·.1) = false := by rfl) :
    PE X (.Call (.Name x p) (e :: es) [] pos) (fun σ H Q => t σ H fun vs H1 => sp vs H1 Q E0) := by
  constructor
  intro pins s σ H Q I h
  refine wpAny_Call_Name_kw (ld_glob I hg hm ?_ hdb)
  refine PySem.W.callWith_K (h₀ := X.base) I.ok.mod.kin hk (thn (ha.run pos pins s σ H _ I h) fun us s1 z => ?_) he hpl
  obtain ⟨vs, H1, I1, r, q⟩ := z
  refine ⟨I1.kIn, wpAny_call ?_⟩
  have hl : us.length = ps.length := r.length.symm.trans (F.len _ _ _ _ q)
  have bb : BindsTo s1 fd ⟨us, []⟩ (ps.zip us) := by
    have z := hb s1 us I1.kIn (by rw [List.append_nil]; exact hl)
    rwa [List.append_nil] at z
  exact runG F hgd hr I1 bb r q
/-- the promise of a call whose arguments all come by names: g puts them in the parameters' order -/
structure KwOnly (K : PySem.W.Frag) (fd : FuncData) (ps ks : List Str) (g : {α : Type} → List α → List α) : Prop where
  to : ∀ (s : Shared) (ws : List Value), K.In s.heap → ws.length = ks.length → BindsTo s fd ⟨[], ks.zip ws⟩ (ps.zip (g ws))
  rel : ∀ {zs : List V} {ws : List Value}, Vals zs ws → zs.length = ks.length → Vals (g zs) (g ws)
theorem pe_kwG {g : {α : Type} → List α → List α} (F : FnG X.prog X.w X.K X.mg X.base k f fd ps sp) (hgd : Gd X.A) (hr : Room k X.A) (hg : Gl X x) (hm : X.mg x = some (.ref f)) (hk : PySem.W.keepIn X.K (.ref f) = true) (hb : KwOnly X.K fd ps ks g)
    (hkw : PK X kws tk) (hall : (backToKw pos (keywordEach kws X.env)).all (·.1.isSome) = true := by rfl) (hks : (backToKw pos (keywordEach kws X.env)).filterMap (·.1) = ks := by rfl) (hdb : (x == ("__debug__" : Str)) = false := by decide)
    (hpl : ((backTo pos (starEach [] X.env)).any (·.1) || (backToKw pos (keywordEach kws X.env)).any (·.1.isNone)) = false := by rfl) :
    PE X (.Call (.Name x p) [] kws pos) (fun σ H Q => tk σ H fun zs H1 => zs.length = ks.length ∧ sp (g zs) H1 Q E0) := by
  constructor
  intro pins s σ H Q I h
  refine wpAny_Call_Name_kw (ld_glob I hg hm ?_ hdb)
  refine PySem.W.callWith_KW0 (h₀ := X.base) I.ok.mod.kin hk hall (thn (hkw.run pos pins s σ H _ I h) fun ws s1 z => ?_) hpl
  obtain ⟨zs, H1, I1, rz, l1, q⟩ := z
  refine ⟨I1.kIn, ?_⟩
  rw [hks]
  exact wpAny_call (runG F hgd hr I1 (hb.to s1 ws I1.kIn (rz.length.symm.trans l1)) (hb.rel rz l1) q)
/-! ## repr of data -/
def rRepr (K : PySem.W.Frag) : List V → Hp → VK → Prop := fun xs H Q => ∃ (v : V) (d : PyData), xs = [v] ∧ Dp K H v d ∧ d.showable = true ∧ d.hasDict = false ∧ d.shown.length ≤ sizeLine ∧ d.depth ≤ 50 ∧ Q (.str d.shown) H
theorem call_reprD (hgd : Gd X.A) (hr : Room k X.A) : CallR X (.builtin "repr") (rRepr X.K) := by
  intro pins s σ H xs us Q I r h
  obtain ⟨v, d, rfl, hd, hs, hn, hz, hdp, q⟩ := h
  obtain ⟨u, rfl, ru⟩ := vals1 r
  obtain ⟨as, rd⟩ := Dp.reads I d v u hd ru
  have hu := hr.units
  have fin : ∀ (a : Addr), u = .ref a → wpAny (model X.prog X.w) X.A (call (.builtin "repr") [u]) (EP X pins σ Q) X.xe s := by
    intro a e
    subst e
    refine repr_of_reads' rd hs (PyData.noDict_hsm hn) hgd (by omega) (fun _ _ e => e) (fun h' u tk hk => ?_) hz
    exact ⟨.str d.shown, H, I.kept (t' := tk) hk, ⟨_, rfl⟩, q⟩
  cases hd with
  | non => cases ru; exact PySem.P.repr_of_none ⟨.str _, H, I.tok _, ⟨_, rfl⟩, by simpa only [PyData.shown] using q⟩
  | bl b => cases ru; exact PySem.P.repr_of_bool ⟨.str _, H, I.tok _, ⟨_, rfl⟩, by simpa only [PyData.shown] using q⟩
  | int i =>
    obtain ⟨t, rfl⟩ := ru
    exact PySem.P.repr_of_int (by simpa [PyData.showable] using hs) ⟨.str _, H, I.tok _, ⟨_, rfl⟩, by simpa only [PyData.shown] using q⟩
  | str y =>
    obtain ⟨t, rfl⟩ := ru
    exact PySem.P.repr_of_str ⟨.str _, H, I.tok _, ⟨_, rfl⟩, by simpa only [PyData.shown] using q⟩ (by simpa only [PyData.shown] using hz)
  | @lst a xs ds h1 h2 => exact fin a ru
  | @tup a xs ds h1 h2 => exact fin a ru
end
end KG
set_option Elab.async false
set_option linter.all false
set_option maxRecDepth 100000
set_option maxHeartbeats 4000000
/-! ## own exception classes over ValueError or KeyError: made by place and by name, init, fields -/
namespace EX
open PySem PySem.Spec PyProof.Rows
/-- what is known of the classes above an own exception class: who makes, who inits -/
structure Ab (NB nw IB ini : String) (bm : List Value) : Prop where
  ends : nw.endsWith ".__new__" = true
  owner : nw.dropRight 8 = NB
  entry : entryFor table nw = some Builtin.«BaseException.__new__»
  quiet : nw.startsWith "lifetime." = false
  nSplit : splitId nw = some (NB, "__new__")
  nKind : builtinKind nw = some .builtinFn
  nStar : (NB != "*") = true
  nSig : Manifest.signature? nw = some ⟨.any, NB, NB, .cls, [⟨"args", .varPos, false⟩, ⟨"kwargs", .varKw, false⟩]⟩
  canon : Manifest.canonical nw = Manifest.canonical "BaseException.__new__"
  iPlain : plainId ini = true
  iEntry : entryFor table ini = some Builtin.«BaseException.__init__»
  iSplit : splitId ini = some (IB, "__init__")
  iKind : builtinKind ini = some .slot
  iSig : Manifest.signature? ini = some ⟨.positional, "*", IB, .self, [⟨"args", .varPos, false⟩]⟩
  iStar : (IB != "*") = true
  hasN : bm.contains (.type NB) = true
  hasI : bm.contains (.type IB) = true
  noA : bm.contains (.type "AttributeError") = false
  noM : bm.contains (.type "NameError") = false
  hasO : bm.contains (.type "object") = true
  pass : ∀ self : Value, refuseLoop self "__setattr__" bm = pure ()
theorem has_ref (c : Addr) (l : List Value) (T : String) : (Value.ref c :: l).contains (.type T) = l.contains (.type T) := by
  rw [List.contains_cons]; rfl
theorem Ab.cons {NB nw IB ini : String} {l : List Value} (B : Ab NB nw IB ini l) (c : Addr) : Ab NB nw IB ini (.ref c :: l) :=
  { B with
    hasN := (has_ref c l NB).trans B.hasN
    hasI := (has_ref c l IB).trans B.hasI
    noA := (has_ref c l _).trans B.noA
    noM := (has_ref c l _).trans B.noM
    hasO := (has_ref c l _).trans B.hasO
    pass := fun self => by rw [refuseLoop_ref]; exact B.pass self }
theorem ab_value : Ab "ValueError" "ValueError.__new__" "ValueError" "ValueError.__init__" [.type "ValueError", .type "Exception", .type "BaseException", .type "object"] where
  ends := F.excBase_ValueError.ends
  owner := F.excBase_ValueError.owner
  entry := F.excBase_ValueError.entry
  quiet := F.excBase_ValueError.quiet
  nSplit := F.excBase_ValueError.newSplit
  nKind := F.excBase_ValueError.newKind
  nStar := F.excBase_ValueError.noStar
  nSig := F.excBase_ValueError.newRow
  canon := F.excBase_ValueError.canon
  iPlain := F.excBase_ValueError.init.plain
  iEntry := F.excBase_ValueError.initEntry
  iSplit := F.excBase_ValueError.initSplit
  iKind := F.excBase_ValueError.initKind
  iSig := F.excBase_ValueError.initRow
  iStar := F.excBase_ValueError.noStar
  hasN := F.excBase_ValueError.hasB
  hasI := F.excBase_ValueError.hasB
  noA := F.excBase_ValueError.noAttr
  noM := F.excBase_ValueError.noName
  hasO := by decide +kernel
  pass := F.store_ValueError.passes
theorem ab_key : Ab "LookupError" "LookupError.__new__" "KeyError" "KeyError.__init__" [.type "KeyError", .type "LookupError", .type "Exception", .type "BaseException", .type "object"] where
  ends := excClass_KeyError.newEnds
  owner := by decide +kernel
  entry := excClass_KeyError.newEntry
  quiet := by decide +kernel
  nSplit := by kernel_rfl
  nKind := by kernel_rfl
  nStar := by decide +kernel
  nSig := by kernel_rfl
  canon := by decide +kernel
  iPlain := excClass_KeyError.init.plain
  iEntry := excClass_KeyError.initEntry
  iSplit := excClass_KeyError.initSplit
  iKind := excClass_KeyError.initKind
  iSig := excClass_KeyError.initSig
  iStar := excClass_KeyError.notStar
  hasN := by decide +kernel
  hasI := by decide +kernel
  noA := by decide +kernel
  noM := by decide +kernel
  hasO := by decide +kernel
  pass := fun self => by kernel_rfl
section
variable {M : Model} {prog : Program} {w : World} {A : Around} {E : Value → Shared → Prop} {R : Result → Shared → Prop} {h : Heap} {g : Array GenState} {d : Drawn} {t : Nat} {os : OsState}
variable {nm q : Str} {C N : Addr} {bs bm : List Value} {hdct : Bool} {sn : List Str} {sub : List Value} {ab : Bool} {col : Option Bool} {dd : Option Addr} {k0 k1 k2 k3 k5 : Option Value} {NB nw IB ini : String}
theorem chk_new (B : Ab NB nw IB ini bm) {us : List Value} {kw : List (Str × Value)} {Q : Unit → Shared → Prop}
    (o : h.get? C = some (excClassObj nm q C N bs bm hdct sn sub ab col dd k0 k1 k2 k3 k5 nw)) (hq : Q () ⟨h, g, d, t, os⟩) : wpAny M A (checkBuiltinCall nw ⟨.ref C :: us, kw⟩) Q E ⟨h, g, d, t, os⟩ := by
  have sb : (Value.ref C :: bm).contains (.type NB) = true := (has_ref C bm NB).trans B.hasN
  have ns := B.nStar
  simp only [checkBuiltinCall, B.nKind, B.nSplit, B.nSig]
  repeat (first | refine wpAny_loadPart_at o ?_ | (refine wpAny_isSubtype_exc o ?_; rw [sb]) | refine wpAny_staticBase_exc o ?_ | refine wpAny_madeBy_exc o ?_ | simp only [bne_self_eq_false, Bool.false_eq_true, if_false] | wp_step)
  exact hq
theorem run_new (B : Ab NB nw IB ini bm) {us : List Value} {kw : List (Str × Value)} (o : h.get? C = some (excClassObj nm q C N bs bm hdct sn sub ab col dd k0 k1 k2 k3 k5 nw)) (hu : us.length ≤ sizeLine)
    (hq : R (.ok (.ret (.ref (h.objs.size + 1)))) ⟨(h.push (W.kdv_tup us)).push (HandSPX.excO C h.objs.size), g, d, t, os⟩) :
    codeAny (model prog w) A (.builtin nw ⟨.ref C :: us, kw⟩) R ⟨h, g, d, t, os⟩ := by
  have en := B.ends
  have s1 : (Value.ref C :: bm).contains (.type NB) = true := (has_ref C bm NB).trans B.hasN
  have s2 : (Value.ref C :: bm).contains (.type "AttributeError") = false := (has_ref C bm _).trans B.noA
  have s3 : (Value.ref C :: bm).contains (.type "NameError") = false := (has_ref C bm _).trans B.noM
  apply codeAny_builtinAt B.entry
  unfold Builtin.«BaseException.__new__»
  refine PySem.wpAt_bind ?_
  show PySem.wpAt _ _ _ (stack >>= _) _ _ _
  refine PySem.wpAt_bind (PySem.wpAt_stack fun pp below => ?_)
  refine PySem.wpAt_of_wpAny ?_
  wp_walk
  refine PySem.wpAt_of_wpAny ?_
  rw [B.owner]
  repeat (first | with_reducible refine wpAny_madeHere_exc B.canon o ?_ | with_reducible refine wpAny_loadPart_at o ?_ | (with_reducible refine wpAny_isSubtype_exc o ?_; first | rw [s1] | rw [s2] | rw [s3]) | wp_step)
  show R _ _
  rw [Heap.size_push]
  exact hq
theorem run_typeCall (B : Ab NB nw IB ini bm) {us : List Value} {kw : List (Str × Value)} {fI : Addr} {Q : Fin → Shared → Prop}
    (o : h.get? C = some (excClassObj nm q C N bs bm hdct sn sub ab col dd k0 k1 k2 k3 k5 nw))
    (li : W.Looks (model prog w) h (typeLookup (.ref C) "__init__") (some (.ref fI))) (lb : ∀ self, W.Looks (model prog w) h (bindSpecial (.ref fI) self) (.ref fI, [self])) (hu : us.length ≤ sizeLine)
    (hq : codeAny (model prog w) A (.call (.ref fI) ⟨.ref (h.objs.size + 1) :: us, kw⟩)
      (fun r s' => match r with | .ok (.ret v) => v = .none ∧ Q (.done (.ret (.ref (h.objs.size + 1)))) s' | .ok _ => False | .error e => E e s')
      ⟨(h.push (W.kdv_tup us)).push (HandSPX.excO C h.objs.size), g, d, t, os⟩) :
    wpAny (model prog w) A (Builtin.«type.__call__» ⟨.ref C :: us, kw⟩) Q E ⟨h, g, d, t, os⟩ := by
  repeat (first | with_reducible refine wpAny_loadPart_at o ?_ | with_reducible refine wpAny_madeBy_exc o ?_ | wp_step)
  apply codeAny_call_builtin_code (Code.quiet_builtin _ B.quiet)
  apply chk_new B o
  apply run_new B o hu
  have stay : ∀ b ob, h.get? b = some ob → ((h.push (W.kdv_tup us)).push (HandSPX.excO C h.objs.size)).get? b = some ob := fun b ob e => Heap.get?_push_of_some _ (Heap.get?_push_of_some _ e)
  have o2 := stay _ _ o
  have new : ((h.push (W.kdv_tup us)).push (HandSPX.excO C h.objs.size)).get? (h.objs.size + 1) = some (HandSPX.excO C h.objs.size) := by heap_get
  have own : (Value.ref C :: bm).contains (.ref C) = true := by simp
  have li2 := li.keeps stay
  have lb2 := (lb (.ref (h.objs.size + 1))).keeps stay
  show wpAny _ _ _ _ _ _
  unfold isInstance
  repeat (first | with_reducible refine wpAny_loadPart_at new ?_ | (with_reducible refine wpAny_isSubtype_exc o2 ?_; rw [own]) | wp_step)
  show wpAny _ _ (typeLookup (.ref C) _) _ _ _
  apply li2.at
  refine wpAny_holding (wpAny_bind (lb2.at (wpAny_bind (wpAny_call (codeAny_mono hq fun r s' z => ?_)))))
  cases r with
  | error e => exact z
  | ok fl =>
    cases fl with
    | ret v =>
      obtain ⟨rfl, z⟩ := z
      first
        | exact wpAny_pure (wpAny_pure z)
        | (wp_walk; exact z)
    | next => exact z.elim
    | brk => exact z.elim
    | cont => exact z.elim
theorem chk_typeCall {us : List Value} {kw : List (Str × Value)} {Q : Unit → Shared → Prop} (o : h.get? C = some (excClassObj nm q C N bs bm hdct sn sub ab col dd k0 k1 k2 k3 k5 nw)) (hq : Q () ⟨h, g, d, t, os⟩) :
    wpAny M A (checkBuiltinCall "type.__call__" ⟨.ref C :: us, kw⟩) Q E ⟨h, g, d, t, os⟩ := by
  have f3 := tc_sub
  have ty : (⟨h, g, d, t, os⟩ : Shared).TypeIs (.ref C) "type" := ⟨_, o, rfl⟩
  simp only [checkBuiltinCall, tc_kind, tc_split]
  repeat (any_goals (first | assumption | with_reducible refine wpAny_loadPart_at o ?_ | with_reducible refine wpAny_onRaise ?_ | with_reducible refine wpAny_map ?_ | wp_step))
/-- C(..), the class having an __init__ of its own -/
theorem call_C (B : Ab NB nw IB ini bm) {us : List Value} {kw : List (Str × Value)} {fI : Addr} (o : h.get? C = some (excClassObj nm q C N bs bm hdct sn sub ab col dd k0 k1 k2 k3 k5 nw))
    (li : W.Looks (model prog w) h (typeLookup (.ref C) "__init__") (some (.ref fI))) (lb : ∀ self, W.Looks (model prog w) h (bindSpecial (.ref fI) self) (.ref fI, [self])) (hu : us.length ≤ sizeLine)
    (hq : codeAny (model prog w) (A.under (.builtin "type.__call__" ⟨.ref C :: us, kw⟩)) (.call (.ref fI) ⟨.ref (h.objs.size + 1) :: us, kw⟩) (W.InitBack (h.objs.size + 1) R)
      ⟨(h.push (W.kdv_tup us)).push (HandSPX.excO C h.objs.size), g, d, t, os⟩) :
    codeAny (model prog w) A (.call (.ref C) ⟨us, kw⟩) R ⟨h, g, d, t, os⟩ := by
  have f1 := tc_lookup
  have f2 := tc_bind (.ref C)
  have ty : (⟨h, g, d, t, os⟩ : Shared).TypeIs (.ref C) "type" := ⟨_, o, rfl⟩
  apply codeAny_of_tree
  show wpAny _ _ (callAny (.ref C) _) _ _ _
  repeat (any_goals (first | assumption | with_reducible refine wpAny_loadPart_at o ?_ | wp_step))
  refine ⟨rfl, codeAny_call_builtin_at (Code.quiet_builtin _ (by decide +kernel)) entry_typeCall (chk_typeCall o (run_typeCall B o li lb hu (codeAny_mono hq fun r s' z => ?_)))⟩
  rcases r with e | (v | _ | _ | _) <;> exact z
/-- the __init__ above, called on an exception that is being made -/
theorem run_init (B : Ab NB nw IB ini bm) {e t0 : Addr} {us : List Value} (o : h.get? C = some (excClassObj nm q C N bs bm hdct sn sub ab col dd k0 k1 k2 k3 k5 nw)) (he : h.get? e = some (HandSPX.excO C t0)) (hu : us.length ≤ sizeLine)
    (hq : ∀ h' t1, (∀ b ob, b ≠ e → h.get? b = some ob → h'.get? b = some ob) → h'.get? e = some (HandSPX.excO C t1) → R (.ok (.ret .none)) ⟨h', g, d, t, os⟩) :
    codeAny (model prog w) A (.call (.builtin ini) ⟨.ref e :: us, []⟩) R ⟨h, g, d, t, os⟩ := by
  have sb : (Value.ref C :: bm).contains (.type IB) = true := (has_ref C bm IB).trans B.hasI
  have is := B.iStar
  apply codeAny_call_builtin B.iPlain B.iEntry
  simp only [checkBuiltinCall, B.iKind, B.iSplit, B.iSig]
  repeat (first | with_reducible refine wpAny_loadPart_at he ?_ | with_reducible refine wpAny_loadPart_at o ?_ | (with_reducible refine wpAny_isSubtype_exc o ?_; rw [sb]) | wp_step)
  apply wpAny_onRaise
  rw [show ∀ (a b : String) (n : Nat), Bind.check ⟨.positional, "*", IB, .self, [⟨"args", .varPos, false⟩]⟩ a b n (List.map (fun x => x.fst) ({ pos := Value.ref e :: us } : Args).kw) = pure () from
    fun a b n => check_star_args _ _ _ _ _ _]
  apply wpAny_pure
  wp_walk
  refine hq _ h.objs.size (fun b ob nb e1 => ?_) ?_
  · rw [Heap.get?_update_other _ _ (Ne.symm nb)]
    exact Heap.get?_push_of_some _ e1
  · rw [Heap.get?_update_self _ (Heap.get?_push_of_some _ he) rfl]
    rfl
end
end EX
set_option Elab.async false
set_option linter.all false
set_option maxRecDepth 100000
set_option maxHeartbeats 4000000
/-! ## such classes over the hand layer -/
namespace EX
open PySem PySem.Spec PyProof.Rows L2
/-- what the written part says of an own exception class -/
structure ExK (K : PySem.W.Frag) (C : Addr) (NB nw IB ini : String) : Prop where
  cls : ∃ nm q N bs bm sn sub ab col dd k0 k1 k2 k3 k5, K.lookup C = some (excClassObj nm q C N bs bm true sn sub ab col dd k0 k1 k2 k3 k5 nw) ∧ Ab NB nw IB ini bm
  sa : PySem.W.findIn K (.ref C) "__setattr__" = some (some (.builtin "object.__setattr__"))
  kC : PySem.W.keepIn K (.ref C) = true
  ga : PySem.W.findIn K (.ref C) "__getattribute__" = some (some (.builtin "BaseException.__getattribute__"))
  gg : PySem.W.findIn K (.ref C) "__getattr__" = some none
  ex : PySem.W.subIn K (.ref C) (.type "BaseException") = some true
  ty : PySem.W.typeIn K (.ref C) = some (.type "type")
  ca : PySem.W.findIn K (.ref C) "__class__" = some (some (.builtin "object.__class__"))
  ob : PySem.W.mroIn K C (.type "object") = some true
  hd : PySem.W.hasDictIn K C = true
/-- what it says of __class__'s reading -/
structure ClsR (K : PySem.W.Frag) : Prop where
  hn : PySem.W.specialIn K (.builtin "object.__class__") "__get__" = some (some (.builtin "getset_descriptor.__get__"))
  ht : PySem.W.takesIn K (.builtin "object.__class__") = some true
section
open Builtin Builtin.ObjectAttr
variable {prog : Program} {w : World} {A : Around} {E : Value → Shared → Prop} {R : Result → Shared → Prop} {hp : Heap} {g : Array GenState} {d : Drawn} {t : Nat} {os : OsState}
/-- self.name = v, the exception having no dict yet -/
theorem run_set {K : PySem.W.Frag} {name : Str} {tk : Tok} {v : Value} {x C : Addr} {fv : Array Value} {cd : ClassData} (inK : K.In hp) (hx : hp.get? x = some { cls := .ref C, data := .fields fv }) (hcd : PySem.W.clsIn K C = some cd)
    (pass : ∀ self : Value, refuseLoop self "__setattr__" cd.mro = pure ()) (obj : cd.mro.contains (.type "object") = true) (hh : cd.hasDict = true) (ha : PySem.W.findIn K (.ref C) name = some none)
    (hq : ∀ h' tk' dx, (∀ b o, b ≠ x → hp.get? b = some o → h'.get? b = some o) → hp.objs.size ≤ dx → dx ≠ x → h'.get? x = some { cls := .ref C, dict := some dx, data := .fields fv } →
      h'.Ns1 dx (fun y => if y = name then some v else none) → R (.ok (.ret .none)) ⟨h', g, d, tk', os⟩) :
    codeAny (model prog w) A (.call (.builtin "object.__setattr__") ⟨[.ref x, .str name tk, v], []⟩) R ⟨hp, g, d, t, os⟩ := by
  have J : PySem.W.InstAt hp x { cls := .ref C, data := .fields fv } C none := ⟨hx, rfl, rfl, trivial⟩
  have fs := F.store_object
  have nonE : cd.mro.isEmpty = false := by
    cases e : cd.mro with
    | nil => rw [e] at obj; cases obj
    | cons _ _ => rfl
  have xlt : x ≠ hp.objs.size := Nat.ne_of_lt (Heap.lt_size hx)
  have isO : PySem.W.Looks (model prog w) hp (isInstance (.ref x) (.type "object")) true := J.type.andThen (PySem.W.looks_mroIn inK (by unfold PySem.W.mroIn; rw [hcd, Option.bind_some, if_neg (by rw [nonE]; decide), obj]))
  apply codeAny_call_builtin fs.slot.plain fs.entry
  refine @PySem.W.check_slot (model prog w) _ _ ⟨hp, g, d, t, os⟩ "object.__setattr__" "object" "__setattr__" (.ref x) [.str name tk, v] [] _ fs.kind fs.split isO (fs.args (.ref x) (.str name tk) v) ?_
  have lm : PySem.W.Looks (model prog w) hp (mroOf (.ref C)) cd.mro := (PySem.W.looks_clsIn inK hcd).andThen .now
  have lt : PySem.W.Looks (model prog w) hp (storeTaker? none) none := .now
  have lc : PySem.W.Looks (model prog w) hp (classData C) cd := PySem.W.looks_clsIn inK hcd
  rw [PySem.W.osa_eq, refuse_eq]
  apply wpAny_bind
  apply wpAny_bind
  apply J.type.at
  apply wpAny_bind
  apply lm.at
  rw [pass]
  apply wpAny_pure
  apply wpAny_bind
  apply J.type.at
  apply wpAny_bind
  apply (PySem.W.looks_findIn inK ha).at
  apply wpAny_bind
  apply lt.at
  show wpAny _ _ (storeInOwnDict (.ref x) (.ref C) (.str name tk) name v false) _ _ _
  obtain ⟨c1, c2, c3, c4, c5, c6, c7, c8, c9, c10, c11⟩ := cd
  dsimp only at hh
  subst hh
  unfold storeInOwnDict ownDictForStores
  repeat (first | with_reducible refine HandSPX.store_in_new ?_ ?_ | with_reducible refine wpAny_loadPart_at hx ?_ | with_reducible refine lc.at ?_ | wp_step)
  · exact ⟨_, #[], _, (Heap.get?_update_ne _ _ _ _ xlt.symm).trans (Heap.get?_push_at rfl rfl), rfl, fun e he => absurd he (by simp), fun _ => rfl⟩
  · intro h' tk' hn' same
    have old : (hp.push { cls := .type "dict", data := .dict #[] }).get? x = some { cls := .ref C, data := .fields fv } := Heap.get?_push_of_some _ hx
    refine hq h' tk' hp.objs.size (fun b o nb e1 => ?_) (Nat.le_refl _) xlt.symm ?_ hn'
    · exact (same.2 b (Nat.ne_of_lt (Heap.lt_size e1))).trans ((Heap.get?_update_ne _ _ _ _ nb).trans (Heap.get?_push_of_some _ e1))
    · exact (same.2 x xlt).trans (Heap.get?_update_self _ old rfl)
end
section
variable {X : Cx} {pins : List (Addr × Obj)} {σ : L2.St} {H : Hp} {s : Shared} {a C dx : Addr} {f : Str} {y : V} {u : Value} {fs : List (Str × V)} {E : Value → Shared → Prop} {A : Around} {NB nw IB ini : String}
theorem ExK.cd {K : PySem.W.Frag} (T : ExK K C NB nw IB ini) : ∃ cd, PySem.W.clsIn K C = some cd ∧ (∀ self : Value, refuseLoop self "__setattr__" cd.mro = pure ()) ∧ cd.mro.contains (.type "object") = true ∧ cd.hasDict = true := by
  obtain ⟨nm, q, N, bs, bm, sn, sub, ab, col, dd, k0, k1, k2, k3, k5, hC, B⟩ := T.cls
  exact ⟨_, by unfold PySem.W.clsIn; rw [hC], (B.cons C).pass, (B.cons C).hasO, rfl⟩
/-- self.f = y over the layer -/
theorem set_field {Q : Unit → Shared → Prop} (T : ExK X.K C NB nw IB ini) (I : Inv X pins σ H s) (e : H a = some (exo a C none)) (hno : PySem.W.findIn X.K (.ref C) f = some none) (ry : RelV y u)
    (h : ∀ dx s', H dx = none → dx ≠ a → Inv X pins σ (upd (upd H dx (exd dx [(f, y)])) a (exo a C (some dx))) s' → Q () s') : wpAny (model X.prog X.w) A (setAttr (.ref a) f u) Q E s := by
  obtain ⟨cd, hcl, pass, obj, hh⟩ := T.cd
  obtain ⟨t1, ho⟩ := exo_at I.hok e
  obtain ⟨hp, g, d, t, os⟩ := s
  apply PySem.W.set_plain I.kIn (ox := { cls := .ref C, dict := none, data := .fields #[.ref t1, .none, .none, .none, .bool false, .none] }) (od := none) ⟨ho, rfl, rfl, trivial⟩ T.sa
  apply run_set I.kIn ho hcl pass obj hh hno
  intro h' tk' dx k dn dne hx hn
  have free : H dx = none := I.hok.fresh dn
  have newer : ∀ {b : Addr} {o : Obj}, hp.get? b = some o → b ≠ dx := fun q => Nat.ne_of_lt (Nat.lt_of_lt_of_le (Heap.lt_size q) dn)
  have na : ∀ {b : Addr}, H b = none → b ≠ a := by
    intro b n z
    rw [z, e] at n
    cases n
  have U : Un X.fs [] H (upd (upd H dx (exd dx [(f, y)])) a (exo a C (some dx))) hp h' := by
    constructor
    · intro b o q n _ _
      exact k b o (na n) q
    · intro b o q n _ _
      exact ⟨o.slots, k b o (na n) q⟩
    · intro b o q n _
      rw [upd_ne (na n), upd_ne (newer q)]
      exact n
    · intro b o q _
      by_cases hb : b = a
      · subst hb
        exact ⟨_, hx⟩
      · exact ⟨o, k b o hb q⟩
    · intro b xs q
      rw [upd_ne (at_ne e q exo_tup), upd_ne (ne_of_none q free)]
      exact q
    · intro b o v q
      rw [upd_ne (at_ne e q exo_frz), upd_ne (ne_of_none q free)]
      exact q
    · intro b ps q
      exact ⟨#[], by rw [upd_ne (at_ne e q exo_tbl), upd_ne (ne_of_none q free), q]; simp⟩
  refine h dx _ free dne (I.un (t' := tk') U ?_)
  intro b o q
  by_cases hb : b = a
  · subst hb
    rw [upd_same] at q
    cases q
    exact exo_ok hx
  · rw [upd_ne hb] at q
    by_cases hd : b = dx
    · subst hd
      rw [upd_same] at q
      cases q
      exact exd_ok hn (relO_put (fs := []) ry fun g => True.intro)
    · rw [upd_ne hd] at q
      refine (I.hok b o q).stay (fun c v hc z => k c v ?_ z) (fun c hc => ?_) fun c xs hc => ?_
      · rcases hc with hc | hc
        · rw [hc]; exact hb
        · exact at_ne e hc exo_own
      · rw [upd_ne (at_ne e hc exo_own), upd_ne (ne_of_none hc free)]
        exact hc
      · rw [upd_ne (at_ne e hc exo_tup), upd_ne (ne_of_none hc free)]
        exact hc
/-- the init above, over the layer -/
theorem init_ok {us : List Value} {Q : Value → Shared → Prop} (T : ExK X.K C NB nw IB ini) (I : Inv X pins σ H s) (e : H a = some (exo a C none)) (hl : us.length ≤ sizeLine) (h : ∀ s', Inv X pins σ H s' → Q .none s') :
    wpAny (model X.prog X.w) A (call (.builtin ini) (.ref a :: us)) Q E s := by
  obtain ⟨nm, q, N, bs, bm, sn, sub, ab, col, dd, k0, k1, k2, k3, k5, hC, B⟩ := T.cls
  obtain ⟨t1, ho⟩ := exo_at I.hok e
  obtain ⟨hp, g, d, t, os⟩ := s
  apply wpAny_call
  apply run_init B (I.kIn _ _ hC) ho hl
  intro h' t2 k hx
  have J := I.write (t' := t) (x := a) (e := a) (o := exo a C none) (by rw [e]; exact True.intro) (.inl rfl) k ⟨_, hx⟩ (exo_ok hx)
  have same : upd H a (exo a C none) = H := by
    funext b
    by_cases hb : b = a
    · rw [hb, upd_same, e]
    · exact upd_ne hb
  rw [same] at J
  exact h _ J
end
/-- self.f = e, the first field -/
def tSetF (K : PySem.W.Frag) (f : Str) (to te : TE) : TS := fun D σ H => te σ H fun y H1 => to σ H1 fun x H2 => ∃ a C : Addr, x = .ref a ∧ (∃ NB nw IB ini, ExK K C NB nw IB ini) ∧ PySem.W.findIn K (.ref C) f = some none ∧
  H2 a = some (exo a C none) ∧ ∀ dx, H2 dx = none → dx ≠ a → D.nx σ (upd (upd H2 dx (exd dx [(f, y)])) a (exo a C (some dx)))
/-- B.__init__(self, ..) -/
def tIni (K : PySem.W.Frag) (ini : String) (ta : TA) : TE := fun σ H Q => ta σ H fun vs H1 => ∃ (a C : Addr) (ws : List V), vs = .ref a :: ws ∧ ws.length ≤ 1000 ∧ (∃ NB nw IB, ExK K C NB nw IB ini) ∧ H1 a = some (exo a C none) ∧ Q .non H1
section
variable {X : Cx} {o e : Expr} {es : List Expr} {to te : TE} {ta : TA} {f : Str} {p p' p1 p2 pos : Pos}
theorem ps_setF (ho : PE X o to) (he : PE X e te) (hs : swapsWith e (some (.Attribute o f p')) pos.line X.env = pure false := by rfl) : PS X (.Assign [.Attribute o f p'] e pos) (tSetF X.K f to te) := by
  constructor
  intro pins s σ H D I h
  refine plainObj_wpAny_Assign_Attribute (thn (he.run pins s σ H _ I h) fun v s1 z1 => ?_) hs
  obtain ⟨y, H1, I1, r1, q1⟩ := z1
  refine thn (ho.run pins s1 σ H1 _ I1 q1) fun u s2 z2 => ?_
  obtain ⟨x, H2, I2, r2, a, C, rfl, ⟨NB, nw, IB, ini, T⟩, hno, ea, q⟩ := z2
  obtain rfl : u = Value.ref a := r2
  exact set_field T I2 ea hno r1 fun dx s' n ne J => ⟨σ, _, J, q dx n ne⟩
theorem ini_end {pins : List (Addr × Obj)} {s : Shared} {σ : L2.St} {H : Hp} {Q : VK} {ini : String} (I : Inv X pins σ H s) (ha : PA X (e :: es) ta) (h : tIni X.K ini ta σ H Q)
    (he : starEach (e :: es) X.env = (false, eval e X.env) :: starEach es X.env) (hpl : (backTo pos (starEach es X.env)).any (·.1) = false) :
    wpAny (model X.prog X.w) X.A (callWith pos (Value.builtin ini) [] (backTo pos (starEach (e :: es) X.env)) []) (EP X pins σ Q) X.xe s := by
  refine PyProof.Rows.callWith_method1 (thn (ha.run pos pins _ σ H _ I h) fun us s1 z => ?_) he hpl
  obtain ⟨vs, H1, I1, r1, a, C, ws, rfl, hl, ⟨NB, nw, IB, T⟩, ea, q⟩ := z
  cases r1 with
  | @cons _ u0 _ ur ra rw' =>
    obtain rfl : u0 = Value.ref a := ra
    exact init_ok T I1 ea (by rw [← Paired.length rw', sizeLine_eq]; omega) fun s' J => ⟨.non, H1, J, rfl, q⟩
/-- B.__init__(self, ..), B an own class -/
theorem pe_iniC {pl : Sem Bool} {x : Str} {B : Addr} {ini : String} (hg : Gl X x) (hm : X.mg x = some (.ref B)) (sp : PySem.W.specialIn X.K (.ref B) "__getattribute__" = some (some (.builtin "type.__getattribute__"))) (rd : PySem.W.readsIn X.K B (.type "type") = true)
    (fc : PySem.W.findCls X.K (.ref B) (.type "type") "__init__" = some (.val (.builtin ini))) (hh : PySem.W.handedIn (.builtin ini) = true) (ha : PA X (e :: es) ta) (hdb : (x == ("__debug__" : Str)) = false := by decide)
    (hc : eval (.Call (.Attribute (.Name x p1) "__init__" p2) (e :: es) [] pos) X.env = (do
      let ov ← eval (.Name x p1) X.env
      standAt p2.atName
      let (f, first) ← holding [ov] (getMethod ov "__init__" pl)
      callWith pos f first (backTo pos (starEach (e :: es) X.env)) (backToKw pos (keywordEach [] X.env))) := by rfl)
    (he : starEach (e :: es) X.env = (false, eval e X.env) :: starEach es X.env := by rfl) (hpl : (backTo pos (starEach es X.env)).any (·.1) = false := by rfl) :
    PE X (.Call (.Attribute (.Name x p1) "__init__" p2) (e :: es) [] pos) (tIni X.K ini ta) := by
  constructor
  intro pins s σ H Q I h
  refine PySem.W.methodCall_KW (ld_glob I hg hm ?_ hdb) hc
  refine PySem.W.method_cls I.kIn sp (PySem.W.cls_value I.kIn rd fc hh ?_)
  exact ini_end (I.tok _) ha h he hpl
/-- B.__init__(self, ..), B a built-in class -/
theorem pe_iniT {pl : Sem Bool} {x : Str} {B ini : String} (hg : Gl X x) (hm : X.mg x = none) (hb : bootBuiltins x = some (.type B)) (ty : typeOf (.type B) = pure (.type "type")) (st : Manifest.isStub B = false)
    (fc : PySem.W.findCls X.K (.type B) (.type "type") "__init__" = some (.val (.builtin ini))) (hh : PySem.W.handedIn (.builtin ini) = true) (ha : PA X (e :: es) ta) (hnn : x ≠ "__name__") (hdb : (x == ("__debug__" : Str)) = false := by decide)
    (hc : eval (.Call (.Attribute (.Name x p1) "__init__" p2) (e :: es) [] pos) X.env = (do
      let ov ← eval (.Name x p1) X.env
      standAt p2.atName
      let (f, first) ← holding [ov] (getMethod ov "__init__" pl)
      callWith pos f first (backTo pos (starEach (e :: es) X.env)) (backToKw pos (keywordEach [] X.env))) := by rfl)
    (he : starEach (e :: es) X.env = (false, eval e X.env) :: starEach es X.env := by rfl) (hpl : (backTo pos (starEach es X.env)).any (·.1) = false := by rfl) :
    PE X (.Call (.Attribute (.Name x p1) "__init__" p2) (e :: es) [] pos) (tIni X.K ini ta) := by
  constructor
  intro pins s σ H Q I h
  refine PySem.W.methodCall_KW (ld_blt I hg hm hb ?_ hnn hdb) hc
  obtain ⟨m, fr⟩ := I.fr
  refine PySem.W.method_type fr I.ok.mod.kin ty st fc hh ?_
  exact ini_end (I.tok _) ha h he hpl
end
end EX
set_option Elab.async false
set_option linter.all false
set_option maxRecDepth 100000
set_option maxHeartbeats 4000000
/-! ## exceptions as values: made, their fields, their kinds -/
namespace EX
open PySem PySem.Spec PyProof.Rows L2
/-- an exception that stands, its class, its dict -/
def exv (a C : Addr) (d : Option Addr) : HO := .ext fun h => ∃ (oe : Obj) (vs : Array Value), h.get? a = some oe ∧ Zc (.ref C) d oe ∧ oe.data = .fields vs
theorem exv_ok {P : Program} {w : World} {H : Hp} {h : Heap} {a C : Addr} {d : Option Addr} {oe : Obj} {vs : Array Value} (e : h.get? a = some oe) (z : Zc (.ref C) d oe) (f : oe.data = .fields vs) : ObjOk P w H h a (exv a C d) :=
  ⟨⟨oe, vs, e, z, f⟩, ⟨oe, e⟩, fun _ _ ⟨o, v, q, r⟩ k => ⟨o, v, k o q, r⟩⟩
/-- at a there is an exception of the class at C -/
def IsEx (H : Hp) (a C : Addr) : Prop := ∃ d : Option Addr, (H a = some (exo a C d) ∨ ∃ o, H a = some (.frz o (exv a C d))) ∧ ∀ dd, d = some dd → (∃ fs, H dd = some (exd dd fs)) ∨ ∃ fs, H dd = some (.xd fs)
section
variable {X : Cx} {pins : List (Addr × Obj)} {σ : L2.St} {H : Hp} {s : Shared} {a C : Addr} {NB nw IB ini : String}
theorem isEx_inst (I : Inv X pins σ H s) (h : IsEx H a C) : ∃ ox od, PySem.W.InstAt s.heap a ox C od := by
  obtain ⟨d, ha, hd⟩ := h
  have obj : ∃ oe vs, s.heap.get? a = some oe ∧ Zc (.ref C) d oe ∧ oe.data = .fields vs := by
    rcases ha with e | ⟨o, e⟩
    · obtain ⟨t, q⟩ := exo_at I.hok e
      exact ⟨_, _, q, ⟨rfl, rfl⟩, rfl⟩
    · have z : ObjOk X.prog X.w H s.heap a (.frz o (exv a C d)) := I.hok a _ e
      exact z.2.1
  obtain ⟨oe, vs, e, z, f⟩ := obj
  have no : PySem.W.notCls oe = true := by unfold PySem.W.notCls; rw [f] <;> rfl
  cases d with
  | none => exact ⟨oe, none, e, z.1, no, by rw [z.2]; trivial⟩
  | some dd =>
    have dict : ∃ od, s.heap.get? dd = some od := by
      rcases hd dd rfl with ⟨fs, q⟩ | ⟨fs, q⟩
      · obtain ⟨mA, ⟨o, _, _, ho, _⟩, _⟩ := exd_at I.hok q
        exact ⟨o, ho⟩
      · have z : ObjOk X.prog X.w H s.heap dd (.xd fs) := I.hok dd _ q
        obtain ⟨mA, ⟨o, _, _, ho, _⟩, _⟩ := z
        exact ⟨o, ho⟩
    obtain ⟨od, ho⟩ := dict
    exact ⟨oe, some od, e, z.1, no, by rw [z.2]; exact ho⟩
/-- isinstance(e, c) -/
def rIsX (K : PySem.W.Frag) : List V → Hp → VK → Prop := fun xs H Q => ∃ (a C : Addr) (c : V) (cv : Value) (b : Bool), xs = [.ref a, c] ∧ IsEx H a C ∧ (∃ NB nw IB ini, ExK K C NB nw IB ini) ∧ (∀ u, RelV c u → u = cv) ∧ PySem.W.kitOne K (.ref C) cv = some b ∧ Q (.bl b) H
theorem call_isX (R : ClsR X.K) : CallR X (.builtin "isinstance") (rIsX X.K) := by
  intro pins s σ H xs us Q I r h
  obtain ⟨a, C, c, cv, b, rfl, hx, ⟨NB, nw, IB, ini, T⟩, hcv, e, q⟩ := h
  cases r with
  | cons rx rr =>
    cases rr with
    | cons rt rr =>
      cases rr
      cases rx
      obtain rfl := hcv _ rt
      obtain ⟨ox, od, J⟩ := isEx_inst I hx
      obtain ⟨cd, hcd, _⟩ := T.cd
      exact PySem.W.kia_one (PySem.W.kitx_exc (by rw [hcd]; rfl) T.ga T.gg T.ex T.ca R.hn R.ht T.ob) I.kIn J e (fun z => nomatch z) fun tk => ⟨.bl b, H, I.kept (t' := tk) fun _ _ z => z, rfl, q⟩
/-- e.f -/
def tFld (K : PySem.W.Frag) (f : Str) (te : TE) : TE := fun σ H Q => te σ H fun x H1 => ∃ (a C d : Addr) (fs : List (Str × V)) (v : V), x = .ref a ∧ (∃ NB nw IB ini, ExK K C NB nw IB ini) ∧ PySem.W.findIn K (.ref C) f = some none ∧
  H1 a = some (exo a C (some d)) ∧ H1 d = some (exd d fs) ∧ fs.lookup f = some v ∧ Q v H1
theorem pe_fld {e : Expr} {te : TE} {pos : Pos} {f : Str} (he : PE X e te) (hb : attributeBase e f X.env (eval e X.env) = eval e X.env := by rfl) : PE X (.Attribute e f pos) (tFld X.K f te) := by
  constructor
  intro pins s σ H Q I h
  refine attr_of hb (thn (he.run pins s σ H _ I h) fun u s1 z => ?_)
  obtain ⟨x, H1, I1, rx, a, C, d, fs, v, rfl, ⟨NB, nw, IB, ini, T⟩, hno, ea, ed, l, q⟩ := z
  obtain rfl : u = Value.ref a := rx
  obtain ⟨t, ho⟩ := exo_at I1.hok ea
  obtain ⟨mA, hns, hr⟩ := exd_at I1.hok ed
  obtain ⟨u, hu, ru⟩ := RelO.some_of (v := v) (o := mA f) (by rw [← l]; exact hr f)
  obtain ⟨od, hd, hl⟩ := lookIn_ns hns
  exact HandSPX.exc_get I1.kIn ⟨ho, rfl, rfl, hd⟩ T.ga T.gg T.ex (PySem.W.findObj_own T.hd hno rfl (by rw [hl, hu])) (handed_of ru) ⟨v, H1, I1.tok _, ru, q⟩
end
/-! ### made -/
section
variable {X : Cx} {k : Nat} {fI C : Addr} {fd : FuncData} {ps ks : List Str} {sp : Sp} {x : Str} {p pos : Pos} {e : Expr} {es : List Expr} {kws : List Keyword} {ta : TA} {NB nw IB ini : String}
theorem run_mk {pins : List (Addr × Obj)} {σ : L2.St} {H : Hp} {s : Shared} {Q : VK} {us ws : List Value} {zs : List V} {kw : List (Str × Value)} (T : ExK X.K C NB nw IB ini) (iC : PySem.W.findIn X.K (.ref C) "__init__" = some (some (.ref fI)))
    (tI : PySem.W.typeIn X.K (.ref fI) = some (.type "function")) (F1 : FnOk X.prog X.w X.K X.mg X.base CX0 k fI fd ps sp) (hr : Room (k + 1) X.A) (I : Inv X pins σ H s)
    (hb : ∀ (s' : Shared) (a : Addr), X.K.In s'.heap → BindsTo s' fd ⟨.ref a :: us, kw⟩ (ps.zip (.ref a :: ws))) (r : Vals zs ws) (hu : us.length ≤ sizeLine)
    (q : ∀ a, H a = none → sp (.ref a :: zs) (upd H a (exo a C none)) (fun v H2 => v = .non ∧ Q (.ref a) H2) E0) : wpAny (model X.prog X.w) X.A (call (.ref C) us kw) (EP X pins σ Q) X.xe s := by
  obtain ⟨nm, qn, N, bs, bm, sn, sub, ab, col, dd, k0, k1, k2, k3, k5, hC, B⟩ := T.cls
  obtain ⟨hp, g, dr, tk, os⟩ := s
  have above : hp.objs.size ≤ hp.objs.size + 1 := Nat.le_succ _
  have hq := q (hp.objs.size + 1) (I.hok.fresh above)
  have stay : ∀ b o, hp.get? b = some o → ((hp.push (PySem.W.kdv_tup us)).push (HandSPX.excO C hp.objs.size)).get? b = some o := fun b o e => Heap.get?_push_of_some _ (Heap.get?_push_of_some _ e)
  have new : ((hp.push (PySem.W.kdv_tup us)).push (HandSPX.excO C hp.objs.size)).get? (hp.objs.size + 1) = some (HandSPX.excO C hp.objs.size) := by heap_get
  have J := I.laid (t' := tk) (a := hp.objs.size + 1) (o := exo (hp.objs.size + 1) C none) stay above (exo_ok new)
  have rs : Vals (V.ref (hp.objs.size + 1) :: zs) (Value.ref (hp.objs.size + 1) :: ws) := .cons rfl r
  have run := F1.run _ X.stack _ _ ⟨Value.ref (hp.objs.size + 1) :: us, kw⟩ (Value.ref (hp.objs.size + 1) :: ws) _ _ E0 (hr.make C us kw) (J.env0.make C us kw) (hb _ _ J.kIn) rs hq
  refine wpAny_call (call_C B (I.kIn _ _ hC) (PySem.W.looks_findIn I.kIn iC) (fun self => PySem.W.bind_fn I.kIn self tI) hu (codeAny_mono run fun rr s' z => ?_))
  cases rr with
  | error er => exact z.elim
  | ok fl =>
    cases fl with
    | ret u =>
      obtain ⟨v, H2, I2, rv, ev, q2⟩ := J.after z
      subst ev
      exact ⟨rv, ⟨V.ref (hp.objs.size + 1), H2, I2, rfl, q2⟩⟩
    | next => exact z.elim
    | brk => exact z.elim
    | cont => exact z.elim
/-- C(e, ..), C's own __init__ keeping sp -/
def tMkV (C : Addr) (sp : Sp) (ta : TA) : TE := fun σ H Q => ta σ H fun vs H1 => vs.length ≤ 1000 ∧ ∀ a, H1 a = none → sp (.ref a :: vs) (upd H1 a (exo a C none)) (fun v H2 => v = .non ∧ Q (.ref a) H2) E0
theorem pe_mkV (T : ExK X.K C NB nw IB ini) (iC : PySem.W.findIn X.K (.ref C) "__init__" = some (some (.ref fI))) (tI : PySem.W.typeIn X.K (.ref fI) = some (.type "function")) (F1 : FnOk X.prog X.w X.K X.mg X.base CX0 k fI fd ps sp) (hr : Room (k + 1) X.A)
    (hb : Binds X.K fd ps []) (hg : Gl X x) (hm : X.mg x = some (.ref C)) (ha : PA X (e :: es) ta) (hdb : (x == ("__debug__" : Str)) = false := by decide)
    (he : starEach (e :: es) X.env = (false, eval e X.env) :: starEach es X.env := by rfl) (hpl : (backTo pos (starEach es X.env)).any (·.1) = false := by rfl) : PE X (.Call (.Name x p) (e :: es) [] pos) (tMkV C sp ta) := by
  constructor
  intro pins s σ H Q I h
  refine wpAny_Call_Name_kw (ld_glob I hg hm ?_ hdb)
  refine PySem.W.callWith_K (h₀ := X.base) I.ok.mod.kin T.kC (thn (ha.run pos pins s σ H _ I h) fun us s1 z => ?_) he hpl
  obtain ⟨vs, H1, I1, r1, hz, q1⟩ := z
  refine ⟨I1.kIn, ?_⟩
  show wpAny _ _ (call (.ref C) us []) _ _ _
  have lus : us.length = vs.length := (Paired.length r1).symm
  refine run_mk T iC tI F1 hr I1 (fun s' a inK => ?_) r1 (by rw [lus, sizeLine_eq]; omega) q1
  have l := F1.len _ _ _ _ (q1 (s1.heap.objs.size) (I1.hok.fresh (Nat.le_refl _)))
  have z := hb s' (.ref a :: us) inK (by rw [List.append_nil, List.length_cons, lus]; exact l)
  rwa [List.append_nil] at z
/-- C(f = e), C's own __init__ keeping sp -/
def tMkK (C : Addr) (n : Nat) (sp : Sp) (ta : TA) : TE := fun σ H Q => ta σ H fun vs H1 => vs.length = n ∧ ∀ a, H1 a = none → sp (.ref a :: vs) (upd H1 a (exo a C none)) (fun v H2 => v = .non ∧ Q (.ref a) H2) E0
theorem pe_mkK (T : ExK X.K C NB nw IB ini) (iC : PySem.W.findIn X.K (.ref C) "__init__" = some (some (.ref fI))) (tI : PySem.W.typeIn X.K (.ref fI) = some (.type "function")) (F1 : FnOk X.prog X.w X.K X.mg X.base CX0 k fI fd ps sp) (hr : Room (k + 1) X.A)
    (hb : ∀ (s' : Shared) (a : Addr) (ws : List Value), X.K.In s'.heap → ws.length = ks.length → BindsTo s' fd ⟨[.ref a], ks.zip ws⟩ (ps.zip (.ref a :: ws))) (hg : Gl X x) (hm : X.mg x = some (.ref C)) (hkw : PK X kws ta)
    (hall : (backToKw pos (keywordEach kws X.env)).all (·.1.isSome) = true := by rfl) (hks : (backToKw pos (keywordEach kws X.env)).filterMap (·.1) = ks := by rfl) (hdb : (x == ("__debug__" : Str)) = false := by decide)
    (hpl : ((backTo pos (starEach [] X.env)).any (·.1) || (backToKw pos (keywordEach kws X.env)).any (·.1.isNone)) = false := by rfl) : PE X (.Call (.Name x p) [] kws pos) (tMkK C ks.length sp ta) := by
  constructor
  intro pins s σ H Q I h
  refine wpAny_Call_Name_kw (ld_glob I hg hm ?_ hdb)
  refine PySem.W.callWith_KW0 (h₀ := X.base) I.ok.mod.kin T.kC hall (thn (hkw.run pos pins s σ H _ I h) fun ws s1 z => ?_) hpl
  obtain ⟨zs, H1, I1, rz, l1, q⟩ := z
  refine ⟨I1.kIn, ?_⟩
  rw [hks]
  exact run_mk T iC tI F1 hr I1 (fun s' a inK => hb s' a ws inK (rz.length.symm.trans l1)) rz (Nat.zero_le _) q
end
/-! ### made by a class without an own __init__ -/
theorem pe_mk1 {X : Cx} {C : Addr} {bmB : List Value} {B nw ini : String} {x : Str} {e : Expr} {ta : TE} {p pos : Pos} (F : ExcBaseFacts B nw ini bmB) (q : PySem.W.excIn X.K C bmB nw = true) (gC : X.mg x = some (.ref C)) (kC : PySem.W.keepIn X.K (.ref C) = true) (hg : Gl X x)
    (he : PE X e ta) (hs : starEach [e] X.env = (false, eval e X.env) :: starEach [] X.env := by rfl) (hdb : (x == ("__debug__" : Str)) = false := by decide) :
    PE X (.Call (.Name x p) [e] [] pos) (fun σ H Q => ta σ H fun _ H1 => ∀ a, H1 a = none → Q (.ref a) (upd H1 a (exo a C none))) := by
  constructor
  intro pins s σ H Q I h
  refine wpAny_Call_Name_kw (ld_glob I hg gC ?_ hdb)
  apply PySem.W.callWith_K (h₀ := X.base) I.ok.mod.kin kC _ hs (by rfl)
  rw [hs]
  show wpAny _ _ (spliced ((false, eval e X.env) :: backTo pos (starEach [] X.env))) _ _ s
  refine Calls.spliced_cons (thn (he.run pins s σ H _ I h) fun u s1 z => Calls.spliced_nil ?_)
  obtain ⟨v, H1, I1, r1, q1⟩ := z
  refine ⟨I1.kIn, ?_⟩
  show wpAny _ _ (call (.ref C) [u]) _ _ _
  obtain ⟨bm, N, nm, qn, bs, hdct, sn, sub, ab, col, dd, k0, k1, k2, k3, k5, mN, hC, hN, hni, T⟩ := exc_obj I1.kIn q
  refine wpAny_call_exc_subT F T hC hN hni (fun h' a hm => ?_) (by show 1 ≤ sizeLine; rw [sizeLine_eq]; omega)
  have free : H1 a = none := I1.hok.gone hm.new
  obtain ⟨t, ht, _, _⟩ := hm.there
  exact ⟨.ref a, upd H1 a (exo a C none), I1.laidN hm.keeps hm.new free (exo_ok ht), rfl, q1 a free⟩
end EX
set_option Elab.async false
set_option linter.all false
set_option maxRecDepth 100000
set_option maxHeartbeats 4000000
/-! ## enumerate's end where an exception is handled -/
namespace EH
open PySem PySem.Spec PyProof.Rows HotX
section
variable {prog : Program} {w : World} {A : Around} {E : Value → Shared → Prop} {s : Shared}
theorem list_out {it l x1 : Addr} {i : Nat} {items : Array Value} {Q : Value → Shared → Prop} (hot : HotAt A x1 s.heap) (ne : x1 ≠ it) (hit : s.heap.IsListIter it l i) (hl : s.heap.IsList l items) (hx : items[i]? = none)
    (hE : ∀ h' e, Heap.ExtBut it s.heap h' → (∃ o, h'.get? e = some o ∧ o.cls = .type "StopIteration") → E (.ref e) { s with heap := h' }) :
    wpAny (model prog w) A (Builtin.SmallTypes.nextOf (.ref it)) Q E s := by
  obtain ⟨oi, hoi, hci, hdi⟩ := id hit
  obtain ⟨ol, hol, _, nl, hdl⟩ := hl
  obtain ⟨hh, o1, v1, h1, d1, c1⟩ := hot
  unfold Builtin.SmallTypes.nextOf
  apply wpAny_bind
  apply wpAny_callSpecial?_slot (name := Str.ofString "__next__") hit.typeIs slot_listiter_next
  refine wpAny_call_entry slot_listiter_next hit.typeIs entry_listiter_next ?_ (args_listiter_next _)
  show wpAny _ _ (field (.ref it) 0 >>= _) _ _ s
  refine wpAny_bind (wpAny_field hoi hdi (x := .ref l) rfl ?_)
  show wpAny _ _ (if (Value.ref l == Value.none) = true then _ else _) _ _ s
  rw [if_neg (show ¬ (Value.ref l == Value.none) = true from fun z => nomatch (show false = true from z))]
  show wpAny _ _ (field (.ref it) 1 >>= _) _ _ s
  refine wpAny_bind (wpAny_field hoi hdi (x := .int i 0) rfl ?_)
  show wpAny _ _ (seqItems? (.ref l) >>= _) _ _ s
  refine wpAny_bind (wpAny_seqItems hol hdl ?_)
  simp only [Int.toNat_natCast, hx]
  refine wpAny_bind (wpAny_rule (wpAny_bind (wpAny_setField hoi hdi (by simp) ?_)))
  show wpAny _ _ (newExc (.type "StopIteration") [] >>= _) _ _ _
  apply wpAny_bind
  simp only [newExc, newTuple]
  refine wpAny_bind (wpAny_newObj_type ?_ (by size_fits))
  refine wpAny_bind (m := firstArgMember _ _) (wpAny_of_eq (a := Value.none) (by first | rfl | (simp only [firstArgMember]; rfl)) ?_)
  refine wpAny_newObj_type ?_ (by size_fits)
  have h2 : ∀ f, (s.heap.update it f).get? x1 = some o1 := fun f => (Heap.get?_update_other _ _ (Ne.symm ne)).trans h1
  refine raiseNew_hot ⟨hh, o1, v1, Heap.get?_push_of_some _ (Heap.get?_push_of_some _ (h2 _)), d1, c1⟩ (Nat.ne_of_lt (Heap.lt_size (Heap.get?_push_of_some _ (h2 _)))) (Heap.get?_push_size _ rfl) rfl (by first | (simp; done) | (simp; omega)) ?_
  refine hE _ _ (fun b o nb eb => ?_) ⟨_, Heap.get?_update_self _ (Heap.get?_push_size _ rfl) rfl, rfl⟩
  have e2 : ∀ f, (s.heap.update it f).get? b = some o := fun f => (Heap.get?_update_other _ _ (Ne.symm nb)).trans eb
  exact (Heap.get?_update_other _ _ (Nat.ne_of_gt (Heap.lt_size (Heap.get?_push_of_some _ (e2 _))))).trans (Heap.get?_push_of_some _ (Heap.get?_push_of_some _ (e2 _)))
theorem enum_out {e it l x1 : Addr} {i : Nat} {items : Array Value} {old : Value} {Q : Option Value → Shared → Prop} (hot : HotAt A x1 s.heap) (ne : x1 ≠ it)
    (he : IsEnum s.heap e it i old) (hit : s.heap.IsListIter it l i) (hl : s.heap.IsList l items) (hx : items[i]? = none)
    (hQ : ∀ h', Heap.ExtBut it s.heap h' → Q none { s with heap := h' }) : wpAny (model prog w) A (pyNext (.ref e)) Q E s := by
  have ty : s.TypeIs (.ref e) "enumerate" := ⟨_, he, rfl⟩
  unfold pyNext
  apply wpAny_bind
  apply wpAny_attempt
  apply wpAny_callSpecial?_slot (name := Str.ofString "__next__") ty F.slot_enumerate_next
  refine wpAny_call_entry F.slot_enumerate_next ty F.entry_enumerate_next ?_ (F.args_enumerate_next_1 _)
  show wpAny _ _ (field (.ref e) 2 >>= _) _ _ _
  refine wpAny_bind (wpAny_field he rfl (x := .ref it) rfl ?_)
  refine wpAny_bind (list_out ⟨hot.1, hot.2⟩ ne hit hl hx fun h' x he' hx' => ?_)
  obtain ⟨o, ho, hc⟩ := hx'
  exact wpAny_bind (wpAny_isInstance (T := "StopIteration") (b := true) ⟨o, ho, hc⟩ isSubtype_stop (wpAny_pure (hQ _ he')))
/-- a tuple unpacked there: its end -/
theorem tup_out {it t x1 : Addr} {i : Nat} {items : Array Value} {Q : Option Value → Shared → Prop} (hot : HotAt A x1 s.heap) (ne : x1 ≠ it) (hit : s.heap.IsTupleIter it t i) (ht : s.heap.IsTuple t items) (hx : items[i]? = none)
    (hQ : ∀ h', Heap.ExtBut it s.heap h' → Q none { s with heap := h' }) : wpAny (model prog w) A (pyNext (.ref it)) Q E s := by
  obtain ⟨oi, hoi, hci, hdi⟩ := id hit
  obtain ⟨ol, hol, _, nl, hdl⟩ := ht
  obtain ⟨hh, o1, v1, h1, d1, c1⟩ := hot
  unfold pyNext
  apply wpAny_bind
  apply wpAny_attempt
  apply wpAny_callSpecial?_slot (name := Str.ofString "__next__") hit.typeIs F.slot_tuple_iterator_next
  refine wpAny_call_entry F.slot_tuple_iterator_next hit.typeIs F.entry_tuple_iterator_next ?_ (F.args_tuple_iterator_next_1 _)
  show wpAny _ _ (field (.ref it) 0 >>= _) _ _ s
  refine wpAny_bind (wpAny_field hoi hdi (x := .ref t) rfl ?_)
  show wpAny _ _ (if (Value.ref t == Value.none) = true then _ else _) _ _ s
  rw [if_neg (show ¬ (Value.ref t == Value.none) = true from fun z => nomatch (show false = true from z))]
  show wpAny _ _ (field (.ref it) 1 >>= _) _ _ s
  refine wpAny_bind (wpAny_field hoi hdi (x := .int i 0) rfl ?_)
  show wpAny _ _ (seqItems? (.ref t) >>= _) _ _ s
  refine wpAny_bind (wpAny_seqItems hol hdl ?_)
  simp only [Int.toNat_natCast, hx]
  refine wpAny_bind (wpAny_rule (wpAny_bind (wpAny_setField hoi hdi (by simp) ?_)))
  show wpAny _ _ (newExc (.type "StopIteration") [] >>= _) _ _ _
  apply wpAny_bind
  simp only [newExc, newTuple]
  refine wpAny_bind (wpAny_newObj_type ?_ (by size_fits))
  refine wpAny_bind (m := firstArgMember _ _) (wpAny_of_eq (a := Value.none) (by first | rfl | (simp only [firstArgMember]; rfl)) ?_)
  refine wpAny_newObj_type ?_ (by size_fits)
  have h2 : ∀ f, (s.heap.update it f).get? x1 = some o1 := fun f => (Heap.get?_update_other _ _ (Ne.symm ne)).trans h1
  refine raiseNew_hot ⟨hh, o1, v1, Heap.get?_push_of_some _ (Heap.get?_push_of_some _ (h2 _)), d1, c1⟩ (Nat.ne_of_lt (Heap.lt_size (Heap.get?_push_of_some _ (h2 _)))) (Heap.get?_push_size _ rfl) rfl (by first | (simp; done) | (simp; omega)) ?_
  refine wpAny_bind (wpAny_isInstance (T := "StopIteration") (b := true) ⟨_, Heap.get?_update_self _ (Heap.get?_push_size _ rfl) rfl, rfl⟩ isSubtype_stop ?_)
  refine wpAny_pure (hQ _ fun b o nb eb => ?_)
  have e2 : ∀ f, (s.heap.update it f).get? b = some o := fun f => (Heap.get?_update_other _ _ (Ne.symm nb)).trans eb
  exact (Heap.get?_update_other _ _ (Nat.ne_of_gt (Heap.lt_size (Heap.get?_push_of_some _ (e2 _))))).trans (Heap.get?_push_of_some _ (Heap.get?_push_of_some _ (e2 _)))
theorem tup_items {t x1 : Addr} {items : Array Value} {Q : List Value → Shared → Prop} (hot : HotAt A x1 s.heap) (ht : s.heap.IsTuple t items)
    (hQ : ∀ h', Heap.ExtBut s.heap.objs.size s.heap h' → Q items.toList { s with heap := h' }) : wpAny (model prog w) A (unpackItems (.ref t) items.size none) Q E s := by
  obtain ⟨hh, o1, v1, h1, d1, c1⟩ := hot
  have tne : t ≠ s.heap.objs.size := by
    obtain ⟨o, ho, _⟩ := ht
    exact Nat.ne_of_lt (Heap.lt_size ho)
  have xne : x1 ≠ s.heap.objs.size := Nat.ne_of_lt (Heap.lt_size h1)
  unfold unpackItems
  apply wpAny_bind
  unfold notIterableAtAll
  refine wpAny_bind (wpAny_specialOf ht.typeIs F.slot_tuple_iter.lookup (wpAny_pure ?_))
  simp only [Bool.false_eq_true, if_false]
  refine wpAny_bind (wpAny_holding (wpAny_pyIter_tuple ht ?_))
  refine wpAny_bind (wpAny_holding (wpAny_draw_tuple tne items.size 0 _ _ ⟨_, Heap.get?_push_size _ rfl, rfl, rfl⟩ (ht.push _) (by omega) fun h2 hit2 sb => ?_))
  rw [show List.take items.size (List.drop 0 items.toList) = items.toList by rw [List.drop_zero]; exact List.take_of_length_le (by simp), if_neg (by simp)]
  have h3 : h2.get? x1 = some o1 := sb.extBut x1 o1 xne (Heap.get?_push_of_some _ h1)
  refine wpAny_bind (wpAny_holding (tup_out ⟨hh, o1, v1, h3, d1, c1⟩ xne hit2 ((ht.push _).extBut sb.extBut tne) (by simp) fun h4 he4 => ?_))
  simp only [Option.isSome_none, Bool.false_eq_true, if_false]
  exact wpAny_pure (hQ h4 fun b o nb e => he4 b o nb (sb.extBut b o nb (Heap.get?_push_of_some _ e)))
theorem assign_tup {env : Env} {elts : List Expr} {k : Nat} {pos : Pos} {t x1 : Addr} {items : Array Value} {Q : Unit → Shared → Prop} (hot : HotAt A x1 s.heap) (ht : s.heap.IsTuple t items)
    (hn : (assignEach elts env).length = items.size) (hstar : (assignEach elts env).findIdx? (·.1) = none)
    (h : ∀ h', Heap.ExtBut s.heap.objs.size s.heap h' → wpAny (model prog w) A (assignInOrder ((assignEach elts env).map (·.2)) items.toList) Q E { s with heap := h' }) :
    wpAny (model prog w) A (assign (.Tuple elts k pos) env (.ref t)) Q E s := by
  rw [arm_assign_Tuple]
  apply wpAny_bind
  apply wpAny_standAt
  unfold unpack
  rw [hn, hstar]
  exact wpAny_bind (wpAny_holding (tup_items hot ht h))
end
end EH
set_option Elab.async false
set_option linter.all false
set_option maxRecDepth 100000
set_option maxHeartbeats 4000000
/-! ## [elt for (..) in enumerate(list) if ..] where an exception is handled -/
namespace EH
open PySem PySem.Spec PyProof.Rows HotX L2
section
variable {X : Cx} {pins : List (Addr × Obj)} {σ : L2.St} {H : Hp} {s : Shared}
/-- what stands of the enumerate object e over the list at a, behind i items -/
def EnAt (a e it : Addr) (i : Nat) (h : Heap) : Prop := (∃ old, IsEnum h e it ((i : Nat) : Int) old) ∧ h.IsListIter it a i ∧ e ≠ it
theorem EnAt.objs {a e it : Addr} {i : Nat} {h : Heap} (st : EnAt a e it i h) : ∀ b ∈ [e, it], ∃ o, h.get? b = some o ∧ ∀ v, o.data ≠ .cell v := by
  obtain ⟨⟨old, he⟩, ⟨o, ho, hc, hd⟩, _⟩ := st
  intro b hb
  have z : b = e ∨ b = it := by simpa using hb
  rcases z with rfl | rfl
  · exact ⟨_, he, fun v q => nomatch q⟩
  · exact ⟨o, ho, fun v q => by rw [hd] at q; cases q⟩
theorem EnAt.keep {a e it : Addr} {i : Nat} {h h' : Heap} (st : EnAt a e it i h) (k : ∀ b ∈ [e, it], ∀ o, h.get? b = some o → h'.get? b = some o) : EnAt a e it i h' := by
  obtain ⟨⟨old, he⟩, hi, ne⟩ := st
  exact ⟨⟨old, k e (by simp) _ he⟩, hi.at fun o q => k it (by simp) o q, ne⟩
theorem en_item {elts : List Expr} {kk : Nat} {tpos : Pos} {a e it : Addr} {i : Nat} {E : Value → Shared → Prop} {xs : List V} {x : V} {Q : Value → Shared → Prop} (I : Inv X pins σ H s) (hf : ∀ b ∈ [e, it], FpOk X pins H b) (st : EnAt a e it i s.heap)
    (hq : SqL X.K H a xs) (hx : xs[i]? = some x)
    (h : ∀ T s2, H T = none → T ∉ [e, it] → Inv X pins σ (upd H T (.tup [.int (i : Nat), x])) s2 → EnAt a e it (i + 1) s2.heap → Q (.ref T) s2) :
    wpAny (model X.prog X.w) X.A (pyNext (.ref e)) (fun r s1 => ∃ u, r = some u ∧ wpAny (model X.prog X.w) X.A (letOwnedTupleGo (.Tuple elts kk tpos) (.ref e) u) (fun _ s2 => Q u s2) E s1) E s := by
  obtain ⟨⟨old, he⟩, hit, ne⟩ := st
  obtain ⟨its, rv, pl, hz⟩ := I.list hq
  obtain ⟨u, hu, ru⟩ := rv.get hx
  have el : e < s.heap.objs.size := Heap.lt_size he
  have il : it < s.heap.objs.size := by
    obtain ⟨_, q, _⟩ := hit
    exact Heap.lt_size q
  apply wpAny_pyNext_enum_item he hit pl.isList (x := u) (by simpa using hu) ne
  intro h1 ho hit1 hT hsz hk
  refine ⟨_, rfl, wpAny_letOwnedTupleGo_enum (s := { s with heap := h1, toks := s.toks + 1 }) ho fun h2 he2 sb => ?_⟩
  have hT2 : h2.get? s.heap.objs.size = some { cls := .type "tuple", data := .seq #[.int i s.toks, u] } := (sb.2 _ (Nat.ne_of_gt el)).trans hT
  have new : ObjOk X.prog X.w (upd H s.heap.objs.size (.tup [.int (i : Nat), x])) h2 s.heap.objs.size (.tup [.int (i : Nat), x]) :=
    ⟨(by decide : 2 ≤ sizeLine), [.int i s.toks, u], .cons ⟨_, rfl⟩ (.cons ru .nil), ⟨_, hT2, rfl, _, rfl⟩⟩
  have J := I.turnedNew (t' := s.toks + 1) (ch := [e, it]) (T := s.heap.objs.size) (h' := h2) (fun b ob nb q => (sb.2 b (fun z => nb (by simp [z]))).trans (hk b ob (fun z => nb (by simp [z])) (fun z => nb (by simp [z])) q)) hf (Nat.le_refl _) new
  refine h _ _ (I.hok.fresh (Nat.le_refl _)) (fun hm => ?_) J ⟨⟨u, ?_⟩, hit1.at fun o q => (sb.2 it (Ne.symm ne)).trans q, ne⟩
  · have z : s.heap.objs.size = e ∨ s.heap.objs.size = it := by simpa using hm
    rcases z with z | z
    · exact Nat.ne_of_gt el z
    · exact Nat.ne_of_gt il z
  · have ez : ((i + 1 : Nat) : Int) = (i : Int) + 1 := by omega
    rw [ez]
    exact he2
theorem en_stop {a e it : Addr} {i : Nat} {E : Value → Shared → Prop} {xs : List V} {Q : Option Value → Shared → Prop} {x1 : Addr} (hot : HotAt X.A x1 s.heap) (nx : x1 ≠ it) (I : Inv X pins σ H s) (hf : ∀ b ∈ [e, it], FpOk X pins H b) (st : EnAt a e it i s.heap)
    (hq : SqL X.K H a xs) (hx : xs.length ≤ i) (h : ∀ s1, Inv X pins σ H s1 → Q none s1) : wpAny (model X.prog X.w) X.A (pyNext (.ref e)) Q E s := by
  obtain ⟨⟨old, he⟩, hit, ne⟩ := st
  obtain ⟨its, rv, pl, hz⟩ := I.list hq
  obtain ⟨f0, f1, f2, f3, f4, f5⟩ := hf it (by simp)
  have hl := rv.length
  exact enum_out hot nx he hit pl.isList (by simp; omega) fun h' eb => h _ (I.turned (t' := s.toks) (fun b o nb q => eb b o nb q) f0 f1 f3 f4 f5)
/-- the handled exception stands at a block's begin, out of its reach -/
def HotB (X : Cx) (s : Shared) (H : Hp) (fp : List Addr) : Prop := ∃ p : Addr × Obj, L2H.Hot1 X.A p ∧ s.heap.get? p.1 = some p.2 ∧ H p.1 = none ∧ p.1 ∉ frs X.stack ∧ p.1 ∉ fp
theorem HotB.at {s0 : Shared} {H0 : Hp} {scope : Scope} {ce : Env} {fp : List Addr} (hb : HotB X s0 H0 fp) (J : Inv (X.blk s0 H0 scope ce fp) pins σ H s) : ∃ x1, HotAt X.A x1 s.heap := by
  obtain ⟨p, ⟨hh, v1, d1, c1⟩, g, n, nf, np⟩ := hb
  exact ⟨p.1, hh, p.2, v1, J.base.keep p.1 p.2 g n nf np, d1, c1⟩
/-- a tuple of targets there -/
theorem pg_tupH {s0 : Shared} {H0 : Hp} {scope : Scope} {ce : Env} {fp : List Addr} {es : List Expr} {k : Nat} {t : TGs} {n : Nat} {pos : Pos} (hb : HotB X s0 H0 fp) (h : PGs (X.blk s0 H0 scope ce fp) es t)
    (hn : (assignEach es ce).length = n := by rfl) (hst : (assignEach es ce).findIdx? (·.1) = none := by rfl) : PG (X.blk s0 H0 scope ce fp) (.Tuple es k pos) (gTup X.K n t) := by
  constructor
  intro pins s σ H v u Q I r hw
  obtain ⟨a, xs, rfl, hq, hl, hw⟩ := hw
  cases r
  obtain ⟨its, rv, ht, hz⟩ := I.tuple hq
  obtain ⟨x1, hot⟩ := hb.at I
  refine assign_tup (A := X.A) (env := ce) hot ht (by simp [hn, ← hl, rv.length]) hst fun h' hx => ?_
  have I1 : Inv (X.blk s0 H0 scope ce fp) pins σ H { s with heap := h' } := I.kept (t' := s.toks) fun b o e => hx b o (Nat.ne_of_lt (Heap.lt_size e)) e
  exact h.run pins _ σ H xs _ Q I1 (by simpa using rv) hw
theorem pe_lcH {elt le : Expr} {elts : List Expr} {kk : Nat} {tpos p cpos : Pos} {ifs : List Expr} {scope : Scope} {own : List (Str × Nat)} {pos : Pos} {ta : TA} {g : TG} {tt : TT} {te : TE} (hc : L2H.HotC X) (hN : X.N.Nodup)
    (hg : Gl X "enumerate") (hm : X.mg "enumerate" = none) (ha : PA X [le] ta) (ok : BlkOk X.N X.env.scope scope own)
    (pg : ∀ (s : Shared) (H : Hp) (C : Addr) (cl : List (Str × Addr)) (fp : List Addr), HotB X s H fp → PG (X.blk s H scope (compEnvC scope cl C X.env) fp) (.Tuple elts kk tpos) g) (pt : ∀ (s : Shared) (H : Hp) (C : Addr) (cl : List (Str × Addr)) (fp : List Addr), PTs (X.blk s H scope (compEnvC scope cl C X.env) fp) ifs tt)
    (pe : ∀ (s : Shared) (H : Hp) (C : Addr) (cl : List (Str × Addr)) (fp : List Addr), PE (X.blk s H scope (compEnvC scope cl C X.env) fp) elt te)
    (hs : starEach [le] X.env = [(false, eval le X.env)] := by rfl) (hfs : ∀ x, foldedSetIterable (.Call (.Name "enumerate" p) [le] [] cpos) X.env x = pure x := by intro _; rfl) :
    PE X (.ListComp elt [⟨.Tuple elts kk tpos, .Call (.Name "enumerate" p) [le] [] cpos, ifs, 0⟩] scope pos) (tLc (iEnum X.K ta) g tt te (own.map (·.2))) := by
  constructor
  intro pins s σ H Q I h
  rw [eval_ListComp]
  obtain ⟨px, ⟨hh, v1, d1, c1⟩, hpx⟩ := hc
  have hfree : ∀ y ∈ scope.names, y.2 = .free → ∃ c, X.env.cells.lookup y.1 = some c := by
    intro y hy e
    cases ok.free y hy e with
    | inl k => exact I.ok.has _ (.inl k)
    | inr k => exact I.ok.has _ (.inr k)
  apply wpAny_comprehension_free (use := none) rfl hfs (closure_ok hfree) ok.kind (fun y hy e => by rw [ok.uniq y hy, e])
  refine Call_ (ld_blt I hg hm boot_enumerate (PyProof.Rows.callWith_type1 (thn (ha.run cpos pins s σ H _ I h) fun us s1 z => ?_) hs rfl))
  obtain ⟨vs, H1, I1, r1, a, xs, rfl, hq, q⟩ := z
  cases r1 with
  | cons r rr =>
  cases rr
  cases r
  obtain ⟨its, rv, pl, hz⟩ := I1.list hq
  apply call_enumerate_list pl.isList
  intro h2 he hit hsz hk
  apply wpAny_pyIter_enum he
  have I2 : Inv X pins σ H1 { s1 with heap := h2 } := I1.kept (t' := s1.toks) hk
  have st2 : EnAt a (s1.heap.objs.size + 1) s1.heap.objs.size 0 ({ s1 with heap := h2 } : Shared).heap := ⟨⟨.none, he⟩, hit, Nat.succ_ne_self _⟩
  have f2 : ∀ b ∈ [s1.heap.objs.size + 1, s1.heap.objs.size], FpOk X pins H1 b := by
    intro b hb
    have le : s1.heap.objs.size ≤ b := by
      have z : b = s1.heap.objs.size + 1 ∨ b = s1.heap.objs.size := by simpa using hb
      omega
    exact I1.fpOk le (I1.hok.fresh le)
  generalize s1.heap.objs.size + 1 = e at *
  generalize s1.heap.objs.size = it at *
  generalize ({ s1 with heap := h2 } : Shared) = s2 at *
  refine wpAny_newObj_type (newEnv_comp ?_) (Nat.zero_le _)
  have fD : H1 s2.heap.objs.size = none := I2.hok.fresh (Nat.le_refl _)
  obtain ⟨W, ⟨m0, w0⟩, turn⟩ := q s2.heap.objs.size fD
  -- the new list, the block
  have I3 : Inv X pins σ (upd H1 s2.heap.objs.size (.lst [])) { s2 with heap := s2.heap.push { cls := .type "list", data := .seq ([] : List Value).toArray } } :=
    I2.laid (t' := s2.toks) (fun b o z => Heap.get?_push_of_some _ z) (Nat.le_refl _) ⟨Nat.zero_le _, [], 0, .nil, Heap.get?_push_size _ rfl⟩
  have lt2 : ∀ b ∈ [e, it], b < s2.heap.objs.size := by
    intro b hb
    obtain ⟨o, z, _⟩ := st2.objs b hb
    exact Heap.lt_size z
  have f3 : ∀ b ∈ [e, it], FpOk X pins (upd H1 s2.heap.objs.size (.lst [])) b ∧ b < ({ s2 with heap := s2.heap.push { cls := .type "list", data := .seq ([] : List Value).toArray } } : Shared).heap.objs.size := by
    intro b hb
    refine ⟨⟨?_, (f2 b hb).2⟩, ?_⟩
    · rw [upd_ne (Nat.ne_of_lt (lt2 b hb))]
      exact (f2 b hb).1
    · show b < (s2.heap.push _).objs.size
      rw [Heap.size_push]
      exact Nat.lt_succ_of_lt (lt2 b hb)
  have st3 : EnAt a e it 0 ({ s2 with heap := s2.heap.push { cls := .type "list", data := .seq ([] : List Value).toArray } } : Shared).heap := st2.keep fun b _ o z => Heap.get?_push_of_some _ z
  generalize ({ s2 with heap := s2.heap.push { cls := .type "list", data := .seq ([] : List Value).toArray } } : Shared) = s3 at *
  generalize s2.heap.objs.size = D at *
  generalize upd H1 D (.lst []) = H3 at *
  have I4 := block_start I3 ok hN f3
  have free3 : ∀ b ∈ [e, it], H3 b = none := fun b hb => (f3 b hb).1.1
  have tst := pt s3 H3 s3.heap.objs.size (cellsFrom (s3.heap.objs.size + 1) scope.names (cloFrom X.env.cells scope.names [])) [e, it]
  have el := pe s3 H3 s3.heap.objs.size (cellsFrom (s3.heap.objs.size + 1) scope.names (cloFrom X.env.cells scope.names [])) [e, it]
  have st4 : EnAt a e it 0 ({ s3 with heap := pushCells (s3.heap.push { cls := .type "dict", data := .dict #[] }) scope.names } : Shared).heap := st3.keep fun b _ o z => pushCells_keeps _ _ _ _ (Heap.get?_push_of_some _ z)
  have pX := I3.pin px (List.mem_append_left _ hpx)
  have notP : px.1 ∉ [e, it] := by
    intro hm
    exact ((f3 _ hm).1.2.2.2.2.2) px (List.mem_append_left _ hpx) rfl
  have notF : px.1 ∉ frs X.stack := fun hm => (List.mem_cons.mp (I3.stkSub px.1 hm)).elim pX.2.2.1 pX.2.2.2.1
  have tg := pg s3 H3 s3.heap.objs.size (cellsFrom (s3.heap.objs.size + 1) scope.names (cloFrom X.env.cells scope.names [])) [e, it] ⟨px, ⟨hh, v1, d1, c1⟩, pX.1, pX.2.1, notF, notP⟩
  show codeAny _ _ (.compStart _ 0 (.ref e) (.ref D) (compEnvC scope (cellsFrom (s3.heap.objs.size + 1) scope.names (cloFrom X.env.cells scope.names [])) s3.heap.objs.size X.env)) _ { s3 with heap := pushCells (s3.heap.push { cls := .type "dict", data := .dict #[] }) scope.names }
  generalize hce : compEnvC scope (cellsFrom (s3.heap.objs.size + 1) scope.names (cloFrom X.env.cells scope.names [])) s3.heap.objs.size X.env = ce at I4 tg tst el ⊢
  have cL : ce.locals = s3.heap.objs.size := by subst hce; rfl
  generalize ({ s3 with heap := pushCells (s3.heap.push { cls := .type "dict", data := .dict #[] }) scope.names } : Shared) = s4 at *
  have hotB : ∀ {pins' : List (Addr × Obj)} {σ' : L2.St} {H' : Hp} {s' : Shared}, Inv (X.blk s3 H3 scope ce [e, it]) pins' σ' H' s' → HotAt X.A px.1 s'.heap := by
    intro pins' σ' H' s' J
    exact ⟨hh, px.2, v1, J.base.keep px.1 px.2 pX.1 pX.2.1 notF notP, d1, c1⟩
  have fpB : ∀ {σ' : L2.St} {H' : Hp} {s' : Shared}, Inv (X.blk s3 H3 scope ce [e, it]) [] σ' H' s' → (∀ b ∈ [e, it], H' b = none) → ∀ b ∈ [e, it], FpOk (X.blk s3 H3 scope ce [e, it]) [] H' b := by
    intro σ' H' s' J hn b hb
    exact ⟨hn b hb, (J.ok.exf b hb).1, J.ok.exfs b hb, .inl hb, fun x c z => (J.ok.exf b hb).2 x c z, fun pp hp => absurd (show pp ∈ ([] : List (Addr × Obj)) ++ [] from hp) (by simp)⟩
  have loop : codeAny (model X.prog X.w) X.A (.compLoop (.ListComp elt [⟨.Tuple elts kk tpos, .Call (.Name "enumerate" p) [le] [] cpos, ifs, 0⟩] scope pos) 0 (.ref e) (.ref D) ce)
      (compPost (model X.prog X.w) X.A X.xe none (EP X pins σ Q) (.ref D) s3.heap.objs.size) s4 := by
    apply compLoop_any (fun n s' => ∃ i H', Inv (X.blk s3 H3 scope ce [e, it]) [] (wipe σ (own.map (·.2))) H' s' ∧ EnAt a e it i s'.heap ∧ (∀ b ∈ [e, it], H' b = none) ∧ W i n H') _ m0 ⟨0, H3, I4, st4, free3, w0⟩
    rintro n s5 ⟨i, H5, I5, st5, n5, w5⟩
    rcases turn i n H5 w5 with ⟨⟨ys, hys, hle⟩, qq⟩ | ⟨⟨ys, y, hys, hy⟩, Nx, hNx, step⟩
    · refine en_stop (X := X.blk s3 H3 scope ce [e, it]) (hotB I5) (fun z => notP (by rw [z]; simp)) I5 (fpB I5 n5) st5 hys hle fun s6 I6 => ?_
      have I7 : Inv X pins σ H5 s6 := I3.call' (ch := [e, it]) I6.os I6.base I6.hok I6.bare fun b hb => ⟨(f3 b hb).1.2.2.2.1, (f3 b hb).1.2.1, (f3 b hb).1.2.2.2.2.1, (f3 b hb).1.2.2.2.2.2⟩
      have nC : H5 s3.heap.objs.size = none := by
        rw [← cL]
        exact I6.free
      obtain ⟨mm, hn, _⟩ := I6.loc
      have hn2 : s6.heap.Ns s3.heap.objs.size mm := by
        rw [← cL]
        exact hn
      refine ⟨mm, hn2, fun h7 sb => ?_⟩
      obtain ⟨f0, f1, f2', f3', f4', f5'⟩ := I3.fpOk (Nat.le_refl _) nC
      exact ⟨.ref D, H5, I7.turned (t' := s6.toks) (fun b o nb z => (sb.2 b nb).trans z) f0 f1 f3' f4' f5', rfl, qq⟩
    · refine wpAny_mono (en_item (X := X.blk s3 H3 scope ce [e, it]) (elts := elts) (kk := kk) (tpos := tpos) (E := fun _ _ => False)
        (Q := fun u s7 => ∃ T, u = .ref T ∧ H5 T = none ∧ T ∉ [e, it] ∧ Inv (X.blk s3 H3 scope ce [e, it]) [] (wipe σ (own.map (·.2))) (upd H5 T (.tup [.int (i : Nat), y])) s7 ∧ EnAt a e it (i + 1) s7.heap) I5 (fpB I5 n5) st5 hys hy
        (fun T s7 z1 z2 z3 z4 => ⟨T, rfl, z1, z2, z3, z4⟩)) (fun r s6 z => ?_) (fun _ _ z => z.elim)
      obtain ⟨u, rfl, z⟩ := z
      refine thnF z fun _ s7 z => ?_
      obtain ⟨T, rfl, hT, nT, I7, st7⟩ := z
      have n7 : ∀ b ∈ [e, it], (upd H5 T (.tup [.int (i : Nat), y])) b = none := fun b hb => by
        have nb : b ≠ T := fun zz => by
          rw [zz] at hb
          exact nT hb
        rw [upd_ne nb]
        exact n5 b hb
      have I7p := I7.pinned (fpB I7 n7) st7.objs
      have yl : (Ite X.K a).yld i H5 (.ref T) (upd H5 T (.tup [.int (i : Nat), y])) := ⟨T, y, rfl, hT, rfl, fun zs hzs => by rw [I5.list_inj hzs hys]; exact hy⟩
      refine thnF (tg.run _ s7 _ _ (.ref T) _ _ I7p rfl (step _ _ yl)) fun _ s8 z => ?_
      obtain ⟨σ8, H8, I8, hw8, q8⟩ := z
      refine thnF (tst.run _ s8 σ8 H8 _ I8 q8) fun b s9 z => ?_
      obtain ⟨H9, I9, q9⟩ := z
      have fin : ∀ {s' : Shared} {H' : Hp}, Inv (X.blk s3 H3 scope ce [e, it]) ([] ++ pinsAt [e, it] s7.heap) σ8 H' s' → Nx H' →
          ∃ m, m < n ∧ ∃ i H', Inv (X.blk s3 H3 scope ce [e, it]) [] (wipe σ (own.map (·.2))) H' s' ∧ EnAt a e it i s'.heap ∧ (∀ b ∈ [e, it], H' b = none) ∧ W i m H' := by
        intro s' H' J nx
        obtain ⟨m1, hm1, w1⟩ := hNx H' nx
        have stays : ∀ b ∈ [e, it], ∀ o, s7.heap.get? b = some o → s'.heap.get? b = some o ∧ H' b = none := by
          intro b hb o z
          have y := J.pin (b, o) (List.mem_append_right _ (List.mem_append_right _ (mem_pinsAt hb z)))
          exact ⟨y.1, y.2.1⟩
        refine ⟨m1, hm1, i + 1, H', (J.unpinned (pins := [])).weak (by rw [← hw8, wipe_length]) (fun j v z => ?_), st7.keep fun b hb o z => (stays b hb o z).1, fun b hb => ?_, w1⟩
        · rw [← hw8] at z
          exact (wipe_some z).1
        · obtain ⟨o, z, _⟩ := st7.objs b hb
          exact (stays b hb o z).2
      cases b with
      | false => exact fin I9 q9
      | true =>
        refine thnF (el.run _ s9 σ8 H9 _ I9 q9) fun zz s10 z => ?_
        obtain ⟨yv, H10, I10, r10, acc, hD10, hz10, nx⟩ := z
        exact app_ok (X := X.blk s3 H3 scope ce [e, it]) I10 hD10 hz10 r10 fun s11 I11 => fin I11 nx
  refine codeAny_compStart_list loop ?_
  obtain ⟨⟨old, z⟩, _⟩ := st4
  exact wpAny_pyIter_enum z loop
end
end EH
set_option Elab.async false
set_option linter.all false
set_option maxRecDepth 100000
set_option maxHeartbeats 4000000
/-! ## defs called in an except suite with the exception that it holds -/
namespace EH
open PySem PySem.Spec PyProof.Rows HotX L2 L2H
/-- the promise of a def that is called while p's exception is handled; what it keeps may speak of p -/
structure FnP (P : Program) (w : World) (K : PySem.W.Frag) (mg : Str → Option Value) (base : Heap) (k : Nat) (f : Addr) (fd : FuncData) (ps : List Str) (sp : Addr × Obj → Sp) : Prop where
  len : ∀ p vs H Q E, sp p vs H Q E → vs.length = ps.length
  go : ∀ (A : Around) (outer : List Env) (s : Shared) (H : Hp) (args : Args) (us : List Value) (vs : List V) (Q : VK) (p : Addr × Obj), RoomH k A → Hot1 A p → PinOk outer H s p → Env0 P w K mg base A outer s H →
    BindsTo s fd args (ps.zip us) → Vals vs us → sp p vs H Q E0 → codeAny (model P w) A (.call (.ref f) args) (CR CX0 outer P w H s Q E0) s
section
variable {P : Program} {w : World} {K : PySem.W.Frag} {mg : Str → Option Value} {base : Heap}
theorem okP {x qual : Str} {st : Stmt} {f : Addr} {fd : FuncData} {N ps : List Str} {k : Nat} {sp : Addr × Obj → Sp} (F : Fun K x qual st f fd) (S : FnScope N ps (defScope st)) (len : ∀ p vs H Q E, sp p vs H Q E → vs.length = ps.length)
    (hbody : ∀ (cdv : Value) (A : Around) (outer : List Env) (s : Shared) (H : Hp) (vs : List V) (Q : VK) (p : Addr × Obj), Hot1 A p → RoomH k (A.deeper (envOfC qual (defScope st) s.heap.objs.size f cdv)) → sp p vs H Q E0 →
      ∃ t, PSs (cxH CX0 P w K mg base N qual (defScope st) f cdv A outer s H E0 p).nox (defBody st) t ∧ t { nx := fun _ H' => Q .non H', rt := Q } (start N vs) H) :
    FnP P w K mg base (k + 1) f fd ps sp := by
  refine ⟨len, ?_⟩
  intro A outer s H args us vs Q p hr hot hpin e0 hb r hsp
  obtain ⟨oc, od, kV, doc, pm, an, cdv, ct, osl, rfl, lk, hcd⟩ := F.ex
  have stays : ∀ b o, base.get? b = some o → s.heap.get? b = some o := fun b o e => (e0.bs b o e).1
  have inK : K.In s.heap := e0.mod.kin.keeps stays
  have noL : s.heap.NoLimit := e0.mod.nolimit.keeps stays
  have kinds : ∀ y ∈ ps.zip us, (defScope st).names.lookup y.1 = some .local ∨ ((defScope st).names.lookup y.1 = some .cell ∧ ((cellsFrom (s.heap.objs.size + 1) (defScope st).names []).lookup y.1).isSome = true) := by
    rintro ⟨n, v⟩ hy
    have hn := (List.of_mem_zip hy).1
    cases S.par n hn with
    | inl q => exact .inl q
    | inr q => exact .inr ⟨q, PySem.W.cellsFrom_some _ _ _ (.inl q)⟩
  apply codeAny_call_function hr.depth (inK _ _ lk) rfl S.co S.gen rfl (PySem.W.codeRec_of inK hcd)
  apply hb
  apply wpAny_newFunctionEnv_cells S.kind kinds
  intro env he s1 x
  subst he
  refine ⟨noL.keeps x.toInCall.keep, codeAny_func ?_⟩
  obtain ⟨t, ht0, hq⟩ := hbody cdv A outer s H vs Q p hot (hr.deeper _) hsp
  have I := inv_startH (CX := CX0) (E := E0) (qual := qual) (f := f) (cd := cdv) S hpin e0 (len _ _ _ _ _ hsp) r x
  have done : ∀ {σ' : L2.St} {H' : Hp} {s' : Shared} {v : V} {u : Value}, Inv (cxH CX0 P w K mg base N qual (defScope st) f cdv A outer s H E0 p) [] σ' H' s' → RelV v u → Q v H' → CE outer P w H s Q u s' := by
    intro σ' H' s' v u J rv q
    exact ⟨v, H', J.os, J.bare, J.base, J.hok, rv, q⟩
  apply wpAny_mono (ht0.nox.run [] s1 (start N vs) H _ I hq)
  · intro fl s' hs
    cases fl with
    | ret u => obtain ⟨v, σ', H', J, rv, q⟩ := hs; exact done J rv q
    | next => obtain ⟨σ', H', J, q⟩ := hs; exact done (v := V.non) J rfl q
    | brk => obtain ⟨_, _, _, q⟩ := hs; exact q.elim
    | cont => obtain ⟨_, _, _, q⟩ := hs; exact q.elim
  · intro e s' hs
    exact hs
end
section
variable {X : Cx} {k : Nat} {f : Addr} {fd : FuncData} {ps : List Str} {sp : Addr × Obj → Sp} {x : Str} {pp pos : Pos} {e : Expr} {es : List Expr} {t : TA}
/-- f(e, ..) while p's exception is handled -/
theorem pe_callP {p : Addr × Obj} (F : FnP X.prog X.w X.K X.mg X.base k f fd ps sp) (hr : RoomH k X.A) (hot : Hot1 X.A p) (hp : p ∈ X.pn) (hg : Gl X x) (hm : X.mg x = some (.ref f)) (hk : PySem.W.keepIn X.K (.ref f) = true) (hb : Binds X.K fd ps [])
    (ha : PA X (e :: es) t) (hdb : (x == ("__debug__" : Str)) = false := by decide) (he : starEach (e :: es) X.env = (false, eval e X.env) :: starEach es X.env := by rfl) (hpl : (backTo pos (starEach es X.env)).any (·.1) = false := by rfl) :
    PE X (.Call (.Name x pp) (e :: es) [] pos) (fun σ H Q => t σ H fun vs H1 => sp p vs H1 Q E0) := by
  constructor
  intro pins s σ H Q I h
  refine wpAny_Call_Name_kw (ld_glob I hg hm ?_ hdb)
  refine PySem.W.callWith_K (h₀ := X.base) I.ok.mod.kin hk (thn (ha.run pos pins s σ H _ I h) fun us s1 z => ?_) he hpl
  obtain ⟨vs, H1, I1, r, q⟩ := z
  refine ⟨I1.kIn, wpAny_call ?_⟩
  have hl : us.length = ps.length := r.length.symm.trans (F.len _ _ _ _ _ q)
  have bb : BindsTo s1 fd ⟨us, []⟩ (ps.zip us) := by
    have z := hb s1 us I1.kIn (by rw [List.append_nil]; exact hl)
    rwa [List.append_nil] at z
  have P1 := I1.pin p (List.mem_append_left _ hp)
  have pin : PinOk X.stack H1 s1 p := ⟨P1.1, P1.2.1, fun hm => (List.mem_cons.mp (I1.stkSub p.1 hm)).elim P1.2.2.1 P1.2.2.2.1, P1.2.2.2.2⟩
  refine codeAny_mono (F.go X.A X.stack s1 H1 ⟨us, []⟩ us vs Q p hr hot pin I1.env0 bb r q) fun rr s' hq => ?_
  cases rr with
  | error er => exact hq.elim
  | ok fl =>
    cases fl with
    | ret u => exact I1.after hq
    | _ => exact hq.elim
/-- repr(data) there -/
theorem call_reprH (hgd : KG.Gd X.A) (hr : RoomH k X.A) : CallR X (.builtin "repr") (KG.rRepr X.K) := by
  intro pins s σ H xs us Q I r h
  obtain ⟨v, d, rfl, hd, hs, hn, hz, hdp, q⟩ := h
  obtain ⟨u, rfl, ru⟩ := vals1 r
  obtain ⟨as, rd⟩ := Dp.reads I d v u hd ru
  have hu : X.A.units + 64 < cLine := by have := hr.un; omega
  have fin : ∀ (a : Addr), u = .ref a → wpAny (model X.prog X.w) X.A (call (.builtin "repr") [u]) (EP X pins σ Q) X.xe s := by
    intro a e
    subst e
    refine repr_of_reads' rd hs (PyData.noDict_hsm hn) hgd (by omega) (fun _ _ e => e) (fun h' u tk hk => ?_) hz
    exact ⟨.str d.shown, H, I.kept (t' := tk) hk, ⟨_, rfl⟩, q⟩
  cases hd with
  | non => cases ru; exact PySem.P.repr_of_none ⟨.str _, H, I.tok _, ⟨_, rfl⟩, by simpa only [PyData.shown] using q⟩
  | bl b => cases ru; exact PySem.P.repr_of_bool ⟨.str _, H, I.tok _, ⟨_, rfl⟩, by simpa only [PyData.shown] using q⟩
  | int i =>
    obtain ⟨t, rfl⟩ := ru
    exact PySem.P.repr_of_int (by simpa [PyData.showable] using hs) ⟨.str _, H, I.tok _, ⟨_, rfl⟩, by simpa only [PyData.shown] using q⟩
  | str y =>
    obtain ⟨t, rfl⟩ := ru
    exact PySem.P.repr_of_str ⟨.str _, H, I.tok _, ⟨_, rfl⟩, by simpa only [PyData.shown] using q⟩ (by simpa only [PyData.shown] using hz)
  | @lst a xs ds h1 h2 => exact fin a ru
  | @tup a xs ds h1 h2 => exact fin a ru
/-- isinstance(e, c), e the exception that is handled, its dict known -/
def rIsP (K : PySem.W.Frag) (a C dd : Addr) : List V → Hp → VK → Prop := fun xs H Q => ∃ (c : V) (cv : Value) (b : Bool) (fs : List (Str × V)), xs = [.ref a, c] ∧ H dd = some (exd dd fs) ∧ (∀ u, RelV c u → u = cv) ∧ PySem.W.kitOne K (.ref C) cv = some b ∧ Q (.bl b) H
theorem inst_pin {p : Addr × Obj} {C dd : Addr} {fs : List (Str × V)} {pins : List (Addr × Obj)} {σ : L2.St} {H : Hp} {s : Shared} (I : Inv X pins σ H s) (hp : p ∈ X.pn) (hz : Zc (.ref C) (some dd) p.2) (hf : ∃ vs, p.2.data = .fields vs) (hd : H dd = some (exd dd fs)) :
    ∃ (mA : Str → Option Value) (od : Obj), s.heap.get? dd = some od ∧ (∀ f, PySem.W.lookIn f od = some (mA f)) ∧ (∀ f, RelO (fs.lookup f) (mA f)) ∧ PySem.W.InstAt s.heap p.1 p.2 C (some od) := by
  obtain ⟨mA, hns, hr⟩ := exd_at I.hok hd
  obtain ⟨od, ho, hl⟩ := lookIn_ns hns
  obtain ⟨vs, hv⟩ := hf
  exact ⟨mA, od, ho, hl, hr, (I.pin p (List.mem_append_left _ hp)).1, hz.1, by unfold PySem.W.notCls; rw [hv] <;> rfl, by rw [hz.2]; exact ho⟩
theorem call_isP {p : Addr × Obj} {C dd : Addr} {NB nw IB ini : String} (R : EX.ClsR X.K) (T : EX.ExK X.K C NB nw IB ini) (hp : p ∈ X.pn) (hz : Zc (.ref C) (some dd) p.2) (hf : ∃ vs, p.2.data = .fields vs) : CallR X (.builtin "isinstance") (rIsP X.K p.1 C dd) := by
  intro pins s σ H xs us Q I r h
  obtain ⟨c, cv, b, fs, rfl, hd, hcv, e, q⟩ := h
  cases r with
  | cons rx rr =>
    cases rr with
    | cons rt rr =>
      cases rr
      cases rx
      obtain rfl := hcv _ rt
      obtain ⟨mA, od, ho, hl, hr, J⟩ := inst_pin I hp hz hf hd
      obtain ⟨cd, hcd, _⟩ := T.cd
      exact PySem.W.kia_one (PySem.W.kitx_exc (by rw [hcd]; rfl) T.ga T.gg T.ex T.ca R.hn R.ht T.ob) I.kIn J e (fun z => nomatch z) fun tk => ⟨.bl b, H, I.kept (t' := tk) fun _ _ z => z, rfl, q⟩
/-- e.f, e the exception that is handled -/
def tFldP (a dd : Addr) (f : Str) (te : TE) : TE := fun σ H Q => te σ H fun x H1 => x = .ref a ∧ ∃ (fs : List (Str × V)) (v : V), H1 dd = some (exd dd fs) ∧ fs.lookup f = some v ∧ Q v H1
theorem pe_fldP {p : Addr × Obj} {C dd : Addr} {NB nw IB ini : String} {pos : Pos} {f : Str} {e : Expr} {te : TE} (T : EX.ExK X.K C NB nw IB ini) (hno : PySem.W.findIn X.K (.ref C) f = some none) (hp : p ∈ X.pn) (hz : Zc (.ref C) (some dd) p.2) (hf : ∃ vs, p.2.data = .fields vs)
    (he : PE X e te) (hb : attributeBase e f X.env (eval e X.env) = eval e X.env := by rfl) : PE X (.Attribute e f pos) (tFldP p.1 dd f te) := by
  constructor
  intro pins s σ H Q I h
  refine attr_of hb (thn (he.run pins s σ H _ I h) fun u s1 z => ?_)
  obtain ⟨x, H1, I1, rx, rfl, fs, v, hd, l, q⟩ := z
  obtain rfl : u = Value.ref p.1 := rx
  obtain ⟨mA, od, ho, hl, hr, J⟩ := inst_pin I1 hp hz hf hd
  obtain ⟨u, hu, ru⟩ := RelO.some_of (v := v) (o := mA f) (by rw [← l]; exact hr f)
  exact HandSPX.exc_get I1.kIn J T.ga T.gg T.ex (PySem.W.findObj_own T.hd hno rfl (by rw [hl, hu])) (handed_of ru) ⟨v, H1, I1.tok _, ru, q⟩
/-- what gives a new exception makes one -/
theorem pmk_new {e : Expr} {te : TE} {H0 : Hp} {K : PySem.W.Frag} (hx : X.ex = []) (h0 : X.H_0 = H0) (hK : X.K = K) (he : PE X e te) :
    L2N.PMk X e (fun σ H Q => te σ H fun x H1 => ∃ a C d, x = .ref a ∧ H1 a = some (exo a C d) ∧ Fr0 H0 a ∧ PySem.W.subIn K (.ref C) (.type "BaseException") = some true ∧ PySem.W.typeIn K (.ref C) = some (.type "type") ∧ Q (.ref C) d (delH H1 a)) := by
  subst h0 hK
  intro pins s σ H Q I h
  refine wpAny_mono (he.run pins s σ H _ I h) (fun u s1 z => ?_) fun _ _ x => x
  obtain ⟨v, H1, I1, r1, a, C, d, rfl, ha, h0, hs, ht, q⟩ := z
  cases r1
  obtain ⟨t, ho⟩ := exo_at I1.hok ha
  obtain ⟨G, gs, ga, J⟩ := I1.untrack ha h0 hx
  exact ⟨a, _, _, { s1 with heap := G }, delH H1 a, .ref C, d, rfl, J, gs, ga, ho, ⟨rfl, rfl, fun vs e => by cases e; rfl⟩, rfl, rfl, delH_same, rfl, I1.bare, raises_own hs ht, q⟩
end
end EH
set_option Elab.async false
set_option linter.all false
set_option maxRecDepth 100000
set_option maxHeartbeats 4000000
namespace K5
open PySem PySem.Spec PyProof.Rows L2 KG
def topS (i : Nat) : Stmt := PySem.Challenge.pw_midferry_k05_refusals_made.main.body.getD i (.Pass ⟨0, 0, 0, 0⟩)
/-! ### heaps and the deck -/
theorem same_upd {H : Hp} {p : Addr} {o : HO} (h : H p = none) : Same H (upd H p o) := fun b x e => by
  rw [upd_ne (ne_of_none e h)]
  exact e
structure Deck (H : Hp) (a c : Addr) : Prop where
  ex : ∃ (ns : List Int) (sd n : Int), H a = some (.lst [.ref c, .int sd, .int n]) ∧ H c = some (.lst (ns.map V.int)) ∧ ns.length ≤ 63 ∧ 0 ≤ sd ∧ sd < 2147483648
  ne : a ≠ c
/-- all but the deck is kept -/
structure Mv (a c : Addr) (H H' : Hp) : Prop where
  keep : ∀ b o, H b = some o → b ≠ a → b ≠ c → H' b = some o
  deck : Deck H' a c
theorem Mv.refl {a c : Addr} {H : Hp} (d : Deck H a c) : Mv a c H H := ⟨fun _ _ e _ _ => e, d⟩
theorem Mv.trans {a c : Addr} {H H1 H2 : Hp} (m : Mv a c H H1) (n : Mv a c H1 H2) : Mv a c H H2 := ⟨fun b o e h1 h2 => n.keep b o (m.keep b o e h1 h2) h1 h2, n.deck⟩
theorem Deck.same {a c : Addr} {H H' : Hp} (d : Deck H a c) (s : Same H H') : Deck H' a c := by
  obtain ⟨⟨ns, sd, n, h1, h2, h3⟩, ne⟩ := d
  exact ⟨⟨ns, sd, n, s _ _ h1, s _ _ h2, h3⟩, ne⟩
theorem Mv.same {a c : Addr} {H H' : Hp} (d : Deck H a c) (s : Same H H') : Mv a c H H' := ⟨fun b o e _ _ => s b o e, d.same s⟩
theorem Deck.some1 {a c : Addr} {H : Hp} (d : Deck H a c) : H a ≠ none := by
  obtain ⟨⟨ns, sd, n, h1, _⟩, _⟩ := d
  rw [h1]
  exact fun z => nomatch z
theorem Deck.some2 {a c : Addr} {H : Hp} (d : Deck H a c) : H c ≠ none := by
  obtain ⟨⟨ns, sd, n, _, h1, _⟩, _⟩ := d
  rw [h1]
  exact fun z => nomatch z
/-- what is new behind was new ahead -/
theorem Mv.free {a c : Addr} {H H' : Hp} (m : Mv a c H H') {p : Addr} (h : H' p = none) : H p = none := by
  cases q : H p with
  | none => rfl
  | some o =>
    by_cases ha : p = a
    · exact absurd (ha ▸ h) m.deck.some1
    · by_cases hc : p = c
      · exact absurd (hc ▸ h) m.deck.some2
      · rw [m.keep p o q ha hc] at h
        cases h
theorem Deck.neA {a c p : Addr} {H : Hp} (d : Deck H a c) (h : H p = none) : p ≠ a := fun e => d.some1 (e ▸ h)
theorem Deck.neC {a c p : Addr} {H : Hp} (d : Deck H a c) (h : H p = none) : p ≠ c := fun e => d.some2 (e ▸ h)
theorem dp_ints {K : PySem.W.Frag} {H : Hp} : ∀ ns : List Int, DpAll K H (ns.map V.int) (ns.map .int)
  | [] => .nil
  | n :: r => .cons (.int n) (dp_ints r)
theorem can_ints : ∀ ns : List Int, PyData.canLayAll0 (ns.map .int) = true
  | [] => rfl
  | n :: r => by
    rw [List.map_cons, PyData.canLayAll0, can_ints r]
    rfl
theorem depth_ints : ∀ ns : List Int, PyData.depthAll (ns.map .int) = 0
  | [] => rfl
  | n :: r => by
    rw [List.map_cons, PyData.depthAll, depth_ints r]
    rfl
theorem shaped_ints (ns : List Int) : SeqAt.shaped (.list (ns.map .int)) = true := by
  unfold SeqAt.shaped
  rw [PyData.canLay0, can_ints, PyData.depth, depth_ints]
  rfl
/-! ### draw -/
abbrev sDraw : Stmt := topS 16
theorem scDraw : FnScope ["_law_deck_here", "_law_ways", "_law_cell", "_law_mixed"] ["_law_deck_here", "_law_ways"] (defScope sDraw) := ⟨rfl, rfl, rfl, by decide +kernel, rfl, by decide +kernel, by decide +kernel⟩
section
variable {P : Program} {w : World} {K : PySem.W.Frag} {mg : Str → Option Value} {base : Heap}
def spDraw : Sp := fun vs H Q _ => ∃ (a c : Addr) (ways : Int), vs = [.ref a, .int ways] ∧ Deck H a c ∧ 0 < ways ∧ ways < 1000000 ∧
  ∀ r H', 0 ≤ r → r < ways → Mv a c H H' → Q (.int r) H'
theorem ok_draw {f : Addr} {fd : FuncData} {k : Nat} (F : Fun K "_law_draw" "_law_draw" sDraw f fd) : FnOk P w K mg base CX0 (k + 1) f fd ["_law_deck_here", "_law_ways"] spDraw := by
  refine F.ok scDraw (fun vs H Q E h => ?_) (fun cdv A outer s H vs Q E hr h => ?_)
  · obtain ⟨a, c, ways, rfl, _⟩ := h
    rfl
  · obtain ⟨a, c, ways, rfl, dk, w0, w1, q⟩ := h
    have SL : ∀ {H : Hp} {p : Addr} {xs : List V}, H p = some (.lst xs) → SqL K H p xs := fun h => .inl (.inl h)
    have tail : ∃ t, PSs (cxOf CX0 P w K mg base ["_law_deck_here", "_law_ways", "_law_cell", "_law_mixed"] "_law_draw" (defScope sDraw) f cdv A outer s H E).nox ((defBody sDraw).drop 3) t ∧
        ∀ (H2 : Hp) (x n : Int) (y sd : V), H2 a = some (.lst [.ref c, sd, .int n]) → Mv a c H H2 → t { nx := fun _ H' => Q .non H', rt := Q } [some (.ref a), some (.int ways), some (.int x), none] H2 := by
      refine ⟨_, pss_cons (ps_set (i := 3) scDraw.nd rfl (.inl rfl) (pe_op op_mod (pe_op op_mul (pe_op op_add (pe_op op_add (pe_op op_mod (pv 2) pe_int) (pe_op op_mul pe_int (pe_ix ix_list (pv 0) pe_int (fun _ _ => rfl)))) pe_int) pe_int) pe_int))
        (pss_cons (ps_set (i := 3) scDraw.nd rfl (.inl rfl) (pe_op op_mod (pe_op op_add (pe_op op_add (pe_op op_mul (pv 3) (pv 3)) (pe_op op_mul pe_int (pe_ix ix_list (pv 0) pe_int (fun _ _ => rfl)))) pe_int) pe_int))
        (pss_one (ps_ret (pe_op op_mod (pe_op op_fdiv (pe_op op_mod (pe_op op_add (pe_op op_mul (pv 3) (pv 3)) (pe_op op_mul pe_int (pv 3))) pe_int) pe_int) (pv 1))))), fun H2 x n y sd ha mv => ?_⟩
      refine ⟨_, rfl, _, _, rfl, rfl, (by decide : (0 : Int) < 2147483629), .ref a, rfl, a, _, 2, .int n, rfl, rfl, SL ha, rfl, _, _, rfl, rfl, .inl ⟨by decide, by decide⟩, _, _, rfl, rfl, _, _, rfl, rfl, _, _, rfl, rfl, .inr ⟨by decide, by decide⟩, _, _, rfl, rfl, (by decide : (0 : Int) < 2147483587), ?_⟩
      obtain ⟨m1, e1⟩ : ∃ m1 : Int, m1 = (x % 2147483629 + 40961 * n + 7) * 69621 % 2147483587 := ⟨_, rfl⟩
      have b1 : 0 ≤ m1 ∧ m1 < 2147483587 := by rw [e1]; omega
      refine ⟨_, rfl, _, rfl, m1, m1, by rw [e1], by rw [e1], .inl ⟨by omega, by omega⟩, .ref a, rfl, a, _, 2, .int n, rfl, rfl, SL ha, rfl, _, _, rfl, rfl, .inl ⟨by decide, by decide⟩, _, _, rfl, rfl, _, _, rfl, rfl, _, _, rfl, rfl, (by decide : (0 : Int) < 2147483647), ?_⟩
      obtain ⟨m2, e2⟩ : ∃ m2 : Int, m2 = (m1 * m1 + 48271 * n + 11) % 2147483647 := ⟨_, rfl⟩
      have b2 : 0 ≤ m2 ∧ m2 < 2147483647 := by
        rw [e2]
        exact ⟨Int.emod_nonneg _ (by decide), Int.emod_lt_of_pos _ (by decide)⟩
      refine ⟨_, rfl, _, rfl, m2, m2, by rw [e2], by rw [e2], .inl ⟨by omega, by omega⟩, _, rfl, _, m2, rfl, by rw [e2], .inl ⟨by decide, by decide⟩, _, _, rfl, rfl, _, _, rfl, rfl, (by decide : (0 : Int) < 2147483549), _, _, rfl, rfl, ⟨by decide, by decide⟩, _, rfl, _, _, rfl, rfl, w0, ?_⟩
      exact q _ _ (Int.emod_nonneg _ (by omega)) (Int.emod_lt_of_pos _ w0) mv
    obtain ⟨tt, ht, hq⟩ := tail
    refine ⟨_, pss_cons (ps_asg (pe_op op_add (pe_ix ix_list (pv 0) pe_int (fun _ _ => rfl)) pe_int) (pg_sub (pv 0) pe_int set_list))
      (pss_cons (ps_set (i := 2) scDraw.nd rfl (.inl rfl) (pe_ix ix_list (pv 0) pe_int (fun _ _ => rfl)))
      (pss_cons (ps_if (pt_cmpR (op_neD hr.units) (pe_ix ix_list (pv 0) pe_int (fun _ _ => rfl)) (pe_lst pa_nil) (nomark _))
        (pss_cons (ps_set (i := 2) scDraw.nd rfl (.inl rfl) (pe_bm0 PySem.F.plainAttrs_list PySem.F.slot_list_pop PySem.F.type_list_pop mt_pop (pe_ix ix_list (pv 0) pe_int (fun _ _ => rfl))))
        (pss_cons (ps_if (pt_cmpR op_ge (pv 2) (pe_op op_pow pe_int pe_int) (nomark _))
          (pss_cons (ps_expr (pe_bm PySem.F.plainAttrs_list PySem.F.slot_list_append PySem.F.type_list_append mt_append (pe_ix ix_list (pv 0) pe_int (fun _ _ => rfl)) (pa_cons (pe_op op_fdiv (pv 2) (pv 1)) pa_nil)))
            (pss_one (ps_ret (pe_op op_mod (pv 2) (pv 1))))) pss_nil)
        (pss_one (ps_set (i := 2) scDraw.nd rfl (.inl rfl) (pe_op op_add (pv 2) (pe_ix ix_list (pv 0) pe_int (fun _ _ => rfl))))))) pss_nil) ht)), ?_⟩
    obtain ⟨⟨ns, sd, n, ha, hc, hl, s0, s1⟩, ne⟩ := dk
    refine ⟨.ref a, rfl, a, _, 2, .int n, rfl, rfl, SL ha, rfl, _, _, rfl, rfl, .ref a, rfl, a, _, 2, 2, rfl, rfl, ha, rfl, ?_⟩
    have ha1 : upd H a (.lst [.ref c, .int sd, .int (n + 1)]) a = some (.lst [.ref c, .int sd, .int (n + 1)]) := upd_same
    have hc1 : upd H a (.lst [.ref c, .int sd, .int (n + 1)]) c = some (.lst (ns.map V.int)) := by
      rw [upd_ne ne.symm]
      exact hc
    have kp1 : ∀ b o, H b = some o → b ≠ a → b ≠ c → upd H a (.lst [.ref c, .int sd, .int (n + 1)]) b = some o := fun b o e h1 _ => by
      rw [upd_ne h1]
      exact e
    revert ha1 hc1 kp1
    show _ → _ → _ → tSeq _ _ _ _ (upd H a (.lst [.ref c, .int sd, .int (n + 1)]))
    generalize upd H a (.lst [.ref c, .int sd, .int (n + 1)]) = H1
    intro ha1 hc1 kp1
    -- cell = deck[1]; deck[0] != []
    refine ⟨.ref a, rfl, a, _, 1, .int sd, rfl, rfl, SL ha1, rfl, ?_⟩
    refine ⟨.ref a, rfl, a, _, 0, .ref c, rfl, rfl, SL ha1, rfl, Nat.zero_le _, fun e he => ?_⟩
    have ha2 := same_upd (o := .lst []) he _ _ ha1
    have hc2 := same_upd (o := .lst []) he _ _ hc1
    have kp2 : ∀ b o, H b = some o → b ≠ a → b ≠ c → upd H1 e (.lst []) b = some o := fun b o z h1 h2 => same_upd (o := .lst []) he _ _ (kp1 b o z h1 h2)
    have hE2 : upd H1 e (.lst []) e = some (.lst []) := upd_same
    revert ha2 hc2 kp2 hE2
    generalize upd H1 e (.lst []) = H2
    intro ha2 hc2 kp2 hE2
    refine ⟨.list (ns.map .int), .list [], .lst (SL hc2) (dp_ints ns), .lst (SL hE2) .nil, shaped_ints ns, rfl, _, rfl, ?_⟩
    have hne : (!PyData.eqv (.list (ns.map .int)) (.list [])) = !ns.isEmpty := by
      cases ns <;> rfl
    rw [hne]
    cases ns with
    | nil => exact iteF (hq H2 sd (n + 1) .non (.int sd) ha2 ⟨kp2, ⟨⟨[], sd, n + 1, ha2, hc2, hl, s0, s1⟩, ne⟩⟩)
    | cons z r =>
      refine iteT ?_
      obtain ⟨i1, x, el⟩ : ∃ i1 x, z :: r = i1 ++ [x] := ⟨_, _, (List.dropLast_concat_getLast (List.cons_ne_nil z r)).symm⟩
      rw [el] at hc2 hl
      rw [List.map_append] at hc2
      have lx : (i1.map V.int ++ [x].map V.int)[(i1.map V.int ++ [x].map V.int).length - 1]? = some (.int x) := by simp
      refine ⟨.ref a, rfl, a, _, 0, .ref c, rfl, rfl, SL ha2, rfl, .inl ⟨rfl, _, SL hc2⟩, c, _, .int x, rfl, rfl, hc2, lx, ?_⟩
      have ed : (i1.map V.int ++ [x].map V.int).dropLast = i1.map V.int := by simp
      rw [ed]
      have ha3 : upd H2 c (.lst (i1.map V.int)) a = some (.lst [.ref c, .int sd, .int (n + 1)]) := by
        rw [upd_ne ne]
        exact ha2
      have hc3 : upd H2 c (.lst (i1.map V.int)) c = some (.lst (i1.map V.int)) := upd_same
      have kp3 : ∀ b o, H b = some o → b ≠ a → b ≠ c → upd H2 c (.lst (i1.map V.int)) b = some o := fun b o z h1 h2 => by
        rw [upd_ne h2]
        exact kp2 b o z h1 h2
      revert ha3 hc3 kp3
      generalize upd H2 c (.lst (i1.map V.int)) = H3
      intro ha3 hc3 kp3
      have hl3 : i1.length + 1 ≤ 63 := by simpa using hl
      refine ⟨_, rfl, _, _, rfl, rfl, ⟨by decide, by decide, by decide⟩, _, _, rfl, rfl, _, rfl, ite2 (fun hge => ?_) (fun hlt => ?_)⟩
      · refine ⟨.ref a, rfl, a, _, 0, .ref c, rfl, rfl, SL ha3, rfl, .inl ⟨rfl, _, SL hc3⟩, _, rfl, _, rfl, _, _, rfl, rfl, ⟨by omega, by omega⟩, c, _, _, rfl, rfl, hc3, ?_, ?_⟩
        · rw [List.length_map, sizeLine_eq]
          omega
        · refine ⟨_, rfl, _, rfl, _, _, rfl, rfl, w0, ?_⟩
          refine q _ _ (Int.emod_nonneg _ (by omega)) (Int.emod_lt_of_pos _ w0) ⟨fun b o z h1 h2 => by rw [upd_ne h2]; exact kp3 b o z h1 h2, ⟨⟨i1 ++ [x / ways], sd, n + 1, by rw [upd_ne ne]; exact ha3, by rw [upd_same, List.map_append]; rfl, by simpa using hl3, s0, s1⟩, ne⟩⟩
      · refine ⟨_, rfl, .ref a, rfl, a, _, 1, .int sd, rfl, rfl, SL ha3, rfl, _, _, rfl, rfl, ?_⟩
        exact hq H3 _ (n + 1) .non (.int sd) ha3 ⟨kp3, ⟨⟨i1, sd, n + 1, ha3, hc3, by omega, s0, s1⟩, ne⟩⟩
/-! ### deck -/
abbrev sDeck : Stmt := topS 15
theorem scDeck : FnScope ["_law_script", "_law_cells", "_law_seed", "_law_cell"] ["_law_script"] (defScope sDeck) := ⟨rfl, rfl, rfl, by decide +kernel, rfl, by decide +kernel, by decide +kernel⟩
def spDeck (K : PySem.W.Frag) : Sp := fun vs H Q _ => ∃ (b : Addr) (ns : List Int), vs = [.ref b] ∧ SqL K H b (ns.map V.int) ∧ ns.length ≤ 63 ∧
  ∀ a c H', Same H H' → H a = none → H c = none → Deck H' a c → Q (.ref a) H'
theorem ok_deck {f : Addr} {fd : FuncData} {k : Nat} (F : Fun K "_law_deck" "_law_deck" sDeck f fd) (ml : mg "list" = none) : FnOk P w K mg base CX0 (k + 1) f fd ["_law_script"] (spDeck K) := by
  refine F.ok scDeck (fun vs H Q E h => ?_) (fun cdv A outer s H vs Q E hr h => ?_)
  · obtain ⟨b, ns, rfl, _⟩ := h
    rfl
  · obtain ⟨b, ns, rfl, hb, hl, q⟩ := h
    have SL : ∀ {H : Hp} {p : Addr} {xs : List V}, H p = some (.lst xs) → SqL K H p xs := fun h => .inl (.inl h)
    refine ⟨_, pss_cons (ps_par (i := 1) (j := 2) (by rfl) scDeck.nd rfl rfl (by decide) rfl rfl (pa_cons (pe_callTy call_list_of (by rfl) ml (by decide +kernel) (pa_cons (pe_slice sl_list (pv 0) po_none (po_some pe_int)) pa_nil)) (pa_cons pe_int pa_nil)) (by rfl))
      (pss_cons (ps_for PassesOwn.never rfl (pi_list (pv 1)) (pg_name (i := 3) scDeck.nd rfl (.inl rfl))
        (pss_one (ps_set (i := 2) scDeck.nd rfl (.inl rfl) (pe_op op_mod (pe_op op_add (pe_op op_add (pe_op op_mul (pv 2) pe_int) (pe_op op_mod (pv 3) pe_int)) pe_int) pe_int))))
      (pss_one (ps_ret (pe_lst (pa_cons (pe_revL (pv 1)) (pa_cons (pv 2) (pa_cons pe_int pa_nil))))))), ?_⟩
    refine ⟨.ref b, rfl, _, rfl, b, _, rfl, hb, fun p hp => ⟨p, _, rfl, .inl (SL upd_same), fun l hl1 => ⟨_, _, rfl, ?_⟩⟩⟩
    have ecut : cutV (ns.map V.int) none (some 63) = (ns.map V.int) := by
      unfold cutV
      rw [HT.sIx_none, show HT.sIx (ns.map V.int).length (ns.map V.int).length (some 63) = min 63 (ns.map V.int).length from HT.sIx_nat _ _ 63]
      rw [show min 63 (ns.map V.int).length = (ns.map V.int).length by rw [List.length_map]; omega]
      simp
      exact List.take_of_length_le (by simp)
    rw [ecut]
    rw [ecut] at hl1
    have sm1 : Same H (upd (upd H p (.lst (ns.map V.int))) l (.lst (ns.map V.int))) := (same_upd hp).trans (same_upd hl1)
    have hl2 : upd (upd H p (.lst (ns.map V.int))) l (.lst (ns.map V.int)) l = some (.lst (ns.map V.int)) := upd_same
    revert sm1 hl2
    generalize upd (upd H p (.lst (ns.map V.int))) l (.lst (ns.map V.int)) = H1
    intro sm1 hl2
    refine ⟨.ref l, rfl, l, rfl, ⟨_, SL hl2⟩, for_list (K := K) (a := l) (xs := ns.map V.int) (fun i σ H' => H' = H1 ∧ ∃ (sd : Int) (v : Option V), σ = [some (.ref b), some (.ref l), some (.int sd), v] ∧ 0 ≤ sd ∧ sd < 2147483648)
      ⟨rfl, 8191, none, rfl, by decide, by decide⟩ (fun i σ H' _ z => by rw [z.1]; exact SL hl2) ?_ ?_⟩
    · rintro i y σ H' hi ⟨rfl, sd, v, rfl, s0, s1⟩
      obtain ⟨z, hz, rfl⟩ : ∃ z, ns[i]? = some z ∧ y = V.int z := by
        rw [List.getElem?_map] at hi
        cases e : ns[i]? with
        | none => rw [e] at hi; cases hi
        | some z => rw [e] at hi; exact ⟨z, rfl, (Option.some.inj hi).symm⟩
      refine ⟨_, rfl, _, _, rfl, rfl, .inr ⟨by decide, by decide⟩, _, rfl, _, _, rfl, rfl, (by decide : (0 : Int) < 2147483563), _, _, rfl, rfl, _, _, rfl, rfl, _, _, rfl, rfl, (by decide : (0 : Int) < 2147483647), rfl, _, some (.int z), rfl, ?_, ?_⟩
      · exact Int.emod_nonneg _ (by decide)
      · exact Int.lt_trans (Int.emod_lt_of_pos _ (by decide)) (by decide)
    · rintro σ H' ⟨rfl, sd, v, rfl, s0, s1⟩
      refine ⟨.ref l, rfl, l, _, rfl, SL hl2, fun c hc => ⟨_, rfl, (by show 3 ≤ sizeLine; decide), fun a ha => ?_⟩⟩
      have nac : a ≠ c := fun e => by
        rw [e, upd_same] at ha
        cases ha
      refine q a c _ (sm1.trans ((same_upd hc).trans (same_upd ha))) (((sm1.trans (same_upd hc)).free ha)) (sm1.free hc) ⟨⟨ns.reverse, sd, 0, upd_same, ?_, by simpa using hl, s0, s1⟩, nac⟩
      rw [upd_ne nac.symm, upd_same, List.map_reverse]
/-! ### pick -/
abbrev sPick : Stmt := topS 17
theorem scPick : FnScope ["_law_deck_here", "_law_some"] ["_law_deck_here", "_law_some"] (defScope sPick) := ⟨rfl, rfl, rfl, by decide +kernel, rfl, by decide +kernel, by decide +kernel⟩
def spPick (K : PySem.W.Frag) : Sp := fun vs H Q _ => ∃ (a c : Addr), Deck H a c ∧ ((∃ (p : Addr) (xs : List V), vs = [.ref a, .ref p] ∧ SqL K H p xs ∧ p ≠ a ∧ p ≠ c ∧ xs ≠ [] ∧ xs.length < 1000 ∧ ∀ x H', x ∈ xs → Mv a c H H' → Q x H') ∨
  (vs = [.ref a, .str "abcdefghijklmnopqrstuvwxyz"] ∧ ∀ n H', 97 ≤ n → n ≤ 122 → Mv a c H H' → Q (.str ⟨#[n]⟩) H'))
theorem Mv.sql {K : PySem.W.Frag} {a c p : Addr} {H H' : Hp} {xs : List V} (m : Mv a c H H') (h : SqL K H p xs) (h1 : p ≠ a) (h2 : p ≠ c) : SqL K H' p xs := by
  rcases h with (h | ⟨o, h⟩) | h
  · exact .inl (.inl (m.keep _ _ h h1 h2))
  · exact .inl (.inr ⟨o, m.keep _ _ h h1 h2⟩)
  · exact .inr h
theorem ok_pick {f fD : Addr} {fd fdD : FuncData} {k : Nat} (F : Fun K "_law_pick" "_law_pick" sPick f fd) (ml : mg "len" = none) (FD : Fun K "_law_draw" "_law_draw" sDraw fD fdD) (gD : mg "_law_draw" = some (.ref fD)) (bD : Binds K fdD ["_law_deck_here", "_law_ways"] []) :
    FnOk P w K mg base CX0 (k + 2) f fd ["_law_deck_here", "_law_some"] (spPick K) := by
  have GD : FnOk P w K mg base CX0 (k + 1) fD fdD ["_law_deck_here", "_law_ways"] spDraw := ok_draw FD
  refine F.ok scPick (fun vs H Q E h => ?_) (fun cdv A outer s H vs Q E hr h => ?_)
  · obtain ⟨a, c, dk, ⟨p, xs, rfl, _⟩ | ⟨rfl, _⟩⟩ := h <;> rfl
  · obtain ⟨a, c, dk, h⟩ := h
    refine ⟨_, pss_one (ps_ret (pe_ix ix_seq (pv 1) (pe_call GD hr (by rfl) gD FD.kp bD .nil pass0 (pa_cons (pv 0) (pa_cons (pe_callB (call_len_seq.or call_len_str) (by rfl) ml PySem.boot_len (pa_cons (pv 1) pa_nil)) pa_nil))) (fun _ _ => rfl))), ?_⟩
    rcases h with ⟨p, xs, rfl, hp, na, nc, x0, xl, q⟩ | ⟨rfl, q⟩
    · have l0 : 0 < xs.length := List.length_pos_iff.mpr x0
      refine ⟨.ref p, rfl, .ref a, rfl, .ref p, rfl, .inl ⟨p, xs, rfl, .inl hp, a, c, xs.length, rfl, dk, by omega, by omega, fun r H' r0 r1 mv => ?_⟩⟩
      obtain ⟨j, rfl⟩ := Int.eq_ofNat_of_zero_le r0
      have hj : j < xs.length := by omega
      exact .inl ⟨p, xs, _, xs[j], rfl, rfl, mv.sql hp na nc, atI_nat (List.getElem?_eq_getElem hj), q _ _ (List.getElem_mem hj) mv⟩
    · have lz : (("abcdefghijklmnopqrstuvwxyz" : Str)).length ≤ sizeLine := by decide +kernel
      have l26 : (("abcdefghijklmnopqrstuvwxyz" : Str)).length = 26 := by decide +kernel
      refine ⟨_, rfl, .ref a, rfl, _, rfl, .inr ⟨_, rfl, lz, a, c, _, rfl, dk, by rw [l26]; decide, by rw [l26]; decide, fun r H' r0 r1 mv => ?_⟩⟩
      obtain ⟨j, rfl⟩ := Int.eq_ofNat_of_zero_le r0
      rw [l26] at r1
      have hj : j < 26 := by omega
      have sg : ∀ j ∈ List.range 26, (("abcdefghijklmnopqrstuvwxyz" : Str)).cps.toList[j]? = some (97 + j) := by decide +kernel
      exact .inr (.inr ⟨_, (j : Int), 97 + j, rfl, rfl, lz, atI_nat (sg j (List.mem_range.mpr hj)), q _ _ (by omega) (by omega) mv⟩)
end
end K5
set_option Elab.async false
set_option linter.all false
set_option maxRecDepth 100000
set_option maxHeartbeats 4000000
namespace K5
open PySem PySem.Spec PyProof.Rows L2 KG
/-! ### texts -/
def mkS (l : List Nat) : Str := ⟨l.toArray⟩
theorem mkS_codes (l : List Nat) : (mkS l).cps.toList = l := by simp [mkS]
theorem mkS_len (l : List Nat) : (mkS l).length = l.length := by
  show (mkS l).cps.size = l.length
  simp [mkS]
theorem str_eta (x : Str) : x = mkS x.cps.toList := by
  cases x
  simp [mkS]
theorem app_mk (a b : List Nat) : mkS a ++ mkS b = mkS (a ++ b) := by
  show (⟨a.toArray ++ b.toArray⟩ : Str) = ⟨(a ++ b).toArray⟩
  simp
theorem joinL_one : ∀ l : List Nat, TL.joinL [] (l.map fun c => [c]) = l
  | [] => rfl
  | [_] => rfl
  | a :: b :: r => by
    show [a] ++ ([] ++ TL.joinL [] ((b :: r).map fun c => [c])) = _
    rw [joinL_one (b :: r)]
    rfl
theorem join_signs (l : List Nat) : Txt.join "" (l.map fun c => (⟨#[c]⟩ : Str)) = mkS l := by
  rw [TL.join_eq, str_eta (Str.join "" _)]
  refine congrArg mkS ?_
  have e := TL.tl_join "" (l.map fun c => (⟨#[c]⟩ : Str))
  have e2 : TL.tl (Str.join "" (l.map fun c => (⟨#[c]⟩ : Str))) = (Str.join "" (l.map fun c => (⟨#[c]⟩ : Str))).cps.toList := rfl
  rw [← e2, e, List.map_map]
  have e3 : TL.tl "" = [] := by decide +kernel
  rw [e3]
  exact joinL_one l
theorem signs_sum (cs : List Nat) : ((cs.map fun c => (⟨#[c]⟩ : Str)).map (·.length)).sum = cs.length := by
  induction cs with
  | nil => rfl
  | cons x r ih =>
    rw [List.map_cons, List.map_cons, List.sum_cons, ih, List.length_cons, Nat.add_comm]
    rfl
/-! ### things -/
/-- a text of few plain signs -/
structure Tx (x : Str) : Prop where
  len : x.length ≤ 17
  low : ∀ c ∈ x.cps.toList, c = 32 ∨ (97 ≤ c ∧ c ≤ 122)
theorem Tx.text {x : Str} (h : Tx x) : (reprText x).length ≤ 172 := by
  have z := StrLaws.reprText_len x fun c hc => by
    have := h.low c hc
    omega
  have := h.len
  omega
/-- a thing: its value, its data -/
inductive Thg (K : PySem.W.Frag) (H : Hp) : V → PyData → Prop
  | str {x : Str} (h : Tx x) : Thg K H (.str x) (.str x)
  | int {n : Int} (h : n.natAbs ≤ 50) : Thg K H (.int n) (.int n)
  | two {p : Addr} {x : Str} {n : Int} (e : H p = some (.tup [.str x, .int n])) (h : Tx x) (h' : n.natAbs ≤ 50) : Thg K H (.ref p) (.tuple [.str x, .int n])
  | non : Thg K H .non .none
  | nil {p : Addr} (e : H p = some (.tup [])) : Thg K H (.ref p) (.tuple [])
theorem Thg.dp {K : PySem.W.Frag} {H : Hp} {v : V} {d : PyData} (h : Thg K H v d) : Dp K H v d := by
  cases h with
  | str h => exact .str _
  | int h => exact .int _
  | two e h h' => exact .tup (.inl (.inl e)) (.cons (.str _) (.cons (.int _) .nil))
  | non => exact .non
  | nil e => exact .tup (.inl (.inl e)) .nil
theorem Thg.keep {K : PySem.W.Frag} {H H' : Hp} {v : V} {d : PyData} (h : Thg K H v d) (k : ∀ p xs, H p = some (.tup xs) → H' p = some (.tup xs)) : Thg K H' v d := by
  cases h with
  | str h => exact .str h
  | int h => exact .int h
  | two e h h' => exact .two (k _ _ e) h h'
  | non => exact .non
  | nil e => exact .nil (k _ _ e)
theorem Mv.tups {a c : Addr} {H H' : Hp} (m : Mv a c H H') (d : Deck H a c) (p : Addr) (xs : List V) (e : H p = some (.tup xs)) : H' p = some (.tup xs) := by
  obtain ⟨⟨ns, sd, n, h1, h2, _⟩, _⟩ := d
  refine m.keep p _ e (fun z => ?_) (fun z => ?_)
  · rw [z, h1] at e
    cases e
  · rw [z, h2] at e
    cases e
theorem small_show {n : Int} (h : n.natAbs ≤ 50) : (PyData.int n).showable = true := by
  rw [PyData.showable]
  refine decide_eq_true ?_
  by_cases h0 : n.natAbs = 0
  · rw [h0]
    decide
  · exact Nat.lt_trans ((Nat.log2_lt h0).mpr (Nat.lt_of_le_of_lt h (by decide : 50 < 2 ^ 6))) (by decide)
theorem small_len {n : Int} (h : n.natAbs ≤ 50) : (Str.ofString (toString n)).length ≤ 10 := by
  have e := int_text_length_le10 (k := 2) (by decide) (show n.natAbs < 10 ^ 2 by omega)
  rw [PySem.ofString_length]
  omega
theorem lt_len (ts : List Str) : (listText ts).length ≤ piled ts + 2 := by
  cases ts with
  | nil => decide +kernel
  | cons t r =>
    show (textFrom 0 "[" (t :: r) ++ ("]" : Str)).length ≤ _
    have e1 : textFrom 0 "[" (t :: r) = textFrom 1 (("[" : Str) ++ ("" : Str) ++ t) r := rfl
    have e3 : (("[" : Str)).length = 1 := by decide +kernel
    have e4 : (("]" : Str)).length = 1 := by decide +kernel
    have e5 : (("" : Str)).length = 0 := by decide +kernel
    rw [e1, strLen_append, textFrom_length_pos r 1 _ (by decide), strLen_append, strLen_append, e3, e4, e5, piled_cons]
    omega
theorem tt_len (ts : List Str) : (tupleText ts).length ≤ piled ts + 3 := by
  have e3 : (((if ts.length == 1 then ",)" else ")" : String) : Str)).length ≤ 2 := by split <;> decide +kernel
  have e1 : ((("(" : String) : Str)).length = 1 := by decide +kernel
  unfold tupleText
  rw [strLen_append, strLen_append, e1]
  by_cases h : ts = []
  · subst h
    have : (Str.join ", " []).length = 0 := by decide +kernel
    omega
  · have := join_length_add ts h
    omega
/-- what repr asks of data -/
structure Sh (d : PyData) (n k : Nat) : Prop where
  sh : d.showable = true
  nd : d.hasDict = false
  dep : d.depth ≤ k
  len : d.shown.length ≤ n
theorem Thg.sh {K : PySem.W.Frag} {H : Hp} {v : V} {d : PyData} (h : Thg K H v d) : Sh d 200 1 := by
  cases h with
  | str h =>
    have z := h.text
    exact ⟨rfl, rfl, by rw [PyData.depth]; decide, by rw [PyData.shown]; omega⟩
  | int h =>
    have z := small_len h
    refine ⟨small_show h, rfl, by rw [PyData.depth]; decide, ?_⟩
    rw [PyData.shown]
    exact Nat.le_trans z (by decide)
  | @two p x n e h h' =>
    have z := h.text
    have z2 := small_len h'
    refine ⟨?_, rfl, ?_, ?_⟩
    · have y := small_show h'
      rw [PyData.showable] at y
      simp only [PyData.showable, PyData.showableAll, y]
      rfl
    · simp only [PyData.depth, PyData.depthAll]
      decide
    · simp only [PyData.shown, PyData.shownAll]
      have h1 := tt_len [reprText x, Str.ofString (toString n)]
      rw [piled_cons, piled_cons, piled_nil] at h1
      have e : ((toString n : String) : Str) = Str.ofString (toString n) := rfl
      omega
  | non => exact ⟨rfl, rfl, by decide, by decide +kernel⟩
  | nil e => exact ⟨rfl, rfl, by decide, by decide +kernel⟩
/-! ### the codes of what is shown -/
def okC (x : Str) : Prop := ∀ c ∈ x.cps.toList, c < 1114112
theorem okC_str {x : Str} (h : okC x) : PyData.strOk x = true := by
  unfold PyData.strOk
  rw [Array.all_eq_true_iff_forall_mem]
  intro c hc
  exact decide_eq_true (h c (Array.mem_toList_iff.mpr hc))
theorem okC_app {a b : Str} (ha : okC a) (hb : okC b) : okC (a ++ b) := by
  intro c hc
  have e : (a ++ b).cps.toList = a.cps.toList ++ b.cps.toList := Array.toList_append
  rw [e] at hc
  rcases List.mem_append.mp hc with z | z
  · exact ha c z
  · exact hb c z
theorem reprChar_ok : ∀ c ∈ List.range 123, (c = 32 ∨ 97 ≤ c) → ∀ d ∈ PySem.Builtin.Str.reprChar 39 c, d < 1114112 := by decide +kernel
theorem fold_ok : ∀ (l : List Nat) (out : Array Nat), (∀ c ∈ l, c = 32 ∨ (97 ≤ c ∧ c ≤ 122)) → (∀ d ∈ out.toList, d < 1114112) → ∀ d ∈ (l.foldl (fun o c => o ++ (PySem.Builtin.Str.reprChar 39 c).toArray) out).toList, d < 1114112
  | [], out, _, h => h
  | c :: r, out, hl, h => by
    rw [List.foldl_cons]
    refine fold_ok r _ (fun x hx => hl x (List.mem_cons_of_mem _ hx)) fun d hd => ?_
    rw [Array.toList_append] at hd
    rcases List.mem_append.mp hd with z | z
    · exact h d z
    · have hc := hl c List.mem_cons_self
      refine reprChar_ok c (List.mem_range.mpr (by omega)) (by omega) d ?_
      simpa using z
theorem Tx.okC {x : Str} (h : Tx x) : okC (reprText x) := by
  have q39 : x.cps.contains 39 = false := by
    rw [Bool.eq_false_iff]
    intro z
    have m := h.low 39 (Array.mem_toList_iff.mpr (Array.contains_iff.mp z))
    omega
  have q : reprQuote x = 39 := by
    unfold reprQuote
    rw [q39]
    rfl
  intro d hd
  unfold reprText at hd
  rw [q] at hd
  have e : ((x.cps.foldl (fun out c => out ++ (PySem.Builtin.Str.reprChar 39 c).toArray) #[39]).push 39).toList = (x.cps.toList.foldl (fun out c => out ++ (PySem.Builtin.Str.reprChar 39 c).toArray) #[39]).toList ++ [39] := by
    rw [Array.toList_push, Array.foldl_toList]
  have hd2 : d ∈ ((x.cps.foldl (fun out c => out ++ (PySem.Builtin.Str.reprChar 39 c).toArray) #[39]).push 39).toList := hd
  rw [e] at hd2
  rcases List.mem_append.mp hd2 with z | z
  · exact fold_ok _ _ h.low (fun d hd => by
      have e : d = 39 := by simpa using hd
      rw [e]
      decide) d z
  · rw [List.mem_singleton.mp z]
    decide
theorem small_okC {n : Int} (h : n.natAbs ≤ 50) : okC (Str.ofString (toString n)) := by
  have a : ∀ k ∈ List.range 51, (Str.ofString (toString (k : Int))).cps.toList.all (· < 1114112) = true ∧ (Str.ofString (toString (-(k : Int)))).cps.toList.all (· < 1114112) = true := by decide +kernel
  intro c hc
  have z := a n.natAbs (List.mem_range.mpr (by omega))
  rcases Int.natAbs_eq n with e | e
  · rw [e] at hc
    exact of_decide_eq_true (List.all_eq_true.mp z.1 c hc)
  · rw [e] at hc
    exact of_decide_eq_true (List.all_eq_true.mp z.2 c hc)
theorem Thg.okC {K : PySem.W.Frag} {H : Hp} {v : V} {d : PyData} (h : Thg K H v d) : okC d.shown := by
  have dec : ∀ x ∈ ["(", ")", ", ", "None", "()"].map Str.ofString, (x : Str).cps.toList.all (· < 1114112) = true := by decide +kernel
  have lit : ∀ x ∈ ["(", ")", ", ", "None", "()"].map Str.ofString, K5.okC x := fun x hx c hc => of_decide_eq_true (List.all_eq_true.mp (dec x hx) c hc)
  cases h with
  | str h =>
    rw [PyData.shown]
    exact h.okC
  | int h =>
    rw [PyData.shown]
    exact small_okC h
  | @two p x n e h h' =>
    simp only [PyData.shown, PyData.shownAll]
    have e2 : tupleText [reprText x, Str.ofString (toString n)] = ("(" : Str) ++ (reprText x ++ (", " : Str) ++ Str.ofString (toString n)) ++ (")" : Str) := rfl
    have g : K5.okC (tupleText [reprText x, Str.ofString (toString n)]) := by
      rw [e2]
      exact okC_app (okC_app (lit _ (by decide)) (okC_app (okC_app h.okC (lit _ (by decide))) (small_okC h'))) (lit _ (by decide))
    exact g
  | non =>
    have e : PyData.none.shown = Str.ofString "None" := by decide +kernel
    rw [e]
    exact lit _ (by decide)
  | nil e =>
    have e : (PyData.tuple []).shown = Str.ofString "()" := by decide +kernel
    rw [e]
    exact lit _ (by decide)
/-! ### thing -/
structure Def (K : PySem.W.Frag) (mg : Str → Option Value) (x : Str) (st : Stmt) (ps : List Str) (f : Addr) (fd : FuncData) : Prop where
  fn : Fun K x x st f fd
  at_ : mg x = some (.ref f)
  b : Binds K fd ps []
/-- the built-in names that are not stored at the top -/
structure Glob (mg : Str → Option Value) : Prop where
  len : mg "len" = none
  list : mg "list" = none
  range : mg "range" = none
  enumerate : mg "enumerate" = none
  isi : mg "isinstance" = none
  repr : mg "repr" = none
  val : mg "ValueError" = none
  key : mg "KeyError" = none
abbrev sThing : Stmt := topS 18
abbrev nThing : List Str := ["_law_deck_here", "_law_word", "_law_number", "_law_k"]
theorem scThing : FnScope nThing ["_law_deck_here"] (defScope sThing) := ⟨rfl, rfl, rfl, by decide +kernel, rfl, by decide +kernel, by decide +kernel⟩
section
variable {P : Program} {w : World} {K : PySem.W.Frag} {mg : Str → Option Value} {base : Heap}
def spThing (K : PySem.W.Frag) : Sp := fun vs H Q _ => ∃ a c : Addr, vs = [.ref a] ∧ Deck H a c ∧ ∀ v d H', Mv a c H H' → Thg K H' v d → Q v H'
theorem ok_thing {f fD fP : Addr} {fd fdD fdP : FuncData} {k : Nat} (F : Fun K "_law_thing" "_law_thing" sThing f fd) (G : Glob mg) (DD : Def K mg "_law_draw" sDraw ["_law_deck_here", "_law_ways"] fD fdD) (DP : Def K mg "_law_pick" sPick ["_law_deck_here", "_law_some"] fP fdP) :
    FnOk P w K mg base CX0 (k + 3) f fd ["_law_deck_here"] (spThing K) := by
  have GD : FnOk P w K mg base CX0 (k + 2) fD fdD ["_law_deck_here", "_law_ways"] spDraw := ok_draw DD.fn
  have GP : FnOk P w K mg base CX0 (k + 2) fP fdP ["_law_deck_here", "_law_some"] (spPick K) := ok_pick DP.fn G.len DD.fn DD.at_ DD.b
  refine F.ok scThing (fun vs H Q E h => ?_) (fun cdv A outer s H vs Q E hr h => ?_)
  · obtain ⟨a, c, rfl, _⟩ := h
    rfl
  · obtain ⟨a, c, rfl, dk, q⟩ := h
    refine ⟨_, pss_cons (ps_set (i := 1) scThing.nd rfl (.inl rfl) (pe_join pe_str (pe_lc (own := [("_law_k", 3)]) (g := gName 3) (tt := tYes) rfl scThing.nd (pi_range1 (by rfl) G.range (pa_cons (pe_call GD hr (by rfl) DD.at_ DD.fn.kp DD.b .nil pass0 (pa_cons (pv 0) (pa_cons pe_int pa_nil))) pa_nil)) (blkOk_by (own := [("_law_k", 3)]) (N := nThing) (sc := defScope sThing) (by decide +kernel))
          (fun _ _ _ _ _ => pg_name (i := 3) scThing.nd rfl (Or.inl rfl)) (fun _ _ _ _ _ => pts_nil) (fun _ _ _ _ _ => pe_call GP hr (by rfl) DP.at_ DP.fn.kp DP.b .nil pass0 (pa_cons (pv 0) (pa_cons pe_str pa_nil))))))
      (pss_cons (ps_set (i := 2) scThing.nd rfl (.inl rfl) (pe_op op_sub (pe_call GD hr (by rfl) DD.at_ DD.fn.kp DD.b .nil pass0 (pa_cons (pv 0) (pa_cons pe_int pa_nil))) pe_int))
      (pss_one (ps_ret (pe_call GP hr (by rfl) DP.at_ DP.fn.kp DP.b .nil pass0 (pa_cons (pv 0) (pa_cons (pe_lst (pa_cons (pv 1) (pa_cons (pv 2) (pa_cons (pe_tup (pa_cons (pv 1) (pa_cons (pv 2) pa_nil))) (pa_cons pe_non (pa_cons (pe_tup pa_nil) (pa_cons (pe_op op_add_str (pe_op op_add_str (pv 1) pe_str) (pv 1)) pa_nil))))))) pa_nil)))))), ?_⟩
    have SL : ∀ {H : Hp} {p : Addr} {xs : List V}, H p = some (.lst xs) → SqL K H p xs := fun h => .inl (.inl h)
    refine ⟨⟨_, rfl⟩, ?_⟩
    refine ⟨.ref a, rfl, a, c, 9, rfl, dk, by decide, by decide, fun r H1 r0 r1 m1 => ?_⟩
    obtain ⟨r, rfl⟩ := Int.eq_ofNat_of_zero_le r0
    have r9 : r < 9 := by omega
    refine ⟨r, rfl, by omega, by omega, fun D hD => lc_range (lo := 0) (n := r) (fun i H' => Mv a c H H' ∧ ∃ cs : List Nat, cs.length = i ∧ (∀ c ∈ cs, 97 ≤ c ∧ c ≤ 122) ∧ H' D = some (.lst (cs.map fun c => V.str ⟨#[c]⟩)))
      ⟨m1.trans (Mv.same m1.deck (same_upd hD)), [], rfl, (fun _ z => nomatch z), upd_same⟩ ?_ ?_⟩
    · rintro i H' hi ⟨m, cs, hcl, hlow, hDl⟩
      have nDa : D ≠ a := m1.deck.neA hD
      have nDc : D ≠ c := m1.deck.neC hD
      refine ⟨rfl, .ref a, rfl, a, c, m.deck, .inr ⟨rfl, fun n H5 n0 n1 m5 => ⟨_, m5.keep _ _ hDl nDa nDc, ?_, ?_⟩⟩⟩
      · rw [List.length_map, sizeLine_eq]
        omega
      · have m6 := m.trans m5
        refine ⟨⟨fun b o e h1 h2 => ?_, ?_⟩, cs ++ [n], by simp [hcl], fun d hd => ?_, ?_⟩
        · rw [upd_ne (ne_of_none (m1.keep _ _ e h1 h2) hD)]
          exact m6.keep b o e h1 h2
        · obtain ⟨⟨ns, sd, nn, e1, e2, e3⟩, ne⟩ := m6.deck
          exact ⟨⟨ns, sd, nn, by rw [upd_ne nDa.symm]; exact e1, by rw [upd_ne nDc.symm]; exact e2, e3⟩, ne⟩
        · rcases List.mem_append.mp hd with z | z
          · exact hlow d z
          · rw [List.mem_singleton.mp z]
            exact ⟨n0, n1⟩
        · rw [upd_same, List.map_append]
          rfl
    · rintro H5 ⟨m5, cs, hcl, hlow, hDl⟩
      have ej : (cs.map fun c => (⟨#[c]⟩ : Str)).map V.str = cs.map fun c => V.str ⟨#[c]⟩ := by
        rw [List.map_map]
        rfl
      have hsum : ((cs.map fun c => (⟨#[c]⟩ : Str)).map (·.length)).sum + (cs.map fun c => (⟨#[c]⟩ : Str)).length * ("" : Str).length ≤ 16777216 := by
        have e2 : ("" : Str).length = 0 := by decide +kernel
        rw [signs_sum, e2]
        omega
      refine ⟨"", D, cs.map fun c => (⟨#[c]⟩ : Str), rfl, rfl, .inl (SL (by rw [ej]; exact hDl)), hsum, ?_⟩
      rw [join_signs]
      -- number
      refine ⟨.ref a, rfl, a, c, 100, rfl, m5.deck, by decide, by decide, fun n H6 n0 n1 m6 => ⟨_, _, rfl, rfl, ?_⟩⟩
      have l1 : (mkS cs).length = r := by rw [mkS_len, hcl]
      have one : ((" " : Str)).length = 1 := by decide +kernel
      have l2 : (mkS cs ++ (" " : Str)).length = r + 1 := by rw [strLen_append, l1, one]
      have hn : (n - 50).natAbs ≤ 50 := by omega
      have tx : Tx (mkS cs) := ⟨by omega, by rw [mkS_codes]; exact fun c hc => .inr (hlow c hc)⟩
      have two : (2 : Nat) ≤ sizeLine := by decide
      have six : (6 : Nat) ≤ sizeLine := by decide
      refine ⟨.ref a, rfl, _, rfl, _, rfl, _, rfl, _, rfl, two, fun t1 h1 => ⟨Nat.zero_le _, fun t2 h2 => ⟨_, rfl, _, _, rfl, rfl, by rw [l1, one, sizeLine_eq]; omega, _, rfl, _, _, rfl, rfl, by rw [l2, l1, sizeLine_eq]; omega, six, fun L hL => ?_⟩⟩⟩
      have m7 := m5.trans m6
      have s1 : Same H6 (upd H6 t1 (.tup [.str (mkS cs), .int (n - 50)])) := same_upd h1
      have s2 := s1.trans (same_upd (o := .tup []) h2)
      have k1 : upd (upd H6 t1 (.tup [.str (mkS cs), .int (n - 50)])) t2 (.tup []) t1 = some (.tup [.str (mkS cs), .int (n - 50)]) := (same_upd h2) _ _ upd_same
      have k2 : upd (upd H6 t1 (.tup [.str (mkS cs), .int (n - 50)])) t2 (.tup []) t2 = some (.tup []) := upd_same
      revert s2 k1 k2 hL
      generalize upd (upd H6 t1 (.tup [.str (mkS cs), .int (n - 50)])) t2 (.tup []) = H7
      intro hL s2 k1 k2
      have s3 := s2.trans (same_upd (o := .lst [.str (mkS cs), .int (n - 50), .ref t1, .non, .ref t2, .str (mkS cs ++ (" " : Str) ++ mkS cs)]) hL)
      have m8 := m7.trans (Mv.same m7.deck s3)
      have d8 := m7.deck.same s2
      refine ⟨a, c, m8.deck, .inl ⟨L, _, rfl, SL upd_same, d8.neA hL, d8.neC hL, by simp, by simp, fun x H9 hx m9 => ?_⟩⟩
      have kt : ∀ p xs, H7 p = some (.tup xs) → H9 p = some (.tup xs) := fun p xs e => m9.tups m8.deck p xs ((same_upd hL) _ _ e)
      have tx2 : Tx (mkS cs ++ (" " : Str) ++ mkS cs) := by
        have e1 : ((" " : Str)) = mkS [32] := by decide +kernel
        rw [e1, app_mk, app_mk]
        refine ⟨by rw [mkS_len, List.length_append, List.length_append, hcl]; simp; omega, ?_⟩
        rw [mkS_codes]
        intro d hd
        rcases List.mem_append.mp hd with z | z
        · rcases List.mem_append.mp z with z | z
          · exact .inr (hlow d z)
          · exact .inl (List.mem_singleton.mp z)
        · exact .inr (hlow d z)
      have any : ∃ d, Thg K H9 x d := by
        simp only [List.mem_cons, List.not_mem_nil, or_false] at hx
        rcases hx with rfl | rfl | rfl | rfl | rfl | rfl
        · exact ⟨_, .str tx⟩
        · exact ⟨_, .int hn⟩
        · exact ⟨_, .two (kt _ _ k1) tx hn⟩
        · exact ⟨_, .non⟩
        · exact ⟨_, .nil (kt _ _ k2)⟩
        · exact ⟨_, .str tx2⟩
      obtain ⟨d, hd⟩ := any
      exact q x d H9 (m8.trans m9) hd
end
end K5
set_option Elab.async false
set_option linter.all false
set_option maxRecDepth 100000
set_option maxHeartbeats 4000000
namespace K5
open PySem PySem.Spec PyProof.Rows L2 KG EX
/-! ### the classes' own inits -/
def clsB : Stmt → List Stmt
  | .ClassDef _ _ _ b _ _ _ _ _ _ _ => b
  | _ => []
abbrev iniS (i : Nat) : Stmt := (clsB (topS i)).getD 0 (.Pass ⟨0, 0, 0, 0⟩)
/-- a class with an own init that keeps one thing in the field f -/
structure Cl (K : PySem.W.Frag) (mg : Str → Option Value) (x qual : Str) (st : Stmt) (f : Str) (NB nw IB ini : String) (C fI : Addr) (fd : FuncData) : Prop where
  at_ : mg x = some (.ref C)
  t : ExK K C NB nw IB ini
  fn : Fun K "__init__" qual st fI fd
  iC : PySem.W.findIn K (.ref C) "__init__" = some (some (.ref fI))
  tI : PySem.W.typeIn K (.ref fI) = some (.type "function")
  no : PySem.W.findIn K (.ref C) f = some none
  b : Binds K fd (["self", f] : List Str) []
  kw : ∀ (s' : Shared) (a : Addr) (ws : List Value), K.In s'.heap → ws.length = 1 → BindsTo s' fd ⟨[.ref a], [f].zip ws⟩ ((["self", f] : List Str).zip (.ref a :: ws))
/-- what is known of FerryError as a class whose __init__ is read -/
structure Fe (K : PySem.W.Frag) (mg : Str → Option Value) (B : Addr) : Prop where
  at_ : mg "FerryError" = some (.ref B)
  sp : PySem.W.specialIn K (.ref B) "__getattribute__" = some (some (.builtin "type.__getattribute__"))
  rd : PySem.W.readsIn K B (.type "type") = true
  fc : PySem.W.findCls K (.ref B) (.type "type") "__init__" = some (.val (.builtin "ValueError.__init__"))
def spIni (f : Str) (C : Addr) : Sp := fun vs H Q _ => ∃ (a : Addr) (y : V), vs = [.ref a, y] ∧ H a = some (exo a C none) ∧ ∀ d, H d = none → d ≠ a → Q .non (upd (upd H d (exd d [(f, y)])) a (exo a C (some d)))
section
variable {P : Program} {w : World} {K : PySem.W.Frag} {mg : Str → Option Value} {base : Heap}
theorem scNoDoor : FnScope ["self", "door"] ["self", "door"] (defScope (iniS 7)) := ⟨rfl, rfl, rfl, by decide +kernel, rfl, by decide +kernel, by decide +kernel⟩
theorem ok_NoDoor {C fI B : Addr} {fd : FuncData} {k : Nat} (D : Cl K mg "NoDoor" "NoDoor.__init__" (iniS 7) "door" "ValueError" "ValueError.__new__" "ValueError" "ValueError.__init__" C fI fd) (B : Fe K mg B) : FnOk P w K mg base CX0 (k + 1) fI fd ["self", "door"] (spIni "door" C) := by
  refine D.fn.ok scNoDoor (fun vs H Q E h => ?_) (fun cdv A outer s H vs Q E hr h => ?_)
  · obtain ⟨a, y, rfl, _⟩ := h
    rfl
  · obtain ⟨a, y, rfl, he, q⟩ := h
    refine ⟨_, pss_cons (ps_expr (pe_iniC (ini := "ValueError.__init__") (by rfl) B.at_ B.sp B.rd B.fc (by rfl) (pa_cons (pv 0) (pa_cons pe_str pa_nil)))) (pss_one (ps_setF (pv 0) (pv 1))), ?_⟩
    refine ⟨.ref a, rfl, a, C, [_], rfl, (by show 1 ≤ 1000; decide), ⟨_, _, _, D.t⟩, he, y, rfl, .ref a, rfl, a, C, rfl, ⟨_, _, _, _, D.t⟩, D.no, he, fun d h1 h2 => q d h1 h2⟩
theorem scNoTurn : FnScope ["self", "place"] ["self", "place"] (defScope (iniS 8)) := ⟨rfl, rfl, rfl, by decide +kernel, rfl, by decide +kernel, by decide +kernel⟩
theorem ok_NoTurn {C fI B : Addr} {fd : FuncData} {k : Nat} (D : Cl K mg "NoTurn" "NoTurn.__init__" (iniS 8) "place" "ValueError" "ValueError.__new__" "ValueError" "ValueError.__init__" C fI fd) (B : Fe K mg B) : FnOk P w K mg base CX0 (k + 1) fI fd ["self", "place"] (spIni "place" C) := by
  refine D.fn.ok scNoTurn (fun vs H Q E h => ?_) (fun cdv A outer s H vs Q E hr h => ?_)
  · obtain ⟨a, y, rfl, _⟩ := h
    rfl
  · obtain ⟨a, y, rfl, he, q⟩ := h
    refine ⟨_, pss_cons (ps_expr (pe_iniC (ini := "ValueError.__init__") (by rfl) B.at_ B.sp B.rd B.fc (by rfl) (pa_cons (pv 0) (pa_cons pe_str pa_nil)))) (pss_one (ps_setF (pv 0) (pv 1))), ?_⟩
    refine ⟨.ref a, rfl, a, C, [_], rfl, (by show 1 ≤ 1000; decide), ⟨_, _, _, D.t⟩, he, y, rfl, .ref a, rfl, a, C, rfl, ⟨_, _, _, _, D.t⟩, D.no, he, fun d h1 h2 => q d h1 h2⟩
theorem scNoName : FnScope ["self", "name"] ["self", "name"] (defScope (iniS 9)) := ⟨rfl, rfl, rfl, by decide +kernel, rfl, by decide +kernel, by decide +kernel⟩
theorem ok_NoName {C fI B : Addr} {fd : FuncData} {k : Nat} (D : Cl K mg "NoName" "NoName.__init__" (iniS 9) "name" "ValueError" "ValueError.__new__" "ValueError" "ValueError.__init__" C fI fd) (B : Fe K mg B) : FnOk P w K mg base CX0 (k + 1) fI fd ["self", "name"] (spIni "name" C) := by
  refine D.fn.ok scNoName (fun vs H Q E h => ?_) (fun cdv A outer s H vs Q E hr h => ?_)
  · obtain ⟨a, y, rfl, _⟩ := h
    rfl
  · obtain ⟨a, y, rfl, he, q⟩ := h
    refine ⟨_, pss_cons (ps_expr (pe_iniC (ini := "ValueError.__init__") (by rfl) B.at_ B.sp B.rd B.fc (by rfl) (pa_cons (pv 0) (pa_cons pe_str pa_nil)))) (pss_one (ps_setF (pv 0) (pv 1))), ?_⟩
    refine ⟨.ref a, rfl, a, C, [_], rfl, (by show 1 ≤ 1000; decide), ⟨_, _, _, D.t⟩, he, y, rfl, .ref a, rfl, a, C, rfl, ⟨_, _, _, _, D.t⟩, D.no, he, fun d h1 h2 => q d h1 h2⟩
theorem scTaken : FnScope ["self", "name"] ["self", "name"] (defScope (iniS 10)) := ⟨rfl, rfl, rfl, by decide +kernel, rfl, by decide +kernel, by decide +kernel⟩
theorem ok_Taken {C fI B : Addr} {fd : FuncData} {k : Nat} (D : Cl K mg "Taken" "Taken.__init__" (iniS 10) "name" "ValueError" "ValueError.__new__" "ValueError" "ValueError.__init__" C fI fd) (B : Fe K mg B) : FnOk P w K mg base CX0 (k + 1) fI fd ["self", "name"] (spIni "name" C) := by
  refine D.fn.ok scTaken (fun vs H Q E h => ?_) (fun cdv A outer s H vs Q E hr h => ?_)
  · obtain ⟨a, y, rfl, _⟩ := h
    rfl
  · obtain ⟨a, y, rfl, he, q⟩ := h
    refine ⟨_, pss_cons (ps_expr (pe_iniC (ini := "ValueError.__init__") (by rfl) B.at_ B.sp B.rd B.fc (by rfl) (pa_cons (pv 0) (pa_cons pe_str pa_nil)))) (pss_one (ps_setF (pv 0) (pv 1))), ?_⟩
    refine ⟨.ref a, rfl, a, C, [_], rfl, (by show 1 ≤ 1000; decide), ⟨_, _, _, D.t⟩, he, y, rfl, .ref a, rfl, a, C, rfl, ⟨_, _, _, _, D.t⟩, D.no, he, fun d h1 h2 => q d h1 h2⟩
theorem scNoCode : FnScope ["self", "name"] ["self", "name"] (defScope (iniS 11)) := ⟨rfl, rfl, rfl, by decide +kernel, rfl, by decide +kernel, by decide +kernel⟩
theorem ok_NoCode {C fI B : Addr} {fd : FuncData} {k : Nat} (D : Cl K mg "NoCode" "NoCode.__init__" (iniS 11) "name" "ValueError" "ValueError.__new__" "ValueError" "ValueError.__init__" C fI fd) (B : Fe K mg B) : FnOk P w K mg base CX0 (k + 1) fI fd ["self", "name"] (spIni "name" C) := by
  refine D.fn.ok scNoCode (fun vs H Q E h => ?_) (fun cdv A outer s H vs Q E hr h => ?_)
  · obtain ⟨a, y, rfl, _⟩ := h
    rfl
  · obtain ⟨a, y, rfl, he, q⟩ := h
    refine ⟨_, pss_cons (ps_expr (pe_iniC (ini := "ValueError.__init__") (by rfl) B.at_ B.sp B.rd B.fc (by rfl) (pa_cons (pv 0) (pa_cons pe_str pa_nil)))) (pss_one (ps_setF (pv 0) (pv 1))), ?_⟩
    refine ⟨.ref a, rfl, a, C, [_], rfl, (by show 1 ≤ 1000; decide), ⟨_, _, _, D.t⟩, he, y, rfl, .ref a, rfl, a, C, rfl, ⟨_, _, _, _, D.t⟩, D.no, he, fun d h1 h2 => q d h1 h2⟩
theorem scInUse : FnScope ["self", "run"] ["self", "run"] (defScope (iniS 12)) := ⟨rfl, rfl, rfl, by decide +kernel, rfl, by decide +kernel, by decide +kernel⟩
theorem ok_InUse {C fI B : Addr} {fd : FuncData} {k : Nat} (D : Cl K mg "InUse" "InUse.__init__" (iniS 12) "run" "ValueError" "ValueError.__new__" "ValueError" "ValueError.__init__" C fI fd) (B : Fe K mg B) : FnOk P w K mg base CX0 (k + 1) fI fd ["self", "run"] (spIni "run" C) := by
  refine D.fn.ok scInUse (fun vs H Q E h => ?_) (fun cdv A outer s H vs Q E hr h => ?_)
  · obtain ⟨a, y, rfl, _⟩ := h
    rfl
  · obtain ⟨a, y, rfl, he, q⟩ := h
    refine ⟨_, pss_cons (ps_expr (pe_iniC (ini := "ValueError.__init__") (by rfl) B.at_ B.sp B.rd B.fc (by rfl) (pa_cons (pv 0) (pa_cons pe_str pa_nil)))) (pss_one (ps_setF (pv 0) (pv 1))), ?_⟩
    refine ⟨.ref a, rfl, a, C, [_], rfl, (by show 1 ≤ 1000; decide), ⟨_, _, _, D.t⟩, he, y, rfl, .ref a, rfl, a, C, rfl, ⟨_, _, _, _, D.t⟩, D.no, he, fun d h1 h2 => q d h1 h2⟩
theorem scAbsent : FnScope ["self", "name"] ["self", "name"] (defScope (iniS 13)) := ⟨rfl, rfl, rfl, by decide +kernel, rfl, by decide +kernel, by decide +kernel⟩
theorem ok_Absent {C fI : Addr} {fd : FuncData} {k : Nat} (D : Cl K mg "Absent" "Absent.__init__" (iniS 13) "name" "LookupError" "LookupError.__new__" "KeyError" "KeyError.__init__" C fI fd) (G : Glob mg) : FnOk P w K mg base CX0 (k + 1) fI fd ["self", "name"] (spIni "name" C) := by
  refine D.fn.ok scAbsent (fun vs H Q E h => ?_) (fun cdv A outer s H vs Q E hr h => ?_)
  · obtain ⟨a, y, rfl, _⟩ := h
    rfl
  · obtain ⟨a, y, rfl, he, q⟩ := h
    refine ⟨_, pss_cons (ps_expr (pe_iniT (B := "KeyError") (ini := "KeyError.__init__") (by rfl) G.key boot_KeyError ty_KeyError (by decide +kernel) (by kernel_rfl) (by rfl) (pa_cons (pv 0) (pa_cons (pv 1) pa_nil)) (by decide))) (pss_one (ps_setF (pv 0) (pv 1))), ?_⟩
    refine ⟨.ref a, rfl, y, rfl, a, C, [_], rfl, (by show 1 ≤ 1000; decide), ⟨_, _, _, D.t⟩, he, y, rfl, .ref a, rfl, a, C, rfl, ⟨_, _, _, _, D.t⟩, D.no, he, fun d h1 h2 => q d h1 h2⟩
end
end K5
set_option Elab.async false
set_option linter.all false
set_option maxRecDepth 100000
set_option maxHeartbeats 4000000
namespace K5
open PySem PySem.Spec PyProof.Rows L2 KG EX EH
/-! ### the kinds of an exception -/
/-- the thirteen classes: c 0 .. c 11, c 12 is FerryError -/
structure Cs (K : PySem.W.Frag) (mg : Str → Option Value) (c : Nat → Addr) : Prop where
  n0 : mg "NoText" = some (.ref (c 0))
  n1 : mg "NoBook" = some (.ref (c 1))
  n2 : mg "NoPaper" = some (.ref (c 2))
  n3 : mg "NoStand" = some (.ref (c 3))
  n4 : mg "NoRow" = some (.ref (c 4))
  n5 : mg "NoDoor" = some (.ref (c 5))
  n6 : mg "NoTurn" = some (.ref (c 6))
  n7 : mg "NoName" = some (.ref (c 7))
  n8 : mg "Taken" = some (.ref (c 8))
  n9 : mg "NoCode" = some (.ref (c 9))
  n10 : mg "InUse" = some (.ref (c 10))
  n11 : mg "Absent" = some (.ref (c 11))
  n12 : mg "FerryError" = some (.ref (c 12))
  ex : ∀ i, i < 13 → ∃ NB nw IB ini, ExK K (c i) NB nw IB ini
  kd : ∀ i j, i < 13 → j < 12 → PySem.W.kitOne K (.ref (c i)) (.ref (c j)) = some (i == j)
  fe : ∀ i, i < 13 → PySem.W.kitOne K (.ref (c i)) (.ref (c 12)) = some (i != 11)
  ve : ∀ i, i < 13 → PySem.W.kitOne K (.ref (c i)) (.type "ValueError") = some (i != 11)
  ke : ∀ i, i < 13 → PySem.W.kitOne K (.ref (c i)) (.type "KeyError") = some (i == 11)
  r : ClsR K
theorem isEx_same {H H' : Hp} {a C : Addr} (h : IsEx H a C) (s : Same H H') : IsEx H' a C := by
  obtain ⟨d, h1, h2⟩ := h
  refine ⟨d, ?_, fun dd e => ?_⟩
  · rcases h1 with h1 | ⟨o, h1⟩
    · exact .inl (s _ _ h1)
    · exact .inr ⟨o, s _ _ h1⟩
  · rcases h2 dd e with ⟨fs, h⟩ | ⟨fs, h⟩
    · exact .inl ⟨fs, s _ _ h⟩
    · exact .inr ⟨fs, s _ _ h⟩
/-- the places of the kinds -/
def upK (i n : Nat) : List V := ((List.range n).filter fun j => i == j).map fun j => V.int (j : Nat)
theorem upK_succ (i n : Nat) : upK i (n + 1) = if (i == n) = true then upK i n ++ [.int (n : Nat)] else upK i n := by
  unfold upK
  rw [List.range_succ, List.filter_append, List.map_append]
  by_cases h : (i == n) = true
  · rw [if_pos h]
    simp [h]
  · rw [if_neg h]
    simp [h]
def kindsL (i : Nat) : List V := if i < 12 then [.int (i : Nat)] else []
theorem upK_all : ∀ i, i < 13 → upK i 12 = kindsL i := by
  have h : ∀ i ∈ List.range 13, upK i 12 = kindsL i := by decide +kernel
  exact fun i hi => h i (List.mem_range.mpr hi)
theorem upK_len (i n : Nat) : (upK i n).length ≤ n := by
  unfold upK
  rw [List.length_map]
  exact Nat.le_trans (List.length_filter_le _ _) (by simp)
def boolsL (i : Nat) : List V := (List.range 12).map fun j => V.bl (i == j)
theorem boolsL_at (i j : Nat) (hj : j < 12) : (boolsL i)[j]? = some (.bl (i == j)) := by
  unfold boolsL
  rw [List.getElem?_map, List.getElem?_range hj]
  rfl
abbrev sKinds : Stmt := topS 19
abbrev nKinds : List Str := ["_law_made", "_law_some", "_law_k", "_law_one"]
theorem scKinds : FnScope nKinds ["_law_made"] (defScope sKinds) := ⟨rfl, rfl, rfl, by decide +kernel, rfl, by decide +kernel, by decide +kernel⟩
section
variable {P : Program} {w : World} {K : PySem.W.Frag} {mg : Str → Option Value} {base : Heap}
def spKinds (c : Nat → Addr) : Sp := fun vs H Q _ => ∃ (a : Addr) (i : Nat), vs = [.ref a] ∧ i < 13 ∧ IsEx H a (c i) ∧ ∀ p H', Same H H' → H p = none → H' p = some (.lst (kindsL i)) → Q (.ref p) H'
theorem ok_kinds {c : Nat → Addr} {f : Addr} {fd : FuncData} {k : Nat} (F : Fun K "_law_kinds" "_law_kinds" sKinds f fd) (G : Glob mg) (T : Cs K mg c) : FnOk P w K mg base CX0 (k + 1) f fd ["_law_made"] (spKinds c) := by
  refine F.ok scKinds (fun vs H Q E h => ?_) (fun cdv A outer s H vs Q E hr h => ?_)
  · obtain ⟨a, i, rfl, _⟩ := h
    rfl
  · obtain ⟨a, i, rfl, hi, hx, q⟩ := h
    refine ⟨_, pss_cons (ps_set (i := 1) scKinds.nd rfl (.inl rfl) (pe_lst (pa_cons (pe_callB (call_isX T.r) (by rfl) G.isi (by decide +kernel) (pa_cons (pv 0) (pa_cons (pe_glob (v := .ref (c 0)) (by rfl) T.n0 rfl) pa_nil))) (pa_cons (pe_callB (call_isX T.r) (by rfl) G.isi (by decide +kernel) (pa_cons (pv 0) (pa_cons (pe_glob (v := .ref (c 1)) (by rfl) T.n1 rfl) pa_nil))) (pa_cons (pe_callB (call_isX T.r) (by rfl) G.isi (by decide +kernel) (pa_cons (pv 0) (pa_cons (pe_glob (v := .ref (c 2)) (by rfl) T.n2 rfl) pa_nil))) (pa_cons (pe_callB (call_isX T.r) (by rfl) G.isi (by decide +kernel) (pa_cons (pv 0) (pa_cons (pe_glob (v := .ref (c 3)) (by rfl) T.n3 rfl) pa_nil))) pa_nil))))))
      (pss_cons (ps_set (i := 1) scKinds.nd rfl (.inl rfl) (pe_op op_cat (pv 1) (pe_lst (pa_cons (pe_callB (call_isX T.r) (by rfl) G.isi (by decide +kernel) (pa_cons (pv 0) (pa_cons (pe_glob (v := .ref (c 4)) (by rfl) T.n4 rfl) pa_nil))) (pa_cons (pe_callB (call_isX T.r) (by rfl) G.isi (by decide +kernel) (pa_cons (pv 0) (pa_cons (pe_glob (v := .ref (c 5)) (by rfl) T.n5 rfl) pa_nil))) (pa_cons (pe_callB (call_isX T.r) (by rfl) G.isi (by decide +kernel) (pa_cons (pv 0) (pa_cons (pe_glob (v := .ref (c 6)) (by rfl) T.n6 rfl) pa_nil))) pa_nil))))))
      (pss_cons (ps_set (i := 1) scKinds.nd rfl (.inl rfl) (pe_op op_cat (pv 1) (pe_lst (pa_cons (pe_callB (call_isX T.r) (by rfl) G.isi (by decide +kernel) (pa_cons (pv 0) (pa_cons (pe_glob (v := .ref (c 7)) (by rfl) T.n7 rfl) pa_nil))) (pa_cons (pe_callB (call_isX T.r) (by rfl) G.isi (by decide +kernel) (pa_cons (pv 0) (pa_cons (pe_glob (v := .ref (c 8)) (by rfl) T.n8 rfl) pa_nil))) (pa_cons (pe_callB (call_isX T.r) (by rfl) G.isi (by decide +kernel) (pa_cons (pv 0) (pa_cons (pe_glob (v := .ref (c 9)) (by rfl) T.n9 rfl) pa_nil))) pa_nil))))))
      (pss_cons (ps_set (i := 1) scKinds.nd rfl (.inl rfl) (pe_op op_cat (pv 1) (pe_lst (pa_cons (pe_callB (call_isX T.r) (by rfl) G.isi (by decide +kernel) (pa_cons (pv 0) (pa_cons (pe_glob (v := .ref (c 10)) (by rfl) T.n10 rfl) pa_nil))) (pa_cons (pe_callB (call_isX T.r) (by rfl) G.isi (by decide +kernel) (pa_cons (pv 0) (pa_cons (pe_glob (v := .ref (c 11)) (by rfl) T.n11 rfl) pa_nil))) pa_nil)))))
      (pss_one (ps_ret (pe_lc (own := [("_law_k", 2), ("_law_one", 3)]) (g := gTup K 2 (gCons (gName 2) (gCons (gName 3) gNil))) rfl scKinds.nd (pi_enum (by rfl) G.enumerate (pa_cons (pv 1) pa_nil)) (blkOk_by (own := [("_law_k", 2), ("_law_one", 3)]) (N := nKinds) (sc := defScope sKinds) (by decide +kernel)) (fun _ _ _ _ _ => pg_tup rfl (pgs_cons (pg_name (i := 2) scKinds.nd rfl (Or.inl rfl)) (pgs_cons (pg_name (i := 3) scKinds.nd rfl (Or.inl rfl)) pgs_nil))) (fun _ _ _ _ _ => pts_one (pt_val (pv 3))) (fun _ _ _ _ _ => pv 2))))))), ?_⟩
    refine ⟨.ref a, rfl, a, c i, .ref (c 0), .ref (c 0), _, rfl, hx, T.ex i hi, (fun _ z => z), T.kd i 0 hi (by decide), .ref a, rfl, a, c i, .ref (c 1), .ref (c 1), _, rfl, hx, T.ex i hi, (fun _ z => z), T.kd i 1 hi (by decide), .ref a, rfl, a, c i, .ref (c 2), .ref (c 2), _, rfl, hx, T.ex i hi, (fun _ z => z), T.kd i 2 hi (by decide), .ref a, rfl, a, c i, .ref (c 3), .ref (c 3), _, rfl, hx, T.ex i hi, (fun _ z => z), T.kd i 3 hi (by decide), (by show 4 ≤ sizeLine; decide), fun l1 h1 => ?_⟩
    obtain ⟨L1, eL1⟩ : ∃ L1 : List V, L1 = [.bl (i == 0), .bl (i == 1), .bl (i == 2), .bl (i == 3)] := ⟨_, rfl⟩
    rw [← eL1]
    have s1 : Same H (upd H l1 (.lst L1)) := same_upd h1
    have g1 : upd H l1 (.lst L1) l1 = some (.lst L1) := upd_same
    replace hx := isEx_same hx s1
    revert s1 g1 hx
    show _ → _ → _ → tSeq _ _ _ _ (upd H l1 (.lst L1))
    generalize upd H l1 (.lst L1) = H1
    intro s1 g1 hx
    refine ⟨.ref l1, rfl, .ref a, rfl, a, c i, .ref (c 4), .ref (c 4), _, rfl, hx, T.ex i hi, (fun _ z => z), T.kd i 4 hi (by decide), .ref a, rfl, a, c i, .ref (c 5), .ref (c 5), _, rfl, hx, T.ex i hi, (fun _ z => z), T.kd i 5 hi (by decide), .ref a, rfl, a, c i, .ref (c 6), .ref (c 6), _, rfl, hx, T.ex i hi, (fun _ z => z), T.kd i 6 hi (by decide), (by show 3 ≤ sizeLine; decide), fun k2 hk2 => ⟨l1, k2, _, _, rfl, rfl, same_upd hk2 _ _ g1, upd_same, ?_, fun l2 h2 => ?_⟩⟩
    · rw [eL1]
      show 7 ≤ sizeLine
      decide
    obtain ⟨L2, eL2⟩ : ∃ L2 : List V, L2 = L1 ++ [.bl (i == 4), .bl (i == 5), .bl (i == 6)] := ⟨_, rfl⟩
    rw [← eL2]
    rw [eL1] at eL2
    replace eL2 : L2 = [.bl (i == 0), .bl (i == 1), .bl (i == 2), .bl (i == 3), .bl (i == 4), .bl (i == 5), .bl (i == 6)] := eL2
    have s2 : Same H (upd (upd H1 k2 (.lst [.bl (i == 4), .bl (i == 5), .bl (i == 6)])) l2 (.lst L2)) := s1.trans ((same_upd hk2).trans (same_upd h2))
    have g2 : upd (upd H1 k2 (.lst [.bl (i == 4), .bl (i == 5), .bl (i == 6)])) l2 (.lst L2) l2 = some (.lst L2) := upd_same
    replace hx := isEx_same hx ((same_upd (o := .lst [.bl (i == 4), .bl (i == 5), .bl (i == 6)]) hk2).trans (same_upd (o := .lst L2) h2))
    revert s2 g2 hx
    show _ → _ → _ → tSeq _ _ _ _ (upd (upd H1 k2 (.lst [.bl (i == 4), .bl (i == 5), .bl (i == 6)])) l2 (.lst L2))
    generalize upd (upd H1 k2 (.lst [.bl (i == 4), .bl (i == 5), .bl (i == 6)])) l2 (.lst L2) = H2
    intro s2 g2 hx
    refine ⟨.ref l2, rfl, .ref a, rfl, a, c i, .ref (c 7), .ref (c 7), _, rfl, hx, T.ex i hi, (fun _ z => z), T.kd i 7 hi (by decide), .ref a, rfl, a, c i, .ref (c 8), .ref (c 8), _, rfl, hx, T.ex i hi, (fun _ z => z), T.kd i 8 hi (by decide), .ref a, rfl, a, c i, .ref (c 9), .ref (c 9), _, rfl, hx, T.ex i hi, (fun _ z => z), T.kd i 9 hi (by decide), (by show 3 ≤ sizeLine; decide), fun k3 hk3 => ⟨l2, k3, _, _, rfl, rfl, same_upd hk3 _ _ g2, upd_same, ?_, fun l3 h3 => ?_⟩⟩
    · rw [eL2]
      show 10 ≤ sizeLine
      decide
    obtain ⟨L3, eL3⟩ : ∃ L3 : List V, L3 = L2 ++ [.bl (i == 7), .bl (i == 8), .bl (i == 9)] := ⟨_, rfl⟩
    rw [← eL3]
    rw [eL2] at eL3
    replace eL3 : L3 = [.bl (i == 0), .bl (i == 1), .bl (i == 2), .bl (i == 3), .bl (i == 4), .bl (i == 5), .bl (i == 6), .bl (i == 7), .bl (i == 8), .bl (i == 9)] := eL3
    have s3 : Same H (upd (upd H2 k3 (.lst [.bl (i == 7), .bl (i == 8), .bl (i == 9)])) l3 (.lst L3)) := s2.trans ((same_upd hk3).trans (same_upd h3))
    have g3 : upd (upd H2 k3 (.lst [.bl (i == 7), .bl (i == 8), .bl (i == 9)])) l3 (.lst L3) l3 = some (.lst L3) := upd_same
    replace hx := isEx_same hx ((same_upd (o := .lst [.bl (i == 7), .bl (i == 8), .bl (i == 9)]) hk3).trans (same_upd (o := .lst L3) h3))
    revert s3 g3 hx
    show _ → _ → _ → tSeq _ _ _ _ (upd (upd H2 k3 (.lst [.bl (i == 7), .bl (i == 8), .bl (i == 9)])) l3 (.lst L3))
    generalize upd (upd H2 k3 (.lst [.bl (i == 7), .bl (i == 8), .bl (i == 9)])) l3 (.lst L3) = H3
    intro s3 g3 hx
    refine ⟨.ref l3, rfl, .ref a, rfl, a, c i, .ref (c 10), .ref (c 10), _, rfl, hx, T.ex i hi, (fun _ z => z), T.kd i 10 hi (by decide), .ref a, rfl, a, c i, .ref (c 11), .ref (c 11), _, rfl, hx, T.ex i hi, (fun _ z => z), T.kd i 11 hi (by decide), (by show 2 ≤ sizeLine; decide), fun k4 hk4 => ⟨l3, k4, _, _, rfl, rfl, same_upd hk4 _ _ g3, upd_same, ?_, fun l4 h4 => ?_⟩⟩
    · rw [eL3]
      show 12 ≤ sizeLine
      decide
    obtain ⟨L4, eL4⟩ : ∃ L4 : List V, L4 = L3 ++ [.bl (i == 10), .bl (i == 11)] := ⟨_, rfl⟩
    rw [← eL4]
    rw [eL3] at eL4
    replace eL4 : L4 = [.bl (i == 0), .bl (i == 1), .bl (i == 2), .bl (i == 3), .bl (i == 4), .bl (i == 5), .bl (i == 6), .bl (i == 7), .bl (i == 8), .bl (i == 9), .bl (i == 10), .bl (i == 11)] := eL4
    have s4 : Same H (upd (upd H3 k4 (.lst [.bl (i == 10), .bl (i == 11)])) l4 (.lst L4)) := s3.trans ((same_upd hk4).trans (same_upd h4))
    have g4 : upd (upd H3 k4 (.lst [.bl (i == 10), .bl (i == 11)])) l4 (.lst L4) l4 = some (.lst L4) := upd_same
    replace hx := isEx_same hx ((same_upd (o := .lst [.bl (i == 10), .bl (i == 11)]) hk4).trans (same_upd (o := .lst L4) h4))
    revert s4 g4 hx
    generalize upd (upd H3 k4 (.lst [.bl (i == 10), .bl (i == 11)])) l4 (.lst L4) = H4
    intro s4 g4 hx
    have eB : L4 = boolsL i := eL4
    rw [eB] at g4
    refine ⟨.ref l4, rfl, l4, boolsL i, rfl, .inl (.inl g4), fun D hD => lc_it (walk_enum (K := K) (a := l4) (xs := boolsL i)) (fun n H' => Same H4 H' ∧ H' D = some (.lst (upK i n))) ⟨same_upd hD, upd_same⟩ (fun n H' _ z => .inl (.inl (z.1 _ _ g4))) ?_ ?_⟩
    · rintro n x H5 H6 hn ⟨s5, d5⟩ ⟨T6, u, y, rfl, hT6, rfl, eu, ey⟩
      have n12 : n < 12 := hn
      obtain rfl : V.int (n : Nat) = u := Option.some.inj eu
      obtain rfl : V.bl (i == n) = y := Option.some.inj ((boolsL_at i n n12).symm.trans ey)
      have s6 : Same H4 (upd H5 T6 (.tup [.int (n : Nat), .bl (i == n)])) := s5.trans (same_upd hT6)
      have d6 : upd H5 T6 (.tup [.int (n : Nat), .bl (i == n)]) D = some (.lst (upK i n)) := same_upd hT6 _ _ d5
      have t6 : upd H5 T6 (.tup [.int (n : Nat), .bl (i == n)]) T6 = some (.tup [.int (n : Nat), .bl (i == n)]) := upd_same
      revert s6 d6 t6
      generalize upd H5 T6 (.tup [.int (n : Nat), .bl (i == n)]) = H7
      intro s6 d6 t6
      refine ⟨T6, _, rfl, .inl (.inl t6), rfl, _, _, rfl, _, _, rfl, rfl, rfl, .bl (i == n), rfl, (i == n), rfl, ?_⟩
      have keep : ∀ ys : List V, Same H4 (upd H7 D (.lst ys)) := fun ys b o e => by
        rw [upd_ne (ne_of_none e hD)]
        exact s6 b o e
      have sc := upK_succ i n
      have ln := upK_len i n
      by_cases hb : (i == n) = true
      · rw [if_pos hb] at sc
        show if (i == n) = true then _ else _
        rw [if_pos hb]
        refine ⟨_, rfl, _, d6, by rw [sizeLine_eq]; omega, keep _, ?_⟩
        rw [sc]
        exact upd_same
      · rw [if_neg hb] at sc
        show if (i == n) = true then _ else _
        rw [if_neg hb]
        exact ⟨s6, by rw [sc]; exact d6⟩
    · rintro H5 ⟨s5, d5⟩
      have e12 : (boolsL i).length = 12 := rfl
      rw [e12, upK_all i hi] at d5
      exact q D H5 (s4.trans s5) (s4.free hD) d5
/-- .. where e is the exception that is handled, its class c i, its dict at dd -/
def spKindsH (c : Nat → Addr) (p : Addr × Obj) : Sp := fun vs H Q _ => ∃ (i : Nat) (dd : Addr) (fs : List (Str × V)), vs = [.ref p.1] ∧ i < 12 ∧ Zc (.ref (c i)) (some dd) p.2 ∧ H dd = some (exd dd fs) ∧ ∀ l H', Same H H' → H l = none → H' l = some (.lst (kindsL i)) → Q (.ref l) H'
theorem ok_kindsH {c : Nat → Addr} {f : Addr} {fd : FuncData} {k : Nat} (F : Fun K "_law_kinds" "_law_kinds" sKinds f fd) (G : Glob mg) (T : Cs K mg c) : FnP P w K mg base (k + 1) f fd ["_law_made"] (spKindsH c) := by
  refine okP F scKinds (fun p vs H Q E h => ?_) (fun cdv A outer s H vs Q p hot hr h => ?_)
  · obtain ⟨i, dd, fs, rfl, _⟩ := h
    rfl
  · obtain ⟨i, dd, fs, rfl, hi12, hz, hx, q⟩ := h
    have hi : i < 13 := by omega
    obtain ⟨NB, nw, IB, ini, TT⟩ := T.ex i hi
    have hf : ∃ vs, p.2.data = .fields vs := by
      obtain ⟨_, vs, e, _⟩ := hot
      exact ⟨vs, e⟩
    refine ⟨_, pss_cons (ps_set (i := 1) scKinds.nd rfl (.inl rfl) (pe_lst (pa_cons (pe_callB (call_isP T.r TT (List.mem_singleton_self p) hz hf) (by rfl) G.isi (by decide +kernel) (pa_cons (pv 0) (pa_cons (pe_glob (v := .ref (c 0)) (by rfl) T.n0 rfl) pa_nil))) (pa_cons (pe_callB (call_isP T.r TT (List.mem_singleton_self p) hz hf) (by rfl) G.isi (by decide +kernel) (pa_cons (pv 0) (pa_cons (pe_glob (v := .ref (c 1)) (by rfl) T.n1 rfl) pa_nil))) (pa_cons (pe_callB (call_isP T.r TT (List.mem_singleton_self p) hz hf) (by rfl) G.isi (by decide +kernel) (pa_cons (pv 0) (pa_cons (pe_glob (v := .ref (c 2)) (by rfl) T.n2 rfl) pa_nil))) (pa_cons (pe_callB (call_isP T.r TT (List.mem_singleton_self p) hz hf) (by rfl) G.isi (by decide +kernel) (pa_cons (pv 0) (pa_cons (pe_glob (v := .ref (c 3)) (by rfl) T.n3 rfl) pa_nil))) pa_nil))))))
      (pss_cons (ps_set (i := 1) scKinds.nd rfl (.inl rfl) (pe_op op_cat (pv 1) (pe_lst (pa_cons (pe_callB (call_isP T.r TT (List.mem_singleton_self p) hz hf) (by rfl) G.isi (by decide +kernel) (pa_cons (pv 0) (pa_cons (pe_glob (v := .ref (c 4)) (by rfl) T.n4 rfl) pa_nil))) (pa_cons (pe_callB (call_isP T.r TT (List.mem_singleton_self p) hz hf) (by rfl) G.isi (by decide +kernel) (pa_cons (pv 0) (pa_cons (pe_glob (v := .ref (c 5)) (by rfl) T.n5 rfl) pa_nil))) (pa_cons (pe_callB (call_isP T.r TT (List.mem_singleton_self p) hz hf) (by rfl) G.isi (by decide +kernel) (pa_cons (pv 0) (pa_cons (pe_glob (v := .ref (c 6)) (by rfl) T.n6 rfl) pa_nil))) pa_nil))))))
      (pss_cons (ps_set (i := 1) scKinds.nd rfl (.inl rfl) (pe_op op_cat (pv 1) (pe_lst (pa_cons (pe_callB (call_isP T.r TT (List.mem_singleton_self p) hz hf) (by rfl) G.isi (by decide +kernel) (pa_cons (pv 0) (pa_cons (pe_glob (v := .ref (c 7)) (by rfl) T.n7 rfl) pa_nil))) (pa_cons (pe_callB (call_isP T.r TT (List.mem_singleton_self p) hz hf) (by rfl) G.isi (by decide +kernel) (pa_cons (pv 0) (pa_cons (pe_glob (v := .ref (c 8)) (by rfl) T.n8 rfl) pa_nil))) (pa_cons (pe_callB (call_isP T.r TT (List.mem_singleton_self p) hz hf) (by rfl) G.isi (by decide +kernel) (pa_cons (pv 0) (pa_cons (pe_glob (v := .ref (c 9)) (by rfl) T.n9 rfl) pa_nil))) pa_nil))))))
      (pss_cons (ps_set (i := 1) scKinds.nd rfl (.inl rfl) (pe_op op_cat (pv 1) (pe_lst (pa_cons (pe_callB (call_isP T.r TT (List.mem_singleton_self p) hz hf) (by rfl) G.isi (by decide +kernel) (pa_cons (pv 0) (pa_cons (pe_glob (v := .ref (c 10)) (by rfl) T.n10 rfl) pa_nil))) (pa_cons (pe_callB (call_isP T.r TT (List.mem_singleton_self p) hz hf) (by rfl) G.isi (by decide +kernel) (pa_cons (pv 0) (pa_cons (pe_glob (v := .ref (c 11)) (by rfl) T.n11 rfl) pa_nil))) pa_nil)))))
      (pss_one (ps_ret (pe_lcH (own := [("_law_k", 2), ("_law_one", 3)]) (g := gTup K 2 (gCons (gName 2) (gCons (gName 3) gNil))) ⟨p, hot, List.mem_singleton_self _⟩ scKinds.nd (by rfl) G.enumerate (pa_cons (pv 1) pa_nil) (blkOk_by (own := [("_law_k", 2), ("_law_one", 3)]) (N := nKinds) (sc := defScope sKinds) (by decide +kernel)) (fun _ _ _ _ _ hb => pg_tupH hb (pgs_cons (pg_name (i := 2) scKinds.nd rfl (Or.inl rfl)) (pgs_cons (pg_name (i := 3) scKinds.nd rfl (Or.inl rfl)) pgs_nil))) (fun _ _ _ _ _ => pts_one (pt_val (pv 3))) (fun _ _ _ _ _ => pv 2))))))), ?_⟩
    refine ⟨.ref p.1, rfl, .ref (c 0), .ref (c 0), _, fs, rfl, hx, (fun _ z => z), T.kd i 0 hi (by decide), .ref p.1, rfl, .ref (c 1), .ref (c 1), _, fs, rfl, hx, (fun _ z => z), T.kd i 1 hi (by decide), .ref p.1, rfl, .ref (c 2), .ref (c 2), _, fs, rfl, hx, (fun _ z => z), T.kd i 2 hi (by decide), .ref p.1, rfl, .ref (c 3), .ref (c 3), _, fs, rfl, hx, (fun _ z => z), T.kd i 3 hi (by decide), (by show 4 ≤ sizeLine; decide), fun l1 h1 => ?_⟩
    obtain ⟨L1, eL1⟩ : ∃ L1 : List V, L1 = [.bl (i == 0), .bl (i == 1), .bl (i == 2), .bl (i == 3)] := ⟨_, rfl⟩
    rw [← eL1]
    have s1 : Same H (upd H l1 (.lst L1)) := same_upd h1
    have g1 : upd H l1 (.lst L1) l1 = some (.lst L1) := upd_same
    replace hx := s1 _ _ hx
    revert s1 g1 hx
    show _ → _ → _ → tSeq _ _ _ _ (upd H l1 (.lst L1))
    generalize upd H l1 (.lst L1) = H1
    intro s1 g1 hx
    refine ⟨.ref l1, rfl, .ref p.1, rfl, .ref (c 4), .ref (c 4), _, fs, rfl, hx, (fun _ z => z), T.kd i 4 hi (by decide), .ref p.1, rfl, .ref (c 5), .ref (c 5), _, fs, rfl, hx, (fun _ z => z), T.kd i 5 hi (by decide), .ref p.1, rfl, .ref (c 6), .ref (c 6), _, fs, rfl, hx, (fun _ z => z), T.kd i 6 hi (by decide), (by show 3 ≤ sizeLine; decide), fun k2 hk2 => ⟨l1, k2, _, _, rfl, rfl, same_upd hk2 _ _ g1, upd_same, ?_, fun l2 h2 => ?_⟩⟩
    · rw [eL1]
      show 7 ≤ sizeLine
      decide
    obtain ⟨L2, eL2⟩ : ∃ L2 : List V, L2 = L1 ++ [.bl (i == 4), .bl (i == 5), .bl (i == 6)] := ⟨_, rfl⟩
    rw [← eL2]
    rw [eL1] at eL2
    replace eL2 : L2 = [.bl (i == 0), .bl (i == 1), .bl (i == 2), .bl (i == 3), .bl (i == 4), .bl (i == 5), .bl (i == 6)] := eL2
    have s2 : Same H (upd (upd H1 k2 (.lst [.bl (i == 4), .bl (i == 5), .bl (i == 6)])) l2 (.lst L2)) := s1.trans ((same_upd hk2).trans (same_upd h2))
    have g2 : upd (upd H1 k2 (.lst [.bl (i == 4), .bl (i == 5), .bl (i == 6)])) l2 (.lst L2) l2 = some (.lst L2) := upd_same
    replace hx := ((same_upd (o := .lst [.bl (i == 4), .bl (i == 5), .bl (i == 6)]) hk2).trans (same_upd (o := .lst L2) h2)) _ _ hx
    revert s2 g2 hx
    show _ → _ → _ → tSeq _ _ _ _ (upd (upd H1 k2 (.lst [.bl (i == 4), .bl (i == 5), .bl (i == 6)])) l2 (.lst L2))
    generalize upd (upd H1 k2 (.lst [.bl (i == 4), .bl (i == 5), .bl (i == 6)])) l2 (.lst L2) = H2
    intro s2 g2 hx
    refine ⟨.ref l2, rfl, .ref p.1, rfl, .ref (c 7), .ref (c 7), _, fs, rfl, hx, (fun _ z => z), T.kd i 7 hi (by decide), .ref p.1, rfl, .ref (c 8), .ref (c 8), _, fs, rfl, hx, (fun _ z => z), T.kd i 8 hi (by decide), .ref p.1, rfl, .ref (c 9), .ref (c 9), _, fs, rfl, hx, (fun _ z => z), T.kd i 9 hi (by decide), (by show 3 ≤ sizeLine; decide), fun k3 hk3 => ⟨l2, k3, _, _, rfl, rfl, same_upd hk3 _ _ g2, upd_same, ?_, fun l3 h3 => ?_⟩⟩
    · rw [eL2]
      show 10 ≤ sizeLine
      decide
    obtain ⟨L3, eL3⟩ : ∃ L3 : List V, L3 = L2 ++ [.bl (i == 7), .bl (i == 8), .bl (i == 9)] := ⟨_, rfl⟩
    rw [← eL3]
    rw [eL2] at eL3
    replace eL3 : L3 = [.bl (i == 0), .bl (i == 1), .bl (i == 2), .bl (i == 3), .bl (i == 4), .bl (i == 5), .bl (i == 6), .bl (i == 7), .bl (i == 8), .bl (i == 9)] := eL3
    have s3 : Same H (upd (upd H2 k3 (.lst [.bl (i == 7), .bl (i == 8), .bl (i == 9)])) l3 (.lst L3)) := s2.trans ((same_upd hk3).trans (same_upd h3))
    have g3 : upd (upd H2 k3 (.lst [.bl (i == 7), .bl (i == 8), .bl (i == 9)])) l3 (.lst L3) l3 = some (.lst L3) := upd_same
    replace hx := ((same_upd (o := .lst [.bl (i == 7), .bl (i == 8), .bl (i == 9)]) hk3).trans (same_upd (o := .lst L3) h3)) _ _ hx
    revert s3 g3 hx
    show _ → _ → _ → tSeq _ _ _ _ (upd (upd H2 k3 (.lst [.bl (i == 7), .bl (i == 8), .bl (i == 9)])) l3 (.lst L3))
    generalize upd (upd H2 k3 (.lst [.bl (i == 7), .bl (i == 8), .bl (i == 9)])) l3 (.lst L3) = H3
    intro s3 g3 hx
    refine ⟨.ref l3, rfl, .ref p.1, rfl, .ref (c 10), .ref (c 10), _, fs, rfl, hx, (fun _ z => z), T.kd i 10 hi (by decide), .ref p.1, rfl, .ref (c 11), .ref (c 11), _, fs, rfl, hx, (fun _ z => z), T.kd i 11 hi (by decide), (by show 2 ≤ sizeLine; decide), fun k4 hk4 => ⟨l3, k4, _, _, rfl, rfl, same_upd hk4 _ _ g3, upd_same, ?_, fun l4 h4 => ?_⟩⟩
    · rw [eL3]
      show 12 ≤ sizeLine
      decide
    obtain ⟨L4, eL4⟩ : ∃ L4 : List V, L4 = L3 ++ [.bl (i == 10), .bl (i == 11)] := ⟨_, rfl⟩
    rw [← eL4]
    rw [eL3] at eL4
    replace eL4 : L4 = [.bl (i == 0), .bl (i == 1), .bl (i == 2), .bl (i == 3), .bl (i == 4), .bl (i == 5), .bl (i == 6), .bl (i == 7), .bl (i == 8), .bl (i == 9), .bl (i == 10), .bl (i == 11)] := eL4
    have s4 : Same H (upd (upd H3 k4 (.lst [.bl (i == 10), .bl (i == 11)])) l4 (.lst L4)) := s3.trans ((same_upd hk4).trans (same_upd h4))
    have g4 : upd (upd H3 k4 (.lst [.bl (i == 10), .bl (i == 11)])) l4 (.lst L4) l4 = some (.lst L4) := upd_same
    replace hx := ((same_upd (o := .lst [.bl (i == 10), .bl (i == 11)]) hk4).trans (same_upd (o := .lst L4) h4)) _ _ hx
    revert s4 g4 hx
    generalize upd (upd H3 k4 (.lst [.bl (i == 10), .bl (i == 11)])) l4 (.lst L4) = H4
    intro s4 g4 hx
    have eB : L4 = boolsL i := eL4
    rw [eB] at g4
    refine ⟨.ref l4, rfl, l4, boolsL i, rfl, .inl (.inl g4), fun D hD => lc_it (walk_enum (K := K) (a := l4) (xs := boolsL i)) (fun n H' => Same H4 H' ∧ H' D = some (.lst (upK i n))) ⟨same_upd hD, upd_same⟩ (fun n H' _ z => .inl (.inl (z.1 _ _ g4))) ?_ ?_⟩
    · rintro n x H5 H6 hn ⟨s5, d5⟩ ⟨T6, u, y, rfl, hT6, rfl, eu, ey⟩
      have n12 : n < 12 := hn
      obtain rfl : V.int (n : Nat) = u := Option.some.inj eu
      obtain rfl : V.bl (i == n) = y := Option.some.inj ((boolsL_at i n n12).symm.trans ey)
      have s6 : Same H4 (upd H5 T6 (.tup [.int (n : Nat), .bl (i == n)])) := s5.trans (same_upd hT6)
      have d6 : upd H5 T6 (.tup [.int (n : Nat), .bl (i == n)]) D = some (.lst (upK i n)) := same_upd hT6 _ _ d5
      have t6 : upd H5 T6 (.tup [.int (n : Nat), .bl (i == n)]) T6 = some (.tup [.int (n : Nat), .bl (i == n)]) := upd_same
      revert s6 d6 t6
      generalize upd H5 T6 (.tup [.int (n : Nat), .bl (i == n)]) = H7
      intro s6 d6 t6
      refine ⟨T6, _, rfl, .inl (.inl t6), rfl, _, _, rfl, _, _, rfl, rfl, rfl, .bl (i == n), rfl, (i == n), rfl, ?_⟩
      have keep : ∀ ys : List V, Same H4 (upd H7 D (.lst ys)) := fun ys b o e => by
        rw [upd_ne (ne_of_none e hD)]
        exact s6 b o e
      have sc := upK_succ i n
      have ln := upK_len i n
      by_cases hb : (i == n) = true
      · rw [if_pos hb] at sc
        show if (i == n) = true then _ else _
        rw [if_pos hb]
        refine ⟨_, rfl, _, d6, by rw [sizeLine_eq]; omega, keep _, ?_⟩
        rw [sc]
        exact upd_same
      · rw [if_neg hb] at sc
        show if (i == n) = true then _ else _
        rw [if_neg hb]
        exact ⟨s6, by rw [sc]; exact d6⟩
    · rintro H5 ⟨s5, d5⟩
      have e12 : (boolsL i).length = 12 := rfl
      rw [e12, upK_all i hi] at d5
      exact q D H5 (s4.trans s5) (s4.free hD) d5
/-! ### what stands above it -/
abbrev sAbove : Stmt := topS 20
theorem scAbove : FnScope ["_law_made"] ["_law_made"] (defScope sAbove) := ⟨rfl, rfl, rfl, by decide +kernel, rfl, by decide +kernel, by decide +kernel⟩
def aboveL (i : Nat) : List V := [.bl (i != 11), .bl (i != 11), .bl (i == 11)]
def spAbove (c : Nat → Addr) : Sp := fun vs H Q _ => ∃ (a : Addr) (i : Nat), vs = [.ref a] ∧ i < 13 ∧ IsEx H a (c i) ∧ ∀ p, H p = none → Q (.ref p) (upd H p (.lst (aboveL i)))
theorem ok_above {c : Nat → Addr} {f : Addr} {fd : FuncData} {k : Nat} (F : Fun K "_law_above" "_law_above" sAbove f fd) (G : Glob mg) (T : Cs K mg c) : FnOk P w K mg base CX0 (k + 1) f fd ["_law_made"] (spAbove c) := by
  refine F.ok scAbove (fun vs H Q E h => ?_) (fun cdv A outer s H vs Q E hr h => ?_)
  · obtain ⟨a, i, rfl, _⟩ := h
    rfl
  · obtain ⟨a, i, rfl, hi, hx, q⟩ := h
    refine ⟨_, pss_one (ps_ret (pe_lst (pa_cons (pe_callB (call_isX T.r) (by rfl) G.isi (by decide +kernel) (pa_cons (pv 0) (pa_cons (pe_glob (v := .ref (c 12)) (by rfl) T.n12 rfl) pa_nil)))
      (pa_cons (pe_callB (call_isX T.r) (by rfl) G.isi (by decide +kernel) (pa_cons (pv 0) (pa_cons (pe_bltn (v := .ty "ValueError") (by rfl) G.val (by decide +kernel) rfl) pa_nil)))
      (pa_cons (pe_callB (call_isX T.r) (by rfl) G.isi (by decide +kernel) (pa_cons (pv 0) (pa_cons (pe_bltn (v := .ty "KeyError") (by rfl) G.key (by decide +kernel) rfl) pa_nil))) pa_nil))))), ?_⟩
    exact ⟨.ref a, rfl, a, c i, _, _, _, rfl, hx, T.ex i hi, (fun _ z => z), T.fe i hi, .ref a, rfl, a, c i, _, _, _, rfl, hx, T.ex i hi, (fun _ z => z), T.ve i hi, .ref a, rfl, a, c i, _, _, _, rfl, hx, T.ex i hi, (fun _ z => z), T.ke i hi,
      (by show 3 ≤ sizeLine; decide), fun p hp => q p hp⟩
end
end K5
set_option Elab.async false
set_option linter.all false
set_option maxRecDepth 100000
set_option maxHeartbeats 4000000
namespace K5
open PySem PySem.Spec PyProof.Rows L2 KG EX EH
/-! ### made and looked at -/
theorem pe_weak {X : Cx} {e : Expr} {t t' : TE} (h : PE X e t) (i : ∀ σ H Q, t' σ H Q → t σ H Q) : PE X e t' := ⟨fun pins s σ H Q I q => h.run pins s σ H Q I (i σ H Q q)⟩
/-- what stands behind C(y): the exception at a, its dict at d -/
structure Made (f : Str) (C : Addr) (y : V) (H H' : Hp) (a d : Addr) : Prop where
  ea : H' a = some (exo a C (some d))
  ed : H' d = some (exd d [(f, y)])
  na : H a = none
  nd : H d = none
  ne : d ≠ a
  rest : ∀ b, b ≠ a → b ≠ d → H' b = H b
theorem Made.same {f : Str} {C : Addr} {y : V} {H H' : Hp} {a d : Addr} (m : Made f C y H H' a d) : Same H H' := fun b o e => by
  rw [m.rest b (ne_of_none e m.na) (ne_of_none e m.nd)]
  exact e
theorem Made.ex {f : Str} {C : Addr} {y : V} {H H' : Hp} {a d : Addr} (m : Made f C y H H' a d) : IsEx H' a C := ⟨some d, .inl m.ea, fun dd e => by
  cases e
  exact .inl ⟨_, m.ed⟩⟩
theorem ini_made {f : Str} {C a : Addr} {y : V} {H : Hp} {Q : VK} (na : H a = none) (h : ∀ d H', Made f C y H H' a d → Q (.ref a) H') :
    spIni f C [.ref a, y] (upd H a (exo a C none)) (fun v H2 => v = .non ∧ Q (.ref a) H2) E0 := by
  refine ⟨a, y, rfl, upd_same, fun d hd hne => ⟨rfl, h d _ ⟨upd_same, ?_, na, ?_, hne, fun b h1 h2 => ?_⟩⟩⟩
  · rw [upd_ne hne, upd_same]
  · rw [upd_ne hne] at hd
    exact hd
  · rw [upd_ne h1, upd_ne h2, upd_ne h1]
section
variable {X : Cx} {C fI : Addr} {fd : FuncData} {k : Nat} {x qual f : Str} {st : Stmt} {NB nw IB ini : String} {p pos apos : Pos} {e : Expr} {te : TE}
/-- C(e) -/
theorem pe_new (D : Cl X.K X.mg x qual st f NB nw IB ini C fI fd) (F1 : FnOk X.prog X.w X.K X.mg X.base CX0 k fI fd ["self", f] (spIni f C)) (hr : Room (k + 1) X.A) (hg : Gl X x) (he : PE X e te) (hdb : (x == ("__debug__" : Str)) = false := by decide)
    (hs : starEach [e] X.env = (false, eval e X.env) :: starEach [] X.env := by rfl) : PE X (.Call (.Name x p) [e] [] pos) (fun σ H Q => te σ H fun y H1 => ∀ a d H', Made f C y H1 H' a d → Q (.ref a) H') := by
  constructor
  intro pins s σ H Q I h
  refine wpAny_Call_Name_kw (ld_glob I hg D.at_ ?_ hdb)
  refine PySem.W.callWith_K (h₀ := X.base) I.ok.mod.kin D.t.kC (thn ((pa_cons he pa_nil hs).run pos pins s σ H (fun vs H1 => match vs with | [y] => ∀ a d H', Made f C y H1 H' a d → Q (.ref a) H' | _ => False) I h) fun us s1 z => ?_) hs (by rfl)
  obtain ⟨vs, H1, I1, r1, z⟩ := z
  match vs, r1, z with
  | [y], r1, z =>
    refine ⟨I1.kIn, ?_⟩
    show wpAny _ _ (call (.ref C) us []) _ _ _
    have lus : us.length = 1 := (Paired.length r1).symm
    refine run_mk D.t D.iC D.tI F1 hr I1 (fun s' a inK => ?_) r1 (by rw [lus, sizeLine_eq]; omega) fun a na => ini_made na fun d H' m => z a d H' m
    have z2 := D.b s' (.ref a :: us) inK (by rw [List.append_nil, List.length_cons, lus]; rfl)
    rwa [List.append_nil] at z2
/-- C(f = e) -/
theorem pe_newK {kws : List Keyword} {ta : TA} (D : Cl X.K X.mg x qual st f NB nw IB ini C fI fd) (F1 : FnOk X.prog X.w X.K X.mg X.base CX0 k fI fd ["self", f] (spIni f C)) (hr : Room (k + 1) X.A) (hg : Gl X x) (hkw : PK X kws ta)
    (hall : (backToKw pos (keywordEach kws X.env)).all (·.1.isSome) = true := by rfl) (hks : (backToKw pos (keywordEach kws X.env)).filterMap (·.1) = [f] := by rfl) (hdb : (x == ("__debug__" : Str)) = false := by decide)
    (hpl : ((backTo pos (starEach [] X.env)).any (·.1) || (backToKw pos (keywordEach kws X.env)).any (·.1.isNone)) = false := by rfl) :
    PE X (.Call (.Name x p) [] kws pos) (fun σ H Q => ta σ H fun vs H1 => match vs with | [y] => ∀ a d H', Made f C y H1 H' a d → Q (.ref a) H' | _ => False) := by
  constructor
  intro pins s σ H Q I h
  refine wpAny_Call_Name_kw (ld_glob I hg D.at_ ?_ hdb)
  refine PySem.W.callWith_KW0 (h₀ := X.base) I.ok.mod.kin D.t.kC hall (thn (hkw.run pos pins s σ H _ I h) fun ws s1 z => ?_) hpl
  obtain ⟨vs, H1, I1, r1, z⟩ := z
  refine ⟨I1.kIn, ?_⟩
  rw [hks]
  match vs, r1, z with
  | [y], r1, z =>
    have lus : ws.length = 1 := (Paired.length r1).symm
    exact run_mk D.t D.iC D.tI F1 hr I1 (fun s' a inK => D.kw s' a ws inK lus) r1 (Nat.zero_le _) fun a na => ini_made na fun d H' m => z a d H' m
end
theorem lookup_one (f : Str) (y : V) : ([(f, y)] : List (Str × V)).lookup f = some y := by simp [List.lookup]
/-- all of the classes -/
structure AllC (K : PySem.W.Frag) (mg : Str → Option Value) (c : Nat → Addr) : Prop where
  t : Cs K mg c
  fe : Fe K mg (c 12)
  d5 : ∃ fI fd, Cl K mg "NoDoor" "NoDoor.__init__" (iniS 7) "door" "ValueError" "ValueError.__new__" "ValueError" "ValueError.__init__" (c 5) fI fd
  d6 : ∃ fI fd, Cl K mg "NoTurn" "NoTurn.__init__" (iniS 8) "place" "ValueError" "ValueError.__new__" "ValueError" "ValueError.__init__" (c 6) fI fd
  d7 : ∃ fI fd, Cl K mg "NoName" "NoName.__init__" (iniS 9) "name" "ValueError" "ValueError.__new__" "ValueError" "ValueError.__init__" (c 7) fI fd
  d8 : ∃ fI fd, Cl K mg "Taken" "Taken.__init__" (iniS 10) "name" "ValueError" "ValueError.__new__" "ValueError" "ValueError.__init__" (c 8) fI fd
  d9 : ∃ fI fd, Cl K mg "NoCode" "NoCode.__init__" (iniS 11) "name" "ValueError" "ValueError.__new__" "ValueError" "ValueError.__init__" (c 9) fI fd
  d10 : ∃ fI fd, Cl K mg "InUse" "InUse.__init__" (iniS 12) "run" "ValueError" "ValueError.__new__" "ValueError" "ValueError.__init__" (c 10) fI fd
  d11 : ∃ fI fd, Cl K mg "Absent" "Absent.__init__" (iniS 13) "name" "LookupError" "LookupError.__new__" "KeyError" "KeyError.__init__" (c 11) fI fd
  e0 : PySem.W.excIn K (c 0) [.type "ValueError", .type "Exception", .type "BaseException", .type "object"] "ValueError.__new__" = true
  k0 : PySem.W.keepIn K (.ref (c 0)) = true
  e1 : PySem.W.excIn K (c 1) [.type "ValueError", .type "Exception", .type "BaseException", .type "object"] "ValueError.__new__" = true
  k1 : PySem.W.keepIn K (.ref (c 1)) = true
  e2 : PySem.W.excIn K (c 2) [.type "ValueError", .type "Exception", .type "BaseException", .type "object"] "ValueError.__new__" = true
  k2 : PySem.W.keepIn K (.ref (c 2)) = true
  e3 : PySem.W.excIn K (c 3) [.type "ValueError", .type "Exception", .type "BaseException", .type "object"] "ValueError.__new__" = true
  k3 : PySem.W.keepIn K (.ref (c 3)) = true
  e4 : PySem.W.excIn K (c 4) [.type "ValueError", .type "Exception", .type "BaseException", .type "object"] "ValueError.__new__" = true
  k4 : PySem.W.keepIn K (.ref (c 4)) = true
  e12 : PySem.W.excIn K (c 12) [.type "ValueError", .type "Exception", .type "BaseException", .type "object"] "ValueError.__new__" = true
  k12 : PySem.W.keepIn K (.ref (c 12)) = true

section
variable {P : Program} {w : World} {K : PySem.W.Frag} {mg : Str → Option Value} {base : Heap}
abbrev sBore : Stmt := topS 21
theorem scBore : FnScope ["_law_thing_here", "_law_found"] ["_law_thing_here"] (defScope sBore) := ⟨rfl, rfl, rfl, by decide +kernel, rfl, by decide +kernel, by decide +kernel⟩
/-- rows (n, v, v) at the addresses of ts, n rising -/
inductive Rows3 (H : Hp) (v : V) : Nat → List V → Prop
  | nil {n : Nat} : Rows3 H v n []
  | cons {n : Nat} {t : Addr} {r : List V} (e : H t = some (.tup [.int (n : Nat), v, v])) (h : Rows3 H v (n + 1) r) : Rows3 H v n (.ref t :: r)
def spBore : Sp := fun vs H Q _ => ∃ v : V, vs = [v] ∧ ∀ p ts H', Same H H' → H p = none → H' p = some (.lst ts) → ts.length = 7 → Rows3 H' v 5 ts → Q (.ref p) H'
theorem ok_bore {c : Nat → Addr} {f : Addr} {fd : FuncData} {k : Nat} (F : Fun K "_law_bore" "_law_bore" sBore f fd) (G : Glob mg) (C : AllC K mg c) : FnOk P w K mg base CX0 (k + 3) f fd ["_law_thing_here"] spBore := by
  obtain ⟨f5, fd5, D5⟩ := C.d5
  have G5 := ok_NoDoor (P := P) (w := w) (base := base) (k := k) D5 C.fe
  obtain ⟨f6, fd6, D6⟩ := C.d6
  have G6 := ok_NoTurn (P := P) (w := w) (base := base) (k := k) D6 C.fe
  obtain ⟨f7, fd7, D7⟩ := C.d7
  have G7 := ok_NoName (P := P) (w := w) (base := base) (k := k) D7 C.fe
  obtain ⟨f8, fd8, D8⟩ := C.d8
  have G8 := ok_Taken (P := P) (w := w) (base := base) (k := k) D8 C.fe
  obtain ⟨f9, fd9, D9⟩ := C.d9
  have G9 := ok_NoCode (P := P) (w := w) (base := base) (k := k) D9 C.fe
  obtain ⟨f10, fd10, D10⟩ := C.d10
  have G10 := ok_InUse (P := P) (w := w) (base := base) (k := k) D10 C.fe
  obtain ⟨f11, fd11, D11⟩ := C.d11
  have G11 := ok_Absent (P := P) (w := w) (base := base) (k := k) D11 G
  refine F.ok scBore (fun vs H Q E h => ?_) (fun cdv A outer s H vs Q E hr h => ?_)
  · obtain ⟨v, rfl, _⟩ := h
    rfl
  · obtain ⟨v, rfl, q⟩ := h
    refine ⟨_, pss_cons (ps_set (i := 1) scBore.nd rfl (.inl rfl) (pe_lst (pa_cons (pe_tup (pa_cons pe_int (pa_cons (pe_fld (pe_new D5 G5 hr (by rfl) (pv 0))) (pa_cons (pe_fld (pe_newK D5 G5 hr (by rfl) (pk_cons (pv 0) pk_nil))) pa_nil)))) (pa_cons (pe_tup (pa_cons pe_int (pa_cons (pe_fld (pe_new D6 G6 hr (by rfl) (pv 0))) (pa_cons (pe_fld (pe_newK D6 G6 hr (by rfl) (pk_cons (pv 0) pk_nil))) pa_nil)))) pa_nil))))
      (pss_cons (ps_set (i := 1) scBore.nd rfl (.inl rfl) (pe_op op_cat (pv 1) (pe_lst (pa_cons (pe_tup (pa_cons pe_int (pa_cons (pe_fld (pe_new D7 G7 hr (by rfl) (pv 0))) (pa_cons (pe_fld (pe_newK D7 G7 hr (by rfl) (pk_cons (pv 0) pk_nil))) pa_nil)))) (pa_cons (pe_tup (pa_cons pe_int (pa_cons (pe_fld (pe_new D8 G8 hr (by rfl) (pv 0))) (pa_cons (pe_fld (pe_newK D8 G8 hr (by rfl) (pk_cons (pv 0) pk_nil))) pa_nil)))) pa_nil)))))
      (pss_cons (ps_set (i := 1) scBore.nd rfl (.inl rfl) (pe_op op_cat (pv 1) (pe_lst (pa_cons (pe_tup (pa_cons pe_int (pa_cons (pe_fld (pe_new D9 G9 hr (by rfl) (pv 0))) (pa_cons (pe_fld (pe_newK D9 G9 hr (by rfl) (pk_cons (pv 0) pk_nil))) pa_nil)))) (pa_cons (pe_tup (pa_cons pe_int (pa_cons (pe_fld (pe_new D10 G10 hr (by rfl) (pv 0))) (pa_cons (pe_fld (pe_newK D10 G10 hr (by rfl) (pk_cons (pv 0) pk_nil))) pa_nil)))) pa_nil)))))
      (pss_one (ps_ret (pe_op op_cat (pv 1) (pe_lst (pa_cons (pe_tup (pa_cons pe_int (pa_cons (pe_fld (pe_new D11 G11 hr (by rfl) (pv 0))) (pa_cons (pe_fld (pe_newK D11 G11 hr (by rfl) (pk_cons (pv 0) pk_nil))) pa_nil)))) pa_nil))))))), ?_⟩
    have three : (3 : Nat) ≤ sizeLine := by decide
    refine ⟨v, rfl, fun a5 d5 A5 m5 => ⟨a5, c 5, d5, _, v, rfl, ⟨_, _, _, _, D5.t⟩, D5.no, m5.ea, m5.ed, lookup_one _ _, v, rfl, fun b5 e5 B5 n5 => ⟨b5, c 5, e5, _, v, rfl, ⟨_, _, _, _, D5.t⟩, D5.no, n5.ea, n5.ed, lookup_one _ _, three, fun t5 ht5 => ⟨v, rfl, fun a6 d6 A6 m6 => ⟨a6, c 6, d6, _, v, rfl, ⟨_, _, _, _, D6.t⟩, D6.no, m6.ea, m6.ed, lookup_one _ _, v, rfl, fun b6 e6 B6 n6 => ⟨b6, c 6, e6, _, v, rfl, ⟨_, _, _, _, D6.t⟩, D6.no, n6.ea, n6.ed, lookup_one _ _, three, fun t6 ht6 => ⟨(by show 2 ≤ sizeLine; decide), fun l1 h1 => ?_⟩⟩⟩⟩⟩⟩⟩
    have s1 : Same H (upd (upd B6 t6 (.tup [.int 6, v, v])) l1 (.lst [.ref t5, .ref t6])) := (m5.same.trans (n5.same.trans ((same_upd (o := (.tup [.int 5, v, v])) ht5).trans (m6.same.trans (n6.same.trans ((same_upd (o := (.tup [.int 6, v, v])) ht6).trans (same_upd (o := .lst [.ref t5, .ref t6]) h1)))))))
    have r5 : (upd (upd B6 t6 (.tup [.int 6, v, v])) l1 (.lst [.ref t5, .ref t6])) t5 = some (.tup [.int 5, v, v]) := (m6.same.trans (n6.same.trans ((same_upd (o := (.tup [.int 6, v, v])) ht6).trans (same_upd (o := .lst [.ref t5, .ref t6]) h1)))) _ _ upd_same
    have r6 : (upd (upd B6 t6 (.tup [.int 6, v, v])) l1 (.lst [.ref t5, .ref t6])) t6 = some (.tup [.int 6, v, v]) := (same_upd (o := .lst [.ref t5, .ref t6]) h1) _ _ upd_same
    have g1 : (upd (upd B6 t6 (.tup [.int 6, v, v])) l1 (.lst [.ref t5, .ref t6])) l1 = some (.lst [.ref t5, .ref t6]) := upd_same
    revert s1 r5 r6 g1 
    show _ → _ → _ → _ → tSeq _ _ _ _ (upd (upd B6 t6 (.tup [.int 6, v, v])) l1 (.lst [.ref t5, .ref t6]))
    generalize upd (upd B6 t6 (.tup [.int 6, v, v])) l1 (.lst [.ref t5, .ref t6]) = H1
    intro s1 r5 r6 g1 
    refine ⟨.ref l1, rfl, v, rfl, fun a7 d7 A7 m7 => ⟨a7, c 7, d7, _, v, rfl, ⟨_, _, _, _, D7.t⟩, D7.no, m7.ea, m7.ed, lookup_one _ _, v, rfl, fun b7 e7 B7 n7 => ⟨b7, c 7, e7, _, v, rfl, ⟨_, _, _, _, D7.t⟩, D7.no, n7.ea, n7.ed, lookup_one _ _, three, fun t7 ht7 => ⟨v, rfl, fun a8 d8 A8 m8 => ⟨a8, c 8, d8, _, v, rfl, ⟨_, _, _, _, D8.t⟩, D8.no, m8.ea, m8.ed, lookup_one _ _, v, rfl, fun b8 e8 B8 n8 => ⟨b8, c 8, e8, _, v, rfl, ⟨_, _, _, _, D8.t⟩, D8.no, n8.ea, n8.ed, lookup_one _ _, three, fun t8 ht8 => ⟨(by show 2 ≤ sizeLine; decide), fun k2 hk2 => ⟨l1, k2, [.ref t5, .ref t6], [.ref t7, .ref t8], rfl, rfl, ?x, upd_same, (by show 4 ≤ sizeLine; decide), fun l2 h2 => ?_⟩⟩⟩⟩⟩⟩⟩⟩
    case x => exact (m7.same.trans (n7.same.trans ((same_upd (o := (.tup [.int 7, v, v])) ht7).trans (m8.same.trans (n8.same.trans ((same_upd (o := (.tup [.int 8, v, v])) ht8).trans (same_upd (o := .lst [.ref t7, .ref t8]) hk2))))))) _ _ g1
    have s2 : Same H1 (upd (upd (upd B8 t8 (.tup [.int 8, v, v])) k2 (.lst [.ref t7, .ref t8])) l2 (.lst [.ref t5, .ref t6, .ref t7, .ref t8])) := (m7.same.trans (n7.same.trans ((same_upd (o := (.tup [.int 7, v, v])) ht7).trans (m8.same.trans (n8.same.trans ((same_upd (o := (.tup [.int 8, v, v])) ht8).trans ((same_upd (o := .lst [.ref t7, .ref t8]) hk2).trans (same_upd (o := .lst [.ref t5, .ref t6, .ref t7, .ref t8]) h2))))))))
    have r7 : (upd (upd (upd B8 t8 (.tup [.int 8, v, v])) k2 (.lst [.ref t7, .ref t8])) l2 (.lst [.ref t5, .ref t6, .ref t7, .ref t8])) t7 = some (.tup [.int 7, v, v]) := (m8.same.trans (n8.same.trans ((same_upd (o := (.tup [.int 8, v, v])) ht8).trans ((same_upd (o := .lst [.ref t7, .ref t8]) hk2).trans (same_upd (o := .lst [.ref t5, .ref t6, .ref t7, .ref t8]) h2))))) _ _ upd_same
    have r8 : (upd (upd (upd B8 t8 (.tup [.int 8, v, v])) k2 (.lst [.ref t7, .ref t8])) l2 (.lst [.ref t5, .ref t6, .ref t7, .ref t8])) t8 = some (.tup [.int 8, v, v]) := ((same_upd (o := .lst [.ref t7, .ref t8]) hk2).trans (same_upd (o := .lst [.ref t5, .ref t6, .ref t7, .ref t8]) h2)) _ _ upd_same
    have g2 : (upd (upd (upd B8 t8 (.tup [.int 8, v, v])) k2 (.lst [.ref t7, .ref t8])) l2 (.lst [.ref t5, .ref t6, .ref t7, .ref t8])) l2 = some (.lst [.ref t5, .ref t6, .ref t7, .ref t8]) := upd_same
    replace r5 := s2 _ _ r5
    replace r6 := s2 _ _ r6
    revert s2 r7 r8 g2 r5 r6
    show _ → _ → _ → _ → _ → _ → tSeq _ _ _ _ (upd (upd (upd B8 t8 (.tup [.int 8, v, v])) k2 (.lst [.ref t7, .ref t8])) l2 (.lst [.ref t5, .ref t6, .ref t7, .ref t8]))
    generalize upd (upd (upd B8 t8 (.tup [.int 8, v, v])) k2 (.lst [.ref t7, .ref t8])) l2 (.lst [.ref t5, .ref t6, .ref t7, .ref t8]) = H2
    intro s2 r7 r8 g2 r5 r6
    replace s2 := s1.trans s2
    refine ⟨.ref l2, rfl, v, rfl, fun a9 d9 A9 m9 => ⟨a9, c 9, d9, _, v, rfl, ⟨_, _, _, _, D9.t⟩, D9.no, m9.ea, m9.ed, lookup_one _ _, v, rfl, fun b9 e9 B9 n9 => ⟨b9, c 9, e9, _, v, rfl, ⟨_, _, _, _, D9.t⟩, D9.no, n9.ea, n9.ed, lookup_one _ _, three, fun t9 ht9 => ⟨v, rfl, fun a10 d10 A10 m10 => ⟨a10, c 10, d10, _, v, rfl, ⟨_, _, _, _, D10.t⟩, D10.no, m10.ea, m10.ed, lookup_one _ _, v, rfl, fun b10 e10 B10 n10 => ⟨b10, c 10, e10, _, v, rfl, ⟨_, _, _, _, D10.t⟩, D10.no, n10.ea, n10.ed, lookup_one _ _, three, fun t10 ht10 => ⟨(by show 2 ≤ sizeLine; decide), fun k3 hk3 => ⟨l2, k3, [.ref t5, .ref t6, .ref t7, .ref t8], [.ref t9, .ref t10], rfl, rfl, ?x, upd_same, (by show 6 ≤ sizeLine; decide), fun l3 h3 => ?_⟩⟩⟩⟩⟩⟩⟩⟩
    case x => exact (m9.same.trans (n9.same.trans ((same_upd (o := (.tup [.int 9, v, v])) ht9).trans (m10.same.trans (n10.same.trans ((same_upd (o := (.tup [.int 10, v, v])) ht10).trans (same_upd (o := .lst [.ref t9, .ref t10]) hk3))))))) _ _ g2
    have s3 : Same H2 (upd (upd (upd B10 t10 (.tup [.int 10, v, v])) k3 (.lst [.ref t9, .ref t10])) l3 (.lst [.ref t5, .ref t6, .ref t7, .ref t8, .ref t9, .ref t10])) := (m9.same.trans (n9.same.trans ((same_upd (o := (.tup [.int 9, v, v])) ht9).trans (m10.same.trans (n10.same.trans ((same_upd (o := (.tup [.int 10, v, v])) ht10).trans ((same_upd (o := .lst [.ref t9, .ref t10]) hk3).trans (same_upd (o := .lst [.ref t5, .ref t6, .ref t7, .ref t8, .ref t9, .ref t10]) h3))))))))
    have r9 : (upd (upd (upd B10 t10 (.tup [.int 10, v, v])) k3 (.lst [.ref t9, .ref t10])) l3 (.lst [.ref t5, .ref t6, .ref t7, .ref t8, .ref t9, .ref t10])) t9 = some (.tup [.int 9, v, v]) := (m10.same.trans (n10.same.trans ((same_upd (o := (.tup [.int 10, v, v])) ht10).trans ((same_upd (o := .lst [.ref t9, .ref t10]) hk3).trans (same_upd (o := .lst [.ref t5, .ref t6, .ref t7, .ref t8, .ref t9, .ref t10]) h3))))) _ _ upd_same
    have r10 : (upd (upd (upd B10 t10 (.tup [.int 10, v, v])) k3 (.lst [.ref t9, .ref t10])) l3 (.lst [.ref t5, .ref t6, .ref t7, .ref t8, .ref t9, .ref t10])) t10 = some (.tup [.int 10, v, v]) := ((same_upd (o := .lst [.ref t9, .ref t10]) hk3).trans (same_upd (o := .lst [.ref t5, .ref t6, .ref t7, .ref t8, .ref t9, .ref t10]) h3)) _ _ upd_same
    have g3 : (upd (upd (upd B10 t10 (.tup [.int 10, v, v])) k3 (.lst [.ref t9, .ref t10])) l3 (.lst [.ref t5, .ref t6, .ref t7, .ref t8, .ref t9, .ref t10])) l3 = some (.lst [.ref t5, .ref t6, .ref t7, .ref t8, .ref t9, .ref t10]) := upd_same
    replace r5 := s3 _ _ r5
    replace r6 := s3 _ _ r6
    replace r7 := s3 _ _ r7
    replace r8 := s3 _ _ r8
    revert s3 r9 r10 g3 r5 r6 r7 r8
    show _ → _ → _ → _ → _ → _ → _ → _ → tSeq _ _ _ _ (upd (upd (upd B10 t10 (.tup [.int 10, v, v])) k3 (.lst [.ref t9, .ref t10])) l3 (.lst [.ref t5, .ref t6, .ref t7, .ref t8, .ref t9, .ref t10]))
    generalize upd (upd (upd B10 t10 (.tup [.int 10, v, v])) k3 (.lst [.ref t9, .ref t10])) l3 (.lst [.ref t5, .ref t6, .ref t7, .ref t8, .ref t9, .ref t10]) = H3
    intro s3 r9 r10 g3 r5 r6 r7 r8
    replace s3 := s2.trans s3
    refine ⟨.ref l3, rfl, v, rfl, fun a11 d11 A11 m11 => ⟨a11, c 11, d11, _, v, rfl, ⟨_, _, _, _, D11.t⟩, D11.no, m11.ea, m11.ed, lookup_one _ _, v, rfl, fun b11 e11 B11 n11 => ⟨b11, c 11, e11, _, v, rfl, ⟨_, _, _, _, D11.t⟩, D11.no, n11.ea, n11.ed, lookup_one _ _, three, fun t11 ht11 => ⟨(by show 1 ≤ sizeLine; decide), fun k4 hk4 => ⟨l3, k4, [.ref t5, .ref t6, .ref t7, .ref t8, .ref t9, .ref t10], [.ref t11], rfl, rfl, ?x, upd_same, (by show 7 ≤ sizeLine; decide), fun l4 h4 => ?_⟩⟩⟩⟩⟩
    case x => exact (m11.same.trans (n11.same.trans ((same_upd (o := (.tup [.int 11, v, v])) ht11).trans (same_upd (o := .lst [.ref t11]) hk4)))) _ _ g3
    have s4 : Same H3 (upd (upd (upd B11 t11 (.tup [.int 11, v, v])) k4 (.lst [.ref t11])) l4 (.lst [.ref t5, .ref t6, .ref t7, .ref t8, .ref t9, .ref t10, .ref t11])) := (m11.same.trans (n11.same.trans ((same_upd (o := (.tup [.int 11, v, v])) ht11).trans ((same_upd (o := .lst [.ref t11]) hk4).trans (same_upd (o := .lst [.ref t5, .ref t6, .ref t7, .ref t8, .ref t9, .ref t10, .ref t11]) h4)))))
    have r11 : (upd (upd (upd B11 t11 (.tup [.int 11, v, v])) k4 (.lst [.ref t11])) l4 (.lst [.ref t5, .ref t6, .ref t7, .ref t8, .ref t9, .ref t10, .ref t11])) t11 = some (.tup [.int 11, v, v]) := ((same_upd (o := .lst [.ref t11]) hk4).trans (same_upd (o := .lst [.ref t5, .ref t6, .ref t7, .ref t8, .ref t9, .ref t10, .ref t11]) h4)) _ _ upd_same
    have g4 : (upd (upd (upd B11 t11 (.tup [.int 11, v, v])) k4 (.lst [.ref t11])) l4 (.lst [.ref t5, .ref t6, .ref t7, .ref t8, .ref t9, .ref t10, .ref t11])) l4 = some (.lst [.ref t5, .ref t6, .ref t7, .ref t8, .ref t9, .ref t10, .ref t11]) := upd_same
    replace r5 := s4 _ _ r5
    replace r6 := s4 _ _ r6
    replace r7 := s4 _ _ r7
    replace r8 := s4 _ _ r8
    replace r9 := s4 _ _ r9
    replace r10 := s4 _ _ r10
    revert s4 r11 g4 r5 r6 r7 r8 r9 r10
    show _ → _ → _ → _ → _ → _ → _ → _ → _ → Q (.ref l4) (upd (upd (upd B11 t11 (.tup [.int 11, v, v])) k4 (.lst [.ref t11])) l4 (.lst [.ref t5, .ref t6, .ref t7, .ref t8, .ref t9, .ref t10, .ref t11]))
    generalize upd (upd (upd B11 t11 (.tup [.int 11, v, v])) k4 (.lst [.ref t11])) l4 (.lst [.ref t5, .ref t6, .ref t7, .ref t8, .ref t9, .ref t10, .ref t11]) = H4
    intro s4 r11 g4 r5 r6 r7 r8 r9 r10
    replace s4 := s3.trans s4
    exact q l4 _ H4 s4 (s3.free ((m11.same.trans (n11.same.trans ((same_upd (o := (.tup [.int 11, v, v])) ht11).trans (same_upd (o := .lst [.ref t11]) hk4)))).free h4)) g4 rfl (.cons r5 (.cons r6 (.cons r7 (.cons r8 (.cons r9 (.cons r10 (.cons r11 .nil)))))))

abbrev sAll : Stmt := topS 22
theorem scAll : FnScope ["_law_thing_here", "_law_text", "_law_some"] ["_law_thing_here", "_law_text"] (defScope sAll) := ⟨rfl, rfl, rfl, by decide +kernel, rfl, by decide +kernel, by decide +kernel⟩
/-- exceptions of the classes c i, c (i + 1), .. -/
inductive Exs (H : Hp) (c : Nat → Addr) : Nat → List V → Prop
  | nil {n : Nat} : Exs H c n []
  | cons {n : Nat} {a : Addr} {r : List V} (e : IsEx H a (c n)) (h : Exs H c (n + 1) r) : Exs H c n (.ref a :: r)
def spAll (c : Nat → Addr) : Sp := fun vs H Q _ => ∃ v t : V, vs = [v, t] ∧ ∀ p es H', Same H H' → H p = none → H' p = some (.lst es) → es.length = 12 → Exs H' c 0 es → Q (.ref p) H'
theorem new_ex {H : Hp} {a C : Addr} : IsEx (upd H a (exo a C none)) a C := ⟨none, .inl upd_same, fun _ e => nomatch e⟩
theorem ok_all {c : Nat → Addr} {f : Addr} {fd : FuncData} {k : Nat} (F : Fun K "_law_all" "_law_all" sAll f fd) (G : Glob mg) (C : AllC K mg c) : FnOk P w K mg base CX0 (k + 3) f fd ["_law_thing_here", "_law_text"] (spAll c) := by
  obtain ⟨f5, fd5, D5⟩ := C.d5
  have G5 := ok_NoDoor (P := P) (w := w) (base := base) (k := k) D5 C.fe
  obtain ⟨f6, fd6, D6⟩ := C.d6
  have G6 := ok_NoTurn (P := P) (w := w) (base := base) (k := k) D6 C.fe
  obtain ⟨f7, fd7, D7⟩ := C.d7
  have G7 := ok_NoName (P := P) (w := w) (base := base) (k := k) D7 C.fe
  obtain ⟨f8, fd8, D8⟩ := C.d8
  have G8 := ok_Taken (P := P) (w := w) (base := base) (k := k) D8 C.fe
  obtain ⟨f9, fd9, D9⟩ := C.d9
  have G9 := ok_NoCode (P := P) (w := w) (base := base) (k := k) D9 C.fe
  obtain ⟨f10, fd10, D10⟩ := C.d10
  have G10 := ok_InUse (P := P) (w := w) (base := base) (k := k) D10 C.fe
  obtain ⟨f11, fd11, D11⟩ := C.d11
  have G11 := ok_Absent (P := P) (w := w) (base := base) (k := k) D11 G
  refine F.ok scAll (fun vs H Q E h => ?_) (fun cdv A outer s H vs Q E hr h => ?_)
  · obtain ⟨v, t, rfl, _⟩ := h
    rfl
  · obtain ⟨v, t, rfl, q⟩ := h
    refine ⟨_, pss_cons (ps_set (i := 2) scAll.nd rfl (.inl rfl) (pe_lst (pa_cons (pe_mk1 PySem.F.excBase_ValueError C.e0 C.t.n0 C.k0 (by rfl) (pv 1)) (pa_cons (pe_mk1 PySem.F.excBase_ValueError C.e1 C.t.n1 C.k1 (by rfl) (pv 1)) (pa_cons (pe_mk1 PySem.F.excBase_ValueError C.e2 C.t.n2 C.k2 (by rfl) (pv 1)) (pa_cons (pe_mk1 PySem.F.excBase_ValueError C.e3 C.t.n3 C.k3 (by rfl) (pv 1)) (pa_cons (pe_mk1 PySem.F.excBase_ValueError C.e4 C.t.n4 C.k4 (by rfl) (pv 1)) (pa_cons (pe_new D5 G5 hr (by rfl) (pv 0)) (pa_cons (pe_new D6 G6 hr (by rfl) (pv 0)) pa_nil)))))))))
      (pss_one (ps_ret (pe_op op_cat (pv 2) (pe_lst (pa_cons (pe_new D7 G7 hr (by rfl) (pv 0)) (pa_cons (pe_new D8 G8 hr (by rfl) (pv 0)) (pa_cons (pe_new D9 G9 hr (by rfl) (pv 0)) (pa_cons (pe_new D10 G10 hr (by rfl) (pv 0)) (pa_cons (pe_new D11 G11 hr (by rfl) (pv 0)) pa_nil))))))))), ?_⟩
    refine ⟨t, rfl, fun a0 h0 => ⟨t, rfl, fun a1 h1 => ⟨t, rfl, fun a2 h2 => ⟨t, rfl, fun a3 h3 => ⟨t, rfl, fun a4 h4 => ⟨v, rfl, fun a5 d5 A5 m5 => ⟨v, rfl, fun a6 d6 A6 m6 => ⟨(by show 7 ≤ sizeLine; decide), fun l1 hl1 => ?_⟩⟩⟩⟩⟩⟩⟩⟩
    have s1 : Same H (upd A6 l1 (.lst [.ref a0, .ref a1, .ref a2, .ref a3, .ref a4, .ref a5, .ref a6])) := ((same_upd (o := exo a0 (c 0) none) h0).trans ((same_upd (o := exo a1 (c 1) none) h1).trans ((same_upd (o := exo a2 (c 2) none) h2).trans ((same_upd (o := exo a3 (c 3) none) h3).trans ((same_upd (o := exo a4 (c 4) none) h4).trans (m5.same.trans (m6.same.trans (same_upd (o := .lst [.ref a0, .ref a1, .ref a2, .ref a3, .ref a4, .ref a5, .ref a6]) hl1))))))))
    have x0 : IsEx (upd A6 l1 (.lst [.ref a0, .ref a1, .ref a2, .ref a3, .ref a4, .ref a5, .ref a6])) a0 (c 0) := isEx_same new_ex ((same_upd (o := exo a1 (c 1) none) h1).trans ((same_upd (o := exo a2 (c 2) none) h2).trans ((same_upd (o := exo a3 (c 3) none) h3).trans ((same_upd (o := exo a4 (c 4) none) h4).trans (m5.same.trans (m6.same.trans (same_upd (o := .lst [.ref a0, .ref a1, .ref a2, .ref a3, .ref a4, .ref a5, .ref a6]) hl1)))))))
    have x1 : IsEx (upd A6 l1 (.lst [.ref a0, .ref a1, .ref a2, .ref a3, .ref a4, .ref a5, .ref a6])) a1 (c 1) := isEx_same new_ex ((same_upd (o := exo a2 (c 2) none) h2).trans ((same_upd (o := exo a3 (c 3) none) h3).trans ((same_upd (o := exo a4 (c 4) none) h4).trans (m5.same.trans (m6.same.trans (same_upd (o := .lst [.ref a0, .ref a1, .ref a2, .ref a3, .ref a4, .ref a5, .ref a6]) hl1))))))
    have x2 : IsEx (upd A6 l1 (.lst [.ref a0, .ref a1, .ref a2, .ref a3, .ref a4, .ref a5, .ref a6])) a2 (c 2) := isEx_same new_ex ((same_upd (o := exo a3 (c 3) none) h3).trans ((same_upd (o := exo a4 (c 4) none) h4).trans (m5.same.trans (m6.same.trans (same_upd (o := .lst [.ref a0, .ref a1, .ref a2, .ref a3, .ref a4, .ref a5, .ref a6]) hl1)))))
    have x3 : IsEx (upd A6 l1 (.lst [.ref a0, .ref a1, .ref a2, .ref a3, .ref a4, .ref a5, .ref a6])) a3 (c 3) := isEx_same new_ex ((same_upd (o := exo a4 (c 4) none) h4).trans (m5.same.trans (m6.same.trans (same_upd (o := .lst [.ref a0, .ref a1, .ref a2, .ref a3, .ref a4, .ref a5, .ref a6]) hl1))))
    have x4 : IsEx (upd A6 l1 (.lst [.ref a0, .ref a1, .ref a2, .ref a3, .ref a4, .ref a5, .ref a6])) a4 (c 4) := isEx_same new_ex (m5.same.trans (m6.same.trans (same_upd (o := .lst [.ref a0, .ref a1, .ref a2, .ref a3, .ref a4, .ref a5, .ref a6]) hl1)))
    have x5 : IsEx (upd A6 l1 (.lst [.ref a0, .ref a1, .ref a2, .ref a3, .ref a4, .ref a5, .ref a6])) a5 (c 5) := isEx_same m5.ex (m6.same.trans (same_upd (o := .lst [.ref a0, .ref a1, .ref a2, .ref a3, .ref a4, .ref a5, .ref a6]) hl1))
    have x6 : IsEx (upd A6 l1 (.lst [.ref a0, .ref a1, .ref a2, .ref a3, .ref a4, .ref a5, .ref a6])) a6 (c 6) := isEx_same m6.ex (same_upd (o := .lst [.ref a0, .ref a1, .ref a2, .ref a3, .ref a4, .ref a5, .ref a6]) hl1)
    have g1 : (upd A6 l1 (.lst [.ref a0, .ref a1, .ref a2, .ref a3, .ref a4, .ref a5, .ref a6])) l1 = some (.lst [.ref a0, .ref a1, .ref a2, .ref a3, .ref a4, .ref a5, .ref a6]) := upd_same
    revert s1 x0 x1 x2 x3 x4 x5 x6 g1
    show _ → _ → _ → _ → _ → _ → _ → _ → _ → tSeq _ _ _ _ (upd A6 l1 (.lst [.ref a0, .ref a1, .ref a2, .ref a3, .ref a4, .ref a5, .ref a6]))
    generalize upd A6 l1 (.lst [.ref a0, .ref a1, .ref a2, .ref a3, .ref a4, .ref a5, .ref a6]) = H1
    intro s1 x0 x1 x2 x3 x4 x5 x6 g1
    refine ⟨.ref l1, rfl, v, rfl, fun a7 d7 A7 m7 => ⟨v, rfl, fun a8 d8 A8 m8 => ⟨v, rfl, fun a9 d9 A9 m9 => ⟨v, rfl, fun a10 d10 A10 m10 => ⟨v, rfl, fun a11 d11 A11 m11 => ⟨(by show 5 ≤ sizeLine; decide), fun k2 hk2 => ⟨l1, k2, [.ref a0, .ref a1, .ref a2, .ref a3, .ref a4, .ref a5, .ref a6], [.ref a7, .ref a8, .ref a9, .ref a10, .ref a11], rfl, rfl, ?x, upd_same, (by show 12 ≤ sizeLine; decide), fun l2 hl2 => ?_⟩⟩⟩⟩⟩⟩⟩
    case x => exact (m7.same.trans (m8.same.trans (m9.same.trans (m10.same.trans (m11.same.trans (same_upd (o := .lst [.ref a7, .ref a8, .ref a9, .ref a10, .ref a11]) hk2)))))) _ _ g1
    have s2 : Same H1 (upd (upd A11 k2 (.lst [.ref a7, .ref a8, .ref a9, .ref a10, .ref a11])) l2 (.lst [.ref a0, .ref a1, .ref a2, .ref a3, .ref a4, .ref a5, .ref a6, .ref a7, .ref a8, .ref a9, .ref a10, .ref a11])) := (m7.same.trans (m8.same.trans (m9.same.trans (m10.same.trans (m11.same.trans ((same_upd (o := .lst [.ref a7, .ref a8, .ref a9, .ref a10, .ref a11]) hk2).trans (same_upd (o := .lst [.ref a0, .ref a1, .ref a2, .ref a3, .ref a4, .ref a5, .ref a6, .ref a7, .ref a8, .ref a9, .ref a10, .ref a11]) hl2)))))))
    have x7 : IsEx (upd (upd A11 k2 (.lst [.ref a7, .ref a8, .ref a9, .ref a10, .ref a11])) l2 (.lst [.ref a0, .ref a1, .ref a2, .ref a3, .ref a4, .ref a5, .ref a6, .ref a7, .ref a8, .ref a9, .ref a10, .ref a11])) a7 (c 7) := isEx_same m7.ex (m8.same.trans (m9.same.trans (m10.same.trans (m11.same.trans ((same_upd (o := .lst [.ref a7, .ref a8, .ref a9, .ref a10, .ref a11]) hk2).trans (same_upd (o := .lst [.ref a0, .ref a1, .ref a2, .ref a3, .ref a4, .ref a5, .ref a6, .ref a7, .ref a8, .ref a9, .ref a10, .ref a11]) hl2))))))
    have x8 : IsEx (upd (upd A11 k2 (.lst [.ref a7, .ref a8, .ref a9, .ref a10, .ref a11])) l2 (.lst [.ref a0, .ref a1, .ref a2, .ref a3, .ref a4, .ref a5, .ref a6, .ref a7, .ref a8, .ref a9, .ref a10, .ref a11])) a8 (c 8) := isEx_same m8.ex (m9.same.trans (m10.same.trans (m11.same.trans ((same_upd (o := .lst [.ref a7, .ref a8, .ref a9, .ref a10, .ref a11]) hk2).trans (same_upd (o := .lst [.ref a0, .ref a1, .ref a2, .ref a3, .ref a4, .ref a5, .ref a6, .ref a7, .ref a8, .ref a9, .ref a10, .ref a11]) hl2)))))
    have x9 : IsEx (upd (upd A11 k2 (.lst [.ref a7, .ref a8, .ref a9, .ref a10, .ref a11])) l2 (.lst [.ref a0, .ref a1, .ref a2, .ref a3, .ref a4, .ref a5, .ref a6, .ref a7, .ref a8, .ref a9, .ref a10, .ref a11])) a9 (c 9) := isEx_same m9.ex (m10.same.trans (m11.same.trans ((same_upd (o := .lst [.ref a7, .ref a8, .ref a9, .ref a10, .ref a11]) hk2).trans (same_upd (o := .lst [.ref a0, .ref a1, .ref a2, .ref a3, .ref a4, .ref a5, .ref a6, .ref a7, .ref a8, .ref a9, .ref a10, .ref a11]) hl2))))
    have x10 : IsEx (upd (upd A11 k2 (.lst [.ref a7, .ref a8, .ref a9, .ref a10, .ref a11])) l2 (.lst [.ref a0, .ref a1, .ref a2, .ref a3, .ref a4, .ref a5, .ref a6, .ref a7, .ref a8, .ref a9, .ref a10, .ref a11])) a10 (c 10) := isEx_same m10.ex (m11.same.trans ((same_upd (o := .lst [.ref a7, .ref a8, .ref a9, .ref a10, .ref a11]) hk2).trans (same_upd (o := .lst [.ref a0, .ref a1, .ref a2, .ref a3, .ref a4, .ref a5, .ref a6, .ref a7, .ref a8, .ref a9, .ref a10, .ref a11]) hl2)))
    have x11 : IsEx (upd (upd A11 k2 (.lst [.ref a7, .ref a8, .ref a9, .ref a10, .ref a11])) l2 (.lst [.ref a0, .ref a1, .ref a2, .ref a3, .ref a4, .ref a5, .ref a6, .ref a7, .ref a8, .ref a9, .ref a10, .ref a11])) a11 (c 11) := isEx_same m11.ex ((same_upd (o := .lst [.ref a7, .ref a8, .ref a9, .ref a10, .ref a11]) hk2).trans (same_upd (o := .lst [.ref a0, .ref a1, .ref a2, .ref a3, .ref a4, .ref a5, .ref a6, .ref a7, .ref a8, .ref a9, .ref a10, .ref a11]) hl2))
    replace x0 := isEx_same x0 s2
    replace x1 := isEx_same x1 s2
    replace x2 := isEx_same x2 s2
    replace x3 := isEx_same x3 s2
    replace x4 := isEx_same x4 s2
    replace x5 := isEx_same x5 s2
    replace x6 := isEx_same x6 s2
    exact q l2 [.ref a0, .ref a1, .ref a2, .ref a3, .ref a4, .ref a5, .ref a6, .ref a7, .ref a8, .ref a9, .ref a10, .ref a11] (upd (upd A11 k2 (.lst [.ref a7, .ref a8, .ref a9, .ref a10, .ref a11])) l2 (.lst [.ref a0, .ref a1, .ref a2, .ref a3, .ref a4, .ref a5, .ref a6, .ref a7, .ref a8, .ref a9, .ref a10, .ref a11])) (s1.trans s2) (s1.free ((m7.same.trans (m8.same.trans (m9.same.trans (m10.same.trans (m11.same.trans (same_upd (o := .lst [.ref a7, .ref a8, .ref a9, .ref a10, .ref a11]) hk2)))))).free hl2)) upd_same rfl (.cons x0 (.cons x1 (.cons x2 (.cons x3 (.cons x4 (.cons x5 (.cons x6 (.cons x7 (.cons x8 (.cons x9 (.cons x10 (.cons x11 .nil))))))))))))

end
end K5
set_option Elab.async false
set_option linter.all false
set_option maxRecDepth 100000
set_option maxHeartbeats 4000000
namespace K5
open PySem PySem.Spec PyProof.Rows L2 KG EX EH L2H
/-! ### raised and caught -/
section
variable {X : Cx} {a : Addr} {oe : Obj} {cls : Value} {d : Option Addr} {pn : List (Addr × Obj)}
theorem hot_suite (hz : L2N.Zn cls d oe) (hf : ∃ vs, oe.data = .fields vs) : Hot1 (X.suite a ((a, oe) :: pn)).A (a, oe) := by
  obtain ⟨vs, e⟩ := hf
  exact ⟨rfl, vs, e, hz.2.2 vs e⟩
/-- kinds(e) in the suite -/
def tKindsE (c : Nat → Addr) (a : Addr) (cls : Value) (d : Option Addr) (j : Nat) : TE := fun σ H Q => ∃ v, σ[j]? = some (some v) ∧ ∃ (i : Nat) (dd : Addr) (fs : List (Str × V)), v = .ref a ∧ i < 12 ∧ cls = .ref (c i) ∧ d = some dd ∧ H dd = some (exd dd fs) ∧
  ∀ l H', Same H H' → H l = none → H' l = some (.lst (kindsL i)) → Q (.ref l) H'
theorem pe_kindsE {c : Nat → Addr} {k j : Nat} {f : Addr} {fd : FuncData} {x : Str} {pp pos p2 : Pos} (F : FnP X.prog X.w X.K X.mg X.base k f fd ["_law_made"] (spKindsH c)) (hr : RoomH k X.A) (hg : Gl X "_law_kinds") (hm : X.mg "_law_kinds" = some (.ref f))
    (hk : PySem.W.keepIn X.K (.ref f) = true) (hb : Binds X.K fd ["_law_made"] []) (hz : L2N.Zn cls d oe) (hf : ∃ vs, oe.data = .fields vs) (hx : PE (X.suite a ((a, oe) :: pn)) (.Name x p2) (tVar j))
    (he : starEach [.Name x p2] X.env = (false, eval (.Name x p2) X.env) :: starEach [] X.env := by rfl) :
    PE (X.suite a ((a, oe) :: pn)) (.Call (.Name "_law_kinds" pp) [.Name x p2] [] pos) (tKindsE c a cls d j) := by
  refine pe_weak (pe_callP (p := (a, oe)) (X := X.suite a ((a, oe) :: pn)) F ⟨hr.dp, hr.un⟩ (hot_suite hz hf) List.mem_cons_self hg hm hk hb (pa_cons hx pa_nil he) (by decide) he (by rfl)) ?_
  rintro σ H Q ⟨v, e, i, dd, fs, rfl, hi, hc, hd, h1, q⟩
  refine ⟨_, e, i, dd, fs, rfl, hi, ⟨?_, ?_⟩, h1, q⟩
  · rw [← hc]
    exact hz.1
  · rw [← hd]
    exact hz.2.1
/-- e.f in the suite -/
def tFldE (K : PySem.W.Frag) (a : Addr) (cls : Value) (d : Option Addr) (f : Str) (te : TE) : TE := fun σ H Q => te σ H fun x H1 => x = .ref a ∧ ∃ (C dd : Addr) (fs : List (Str × V)) (v : V), cls = .ref C ∧ d = some dd ∧ (∃ NB nw IB ini, ExK K C NB nw IB ini) ∧ PySem.W.findIn K (.ref C) f = some none ∧
  H1 dd = some (exd dd fs) ∧ fs.lookup f = some v ∧ Q v H1
theorem pe_fldE {pos : Pos} {f : Str} {e : Expr} {te : TE} (hz : L2N.Zn cls d oe) (hf : ∃ vs, oe.data = .fields vs) (he : PE (X.suite a ((a, oe) :: pn)) e te) (hb : attributeBase e f X.env (eval e X.env) = eval e X.env := by rfl) :
    PE (X.suite a ((a, oe) :: pn)) (.Attribute e f pos) (tFldE X.K a cls d f te) := by
  constructor
  intro pins s σ H Q I h
  refine attr_of hb (thn (he.run pins s σ H _ I h) fun u s1 z => ?_)
  obtain ⟨x, H1, I1, rx, rfl, C, dd, fs, v, rfl, rfl, ⟨NB, nw, IB, ini, T⟩, hno, hd, l, q⟩ := z
  obtain rfl : u = Value.ref a := rx
  obtain ⟨mA, od, ho, hl, hr, J⟩ := inst_pin (p := (a, oe)) I1 List.mem_cons_self hz.zc hf hd
  obtain ⟨u, hu, ru⟩ := RelO.some_of (v := v) (o := mA f) (by rw [← l]; exact hr f)
  exact HandSPX.exc_get I1.kIn J T.ga T.gg T.ex (PySem.W.findObj_own T.hd hno rfl (by rw [hl, hu])) (handed_of ru) ⟨v, H1, I1.tok _, ru, q⟩
theorem call_reprS {k : Nat} (hgd : Gd X.A) (hr : Room k X.A) : CallR (X.suite a pn) (.builtin "repr") (rRepr X.K) := call_reprH (X := X.suite a pn) (k := k) hgd ⟨hr.dp, hr.un⟩
theorem takes0 : L2N.Takes X fun _ _ _ _ => False := fun u s' ⟨a, B, sI, pins, σ, H, cls, d, e, I, nb, up, sky, na, os, ag, w⟩ => w.elim
end
theorem pss_weak {X : Cx} {st : List Stmt} {t t' : TS} (h : PSs X st t) (i : ∀ D σ H, t' D σ H → t D σ H) : PSs X st t' := ⟨fun pins s σ H D I q => h.run pins s σ H D I (i D σ H q)⟩
/-- what the suites ask -/
def tSuite (K : PySem.W.Frag) (c : Nat → Addr) (a : Addr) (cls : Value) (d : Option Addr) (arg : TE) : TS := fun D σ H => ∃ (l : Addr) (xs : List V), σ[1]? = some (some (.ref l)) ∧ H l = some (.lst xs) ∧ xs.length < 1000 ∧
  tKindsE c a cls d 2 σ H fun kv H1 => arg σ H1 fun x H2 => ∃ dt : PyData, Dp K H2 x dt ∧ Sh dt 200 1 ∧ H2 l = some (.lst xs) ∧ ∀ t, H2 t = none → D.nx σ (upd (upd H2 t (.tup [kv, .str dt.shown])) l (.lst (xs ++ [.ref t])))
/-- an own class in an except clause catches -/
theorem exm_own {K : PySem.W.Frag} {C : Addr} {cls : Value} {NB nw IB ini : String} (T : ExK K C NB nw IB ini) (h : PySem.W.subIn K cls (.ref C) = some true) : PySem.W.exmOne K cls (.ref C) = some true := PySem.W.exm_ref T.ex T.hd T.ty h
/-- what is behind a raise: the exception is let go -/
theorem Made.gone {f : Str} {C : Addr} {y : V} {H H' : Hp} {a d : Addr} (m : Made f C y H H' a d) : Same H (delH H' a) ∧ delH H' a d = some (exd d [(f, y)]) :=
  ⟨fun b o e => by rw [delH_ne (ne_of_none e m.na)]; exact m.same b o e, by rw [delH_ne m.ne]; exact m.ed⟩
def rowD (k : Int) (t : Str) : PyData := .tuple [.list [.int k], .str t]
def raisedD (t : Str) : PyData := .list [rowD 5 t, rowD 11 t, rowD 10 t]
structure After (H Hc H3 : Hp) (l t l2 : Addr) (xs ks : List V) (sh : Str) : Prop where
  same : Same H H3
  keep : ∀ b o, b ≠ l → Hc b = some o → H3 b = some o
  lst : H3 l = some (.lst (xs ++ [.ref t]))
  row : H3 t = some (.tup [.ref l2, .str sh])
  kinds : H3 l2 = some (.lst ks)
  nt : t ≠ l
  nl : l2 ≠ l
theorem after {H Hc H1 H2 : Hp} {l t l2 a d C : Addr} {f : Str} {y : V} {xs ks : List V} {sh : Str} (s : Same H Hc) (h0 : H l = none) (gl : Hc l = some (.lst xs)) (m : Made f C y Hc H1 a d) (sm : Same (delH H1 a) H2) (hn : delH H1 a l2 = none) (hl2 : H2 l2 = some (.lst ks)) (ht : H2 t = none) :
    After H Hc (upd (upd H2 t (.tup [.ref l2, .str sh])) l (.lst (xs ++ [.ref t]))) l t l2 xs ks sh := by
  have sg := m.gone.1
  have gl2 : H2 l = some (.lst xs) := sm _ _ (sg _ _ gl)
  have nt : t ≠ l := fun z => by
    rw [z, gl2] at ht
    cases ht
  have nl : l2 ≠ l := fun z => by
    rw [z, sg _ _ gl] at hn
    cases hn
  have nlt : l2 ≠ t := fun z => by
    rw [← z, hl2] at ht
    cases ht
  have keep : ∀ b o, b ≠ l → Hc b = some o → upd (upd H2 t (.tup [.ref l2, .str sh])) l (.lst (xs ++ [.ref t])) b = some o := fun b o nb e => by
    have e2 := sm _ _ (sg _ _ e)
    rw [upd_ne nb, upd_ne (ne_of_none e2 ht)]
    exact e2
  exact ⟨fun b o e => keep b o (ne_of_none e h0) (s b o e), keep, upd_same, by rw [upd_ne nt, upd_same], by rw [upd_ne nl, upd_ne nlt]; exact hl2, nt, nl⟩
abbrev sRaised : Stmt := topS 23
theorem scRaised : FnScope ["_law_thing_here", "_law_found", "e"] ["_law_thing_here"] (defScope sRaised) := ⟨rfl, rfl, rfl, by decide +kernel, rfl, by decide +kernel, by decide +kernel⟩
section
variable {P : Program} {w : World} {K : PySem.W.Frag} {mg : Str → Option Value} {base : Heap}
def spRaised (K : PySem.W.Frag) : Sp := fun vs H Q _ => ∃ (v : V) (d : PyData), vs = [v] ∧ Thg K H v d ∧ ∀ p H', Same H H' → Dp K H' (.ref p) (raisedD d.shown) → Q (.ref p) H'
/-- who is caught by whom -/
structure Subs (K : PySem.W.Frag) (c : Nat → Addr) : Prop where
  s5 : PySem.W.subIn K (.ref (c 5)) (.ref (c 12)) = some true
  s11 : PySem.W.subIn K (.ref (c 11)) (.ref (c 11)) = some true
  s10 : PySem.W.subIn K (.ref (c 10)) (.ref (c 10)) = some true
theorem ok_raised {c : Nat → Addr} {f fK : Addr} {fd fdK : FuncData} {k : Nat} (F : Fun K "_law_raised" "_law_raised" sRaised f fd) (G : Glob mg) (C : AllC K mg c) (S : Subs K c) (DK : Def K mg "_law_kinds" sKinds ["_law_made"] fK fdK) :
    FnG P w K mg base (k + 3) f fd ["_law_thing_here"] (spRaised K) := by
  obtain ⟨f5, fd5, D5⟩ := C.d5
  have G5 := ok_NoDoor (P := P) (w := w) (base := base) (k := k) D5 C.fe
  obtain ⟨f10, fd10, D10⟩ := C.d10
  have G10 := ok_InUse (P := P) (w := w) (base := base) (k := k) D10 C.fe
  obtain ⟨f11, fd11, D11⟩ := C.d11
  have G11 := ok_Absent (P := P) (w := w) (base := base) (k := k) D11 G
  have GK : FnP P w K mg base (k + 1) fK fdK ["_law_made"] (spKindsH c) := ok_kindsH DK.fn G C.t
  refine okG F scRaised (fun vs H Q E h => ?_) (fun cdv A outer s H vs Q hgd hr h => ?_)
  · obtain ⟨v, d, rfl, _⟩ := h
    rfl
  · obtain ⟨v, d, rfl, hv, q⟩ := h
    have hr1 : Room (k + 1) _ := hr.mono (by omega)
    refine' ⟨_, pss_cons (ps_set (i := 1) scRaised.nd rfl (.inl rfl) (pe_lst pa_nil))
      (pss_cons (L2N.ps_try_as (i := 2) rfl rfl scRaised.nd rfl rfl ⟨by rfl, by decide, .inl C.t.n12⟩ takes0 ?b1 ?s1)
      (pss_cons (L2N.ps_try_as (i := 2) rfl rfl scRaised.nd rfl rfl ⟨by rfl, by decide, .inl C.t.n11⟩ takes0 ?b2 ?s2)
      (pss_cons (L2N.ps_try_as (i := 2) rfl rfl scRaised.nd rfl rfl ⟨by rfl, by decide, .inl C.t.n10⟩ takes0 ?b3 ?s3)
      (pss_one (ps_ret (pv 1)))))), ?rd⟩
    case b1 =>
      intro W pn xe tk hp
      exact pss_one (L2N.ps_raise rfl tk (pmk_new (X := (cxOf CX0 P w K mg base ["_law_thing_here", "_law_found", "e"] "_law_raised" (defScope sRaised) f cdv A outer s H E0).nox.tr pn xe) (H0 := H) (K := K) rfl rfl rfl (pe_new (X := (cxOf CX0 P w K mg base ["_law_thing_here", "_law_found", "e"] "_law_raised" (defScope sRaised) f cdv A outer s H E0).nox.tr pn xe) D5 G5 hr (by rfl) (pv 0))))
    case s1 =>
      intro a oe cls d pn hz hf
      refine pss_weak (t' := tSuite K c a cls d (tVar 0)) (pss_one (ps_expr (pe_bm PySem.F.plainAttrs_list PySem.F.slot_list_append PySem.F.type_list_append mt_append (pv 1) (pa_cons (pe_tup (pa_cons (pe_kindsE (X := (cxOf CX0 P w K mg base ["_law_thing_here", "_law_found", "e"] "_law_raised" (defScope sRaised) f cdv A outer s H E0).nox) GK (roomH_of hr1) (by rfl) DK.at_ DK.fn.kp DK.b hz hf (pv 2)) (pa_cons (pe_callB (call_reprS (X := (cxOf CX0 P w K mg base ["_law_thing_here", "_law_found", "e"] "_law_raised" (defScope sRaised) f cdv A outer s H E0).nox) hgd hr1) (by rfl) G.repr (by decide +kernel) (pa_cons (pv 0) pa_nil)) pa_nil))) pa_nil)))) ?_
      rintro D σ H1 ⟨l, xs, e1, hl, hx, v0, e2, i, dd, fs, rfl, hi, hc, hd, h1, q⟩
      refine ⟨.ref l, e1, .inl ⟨rfl, _, .inl (.inl hl)⟩, _, e2, i, dd, fs, rfl, hi, hc, hd, h1, fun l2 H2 sm hn hl2 => ?_⟩
      obtain ⟨x, e3, dt, hdp, sh, hl2, nx⟩ := q l2 H2 sm hn hl2
      refine ⟨x, e3, x, dt, rfl, hdp, sh.sh, sh.nd, Nat.le_trans sh.len (by decide), Nat.le_trans sh.dep (by decide), (by show 2 ≤ sizeLine; decide), fun t ht => ⟨l, xs, _, rfl, rfl, ?_, ?_, nx t ht⟩⟩
      · rw [upd_ne (ne_of_none hl2 ht)]
        exact hl2
      · rw [sizeLine_eq]
        omega
    case b2 =>
      intro W pn xe tk hp
      exact pss_one (L2N.ps_raise rfl tk (pmk_new (X := (cxOf CX0 P w K mg base ["_law_thing_here", "_law_found", "e"] "_law_raised" (defScope sRaised) f cdv A outer s H E0).nox.tr pn xe) (H0 := H) (K := K) rfl rfl rfl (pe_new (X := (cxOf CX0 P w K mg base ["_law_thing_here", "_law_found", "e"] "_law_raised" (defScope sRaised) f cdv A outer s H E0).nox.tr pn xe) D11 G11 hr (by rfl) (pv 0))))
    case s2 =>
      intro a oe cls d pn hz hf
      refine pss_weak (t' := tSuite K c a cls d (tFldE K a cls d "name" (tVar 2))) (pss_one (ps_expr (pe_bm PySem.F.plainAttrs_list PySem.F.slot_list_append PySem.F.type_list_append mt_append (pv 1) (pa_cons (pe_tup (pa_cons (pe_kindsE (X := (cxOf CX0 P w K mg base ["_law_thing_here", "_law_found", "e"] "_law_raised" (defScope sRaised) f cdv A outer s H E0).nox) GK (roomH_of hr1) (by rfl) DK.at_ DK.fn.kp DK.b hz hf (pv 2)) (pa_cons (pe_callB (call_reprS (X := (cxOf CX0 P w K mg base ["_law_thing_here", "_law_found", "e"] "_law_raised" (defScope sRaised) f cdv A outer s H E0).nox) hgd hr1) (by rfl) G.repr (by decide +kernel) (pa_cons (pe_fldE (X := (cxOf CX0 P w K mg base ["_law_thing_here", "_law_found", "e"] "_law_raised" (defScope sRaised) f cdv A outer s H E0).nox) hz hf (pv 2)) pa_nil)) pa_nil))) pa_nil)))) ?_
      rintro D σ H1 ⟨l, xs, e1, hl, hx, v0, e2, i, dd, fs, rfl, hi, hc, hd, h1, q⟩
      refine ⟨.ref l, e1, .inl ⟨rfl, _, .inl (.inl hl)⟩, _, e2, i, dd, fs, rfl, hi, hc, hd, h1, fun l2 H2 sm hn hl2 => ?_⟩
      obtain ⟨x0, e3, rfl, C1, d1, fs1, x, z1, z2, z3, z4, z5, z6, dt, hdp, sh, hl2, nx⟩ := q l2 H2 sm hn hl2
      refine ⟨_, e3, rfl, C1, d1, fs1, x, z1, z2, z3, z4, z5, z6, x, dt, rfl, hdp, sh.sh, sh.nd, Nat.le_trans sh.len (by decide), Nat.le_trans sh.dep (by decide), (by show 2 ≤ sizeLine; decide), fun t ht => ⟨l, xs, _, rfl, rfl, ?_, ?_, nx t ht⟩⟩
      · rw [upd_ne (ne_of_none hl2 ht)]
        exact hl2
      · rw [sizeLine_eq]
        omega
    case b3 =>
      intro W pn xe tk hp
      exact pss_one (L2N.ps_raise rfl tk (pmk_new (X := (cxOf CX0 P w K mg base ["_law_thing_here", "_law_found", "e"] "_law_raised" (defScope sRaised) f cdv A outer s H E0).nox.tr pn xe) (H0 := H) (K := K) rfl rfl rfl (pe_new (X := (cxOf CX0 P w K mg base ["_law_thing_here", "_law_found", "e"] "_law_raised" (defScope sRaised) f cdv A outer s H E0).nox.tr pn xe) D10 G10 hr (by rfl) (pv 0))))
    case s3 =>
      intro a oe cls d pn hz hf
      refine pss_weak (t' := tSuite K c a cls d (tFldE K a cls d "run" (tVar 2))) (pss_one (ps_expr (pe_bm PySem.F.plainAttrs_list PySem.F.slot_list_append PySem.F.type_list_append mt_append (pv 1) (pa_cons (pe_tup (pa_cons (pe_kindsE (X := (cxOf CX0 P w K mg base ["_law_thing_here", "_law_found", "e"] "_law_raised" (defScope sRaised) f cdv A outer s H E0).nox) GK (roomH_of hr1) (by rfl) DK.at_ DK.fn.kp DK.b hz hf (pv 2)) (pa_cons (pe_callB (call_reprS (X := (cxOf CX0 P w K mg base ["_law_thing_here", "_law_found", "e"] "_law_raised" (defScope sRaised) f cdv A outer s H E0).nox) hgd hr1) (by rfl) G.repr (by decide +kernel) (pa_cons (pe_fldE (X := (cxOf CX0 P w K mg base ["_law_thing_here", "_law_found", "e"] "_law_raised" (defScope sRaised) f cdv A outer s H E0).nox) hz hf (pv 2)) pa_nil)) pa_nil))) pa_nil)))) ?_
      rintro D σ H1 ⟨l, xs, e1, hl, hx, v0, e2, i, dd, fs, rfl, hi, hc, hd, h1, q⟩
      refine ⟨.ref l, e1, .inl ⟨rfl, _, .inl (.inl hl)⟩, _, e2, i, dd, fs, rfl, hi, hc, hd, h1, fun l2 H2 sm hn hl2 => ?_⟩
      obtain ⟨x0, e3, rfl, C1, d1, fs1, x, z1, z2, z3, z4, z5, z6, dt, hdp, sh, hl2, nx⟩ := q l2 H2 sm hn hl2
      refine ⟨_, e3, rfl, C1, d1, fs1, x, z1, z2, z3, z4, z5, z6, x, dt, rfl, hdp, sh.sh, sh.nd, Nat.le_trans sh.len (by decide), Nat.le_trans sh.dep (by decide), (by show 2 ≤ sizeLine; decide), fun t ht => ⟨l, xs, _, rfl, rfl, ?_, ?_, nx t ht⟩⟩
      · rw [upd_ne (ne_of_none hl2 ht)]
        exact hl2
      · rw [sizeLine_eq]
        omega
    case rd =>
      have sh := hv.sh
      obtain ⟨NF, nF, IF, iF, TF⟩ := C.t.ex 12 (by decide)
      refine ⟨Nat.zero_le _, fun l h0 => ?_⟩
      have s0 : Same H (upd H l (.lst [])) := same_upd h0
      have g0 : upd H l (.lst []) l = some (.lst []) := upd_same
      revert s0 g0
      show _ → _ → tSeq _ _ _ _ (upd H l (.lst []))
      generalize upd H l (.lst []) = K0
      intro s0 g0
      refine ⟨v, rfl, fun a1 d1 A1 m1 => ⟨a1, c 5, some d1, rfl, m1.ea, fr0_none (s0.free m1.na), D5.t.ex, D5.t.ty, true, exm_own TF S.s5, fun _ b1 hb1 => ?_, fun z => nomatch z⟩⟩
      refine ⟨l, [], rfl, m1.gone.1 _ _ g0, by decide, .ref b1, rfl, 5, d1, _, rfl, by decide, rfl, rfl, m1.gone.2, fun k1 B1 sm1 hn1 hk1 => ?_⟩
      have hv1 : Thg K B1 v d := hv.keep fun p ys e => sm1 _ _ (m1.gone.1 _ _ (s0 _ _ e))
      refine ⟨v, rfl, d, hv1.dp, sh, sm1 _ _ (m1.gone.1 _ _ g0), fun t1 ht1 => ?_⟩
      have w1 : After H K0 (upd (upd B1 t1 (.tup [.ref k1, .str d.shown])) l (.lst ([] ++ [.ref t1]))) l t1 k1 [] (kindsL 5) d.shown := after s0 h0 g0 m1 sm1 hn1 hk1 ht1
      revert w1
      generalize upd (upd B1 t1 (.tup [.ref k1, .str d.shown])) l (.lst ([] ++ [.ref t1])) = K1
      intro w1
      have s1 := w1.same
      have g1 := w1.lst
      refine ⟨v, rfl, fun a2 d2 A2 m2 => ⟨a2, c 11, some d2, rfl, m2.ea, fr0_none (s1.free m2.na), D11.t.ex, D11.t.ty, true, exm_own D11.t S.s11, fun _ b2 hb2 => ?_, fun z => nomatch z⟩⟩
      refine ⟨l, [.ref t1], rfl, m2.gone.1 _ _ g1, (by show 1 < 1000; decide), .ref b2, rfl, 11, d2, _, rfl, by decide, rfl, rfl, m2.gone.2, fun k2 B2 sm2 hn2 hk2 => ?_⟩
      have hv2 : Thg K B2 v d := hv.keep fun p ys e => sm2 _ _ (m2.gone.1 _ _ (s1 _ _ e))
      refine ⟨.ref b2, rfl, rfl, c 11, d2, _, v, rfl, rfl, ⟨_, _, _, _, D11.t⟩, D11.no, sm2 _ _ m2.gone.2, lookup_one _ _, d, hv2.dp, sh, sm2 _ _ (m2.gone.1 _ _ g1), fun t2 ht2 => ?_⟩
      have w2 : After H K1 (upd (upd B2 t2 (.tup [.ref k2, .str d.shown])) l (.lst ([.ref t1] ++ [.ref t2]))) l t2 k2 [.ref t1] (kindsL 11) d.shown := after s1 h0 g1 m2 sm2 hn2 hk2 ht2
      revert w2
      generalize upd (upd B2 t2 (.tup [.ref k2, .str d.shown])) l (.lst ([.ref t1] ++ [.ref t2])) = K2
      intro w2
      have s2 := w2.same
      have g2 := w2.lst
      have r1_2 : K2 t1 = some (.tup [.ref k1, .str d.shown]) := w2.keep _ _ w1.nt w1.row
      have q1_2 : K2 k1 = some (.lst (kindsL 5)) := w2.keep _ _ w1.nl w1.kinds
      refine ⟨v, rfl, fun a3 d3 A3 m3 => ⟨a3, c 10, some d3, rfl, m3.ea, fr0_none (s2.free m3.na), D10.t.ex, D10.t.ty, true, exm_own D10.t S.s10, fun _ b3 hb3 => ?_, fun z => nomatch z⟩⟩
      refine ⟨l, [.ref t1, .ref t2], rfl, m3.gone.1 _ _ g2, (by show 2 < 1000; decide), .ref b3, rfl, 10, d3, _, rfl, by decide, rfl, rfl, m3.gone.2, fun k3 B3 sm3 hn3 hk3 => ?_⟩
      have hv3 : Thg K B3 v d := hv.keep fun p ys e => sm3 _ _ (m3.gone.1 _ _ (s2 _ _ e))
      refine ⟨.ref b3, rfl, rfl, c 10, d3, _, v, rfl, rfl, ⟨_, _, _, _, D10.t⟩, D10.no, sm3 _ _ m3.gone.2, lookup_one _ _, d, hv3.dp, sh, sm3 _ _ (m3.gone.1 _ _ g2), fun t3 ht3 => ?_⟩
      have w3 : After H K2 (upd (upd B3 t3 (.tup [.ref k3, .str d.shown])) l (.lst ([.ref t1, .ref t2] ++ [.ref t3]))) l t3 k3 [.ref t1, .ref t2] (kindsL 10) d.shown := after s2 h0 g2 m3 sm3 hn3 hk3 ht3
      revert w3
      show _ → _
      generalize hK : upd (upd B3 t3 (.tup [.ref k3, .str d.shown])) l (.lst ([.ref t1, .ref t2] ++ [.ref t3])) = K3
      intro w3
      have s3 := w3.same
      have g3 := w3.lst
      have r1_3 : K3 t1 = some (.tup [.ref k1, .str d.shown]) := w3.keep _ _ w1.nt r1_2
      have q1_3 : K3 k1 = some (.lst (kindsL 5)) := w3.keep _ _ w1.nl q1_2
      have r2_3 : K3 t2 = some (.tup [.ref k2, .str d.shown]) := w3.keep _ _ w2.nt w2.row
      have q2_3 : K3 k2 = some (.lst (kindsL 11)) := w3.keep _ _ w2.nl w2.kinds
      refine ⟨.ref l, rfl, ?_⟩
      have fin := q l K3 s3 (.lst (.inl (.inl g3)) (.cons (.tup (.inl (.inl r1_3)) (.cons (.lst (.inl (.inl q1_3)) (.cons (.int 5) .nil)) (.cons (.str _) .nil)))
        (.cons (.tup (.inl (.inl r2_3)) (.cons (.lst (.inl (.inl q2_3)) (.cons (.int 11) .nil)) (.cons (.str _) .nil)))
        (.cons (.tup (.inl (.inl w3.row)) (.cons (.lst (.inl (.inl w3.kinds)) (.cons (.int 10) .nil)) (.cons (.str _) .nil))) .nil))))
      exact fin
end
end K5
set_option Elab.async false
set_option linter.all false
set_option maxRecDepth 100000
set_option maxHeartbeats 4000000
namespace K5
open PySem PySem.Spec PyProof.Rows L2 KG EX EH
/-! ### lists of lists that grow -/
structure Acc (H0 : Hp) (D : Addr) (g : Nat → HO) (n : Nat) (H : Hp) : Prop where
  same : Same H0 H
  ex : ∃ L : Nat → Addr, H D = some (.lst ((List.range n).map fun j => V.ref (L j))) ∧ ∀ j, j < n → L j ≠ D ∧ H (L j) = some (g j)
theorem Acc.zero {H0 : Hp} {D : Addr} {g : Nat → HO} (h : H0 D = none) : Acc H0 D g 0 (upd H0 D (.lst [])) := ⟨same_upd h, fun _ => 0, upd_same, fun j hj => absurd hj (Nat.not_lt_zero j)⟩
theorem Acc.succ {H0 H H4 : Hp} {D l : Addr} {g : Nat → HO} {n : Nat} (h0 : H0 D = none) (x : Acc H0 D g n H) (hn : n < 1000) (s : Same H H4) (hl : H l = none) (h4 : H4 l = some (g n)) :
    ∃ acc, H4 D = some (.lst acc) ∧ acc.length < sizeLine ∧ Acc H0 D g (n + 1) (upd H4 D (.lst (acc ++ [.ref l]))) := by
  obtain ⟨s0, L, hD, hL⟩ := x
  have nl : l ≠ D := fun z => by
    rw [z, hD] at hl
    cases hl
  refine ⟨_, s _ _ hD, by rw [List.length_map, List.length_range, sizeLine_eq]; omega, ⟨fun b o e => ?_, fun j => if j < n then L j else l, ?_, fun j hj => ?_⟩⟩
  · rw [upd_ne (ne_of_none e h0)]
    exact s _ _ (s0 _ _ e)
  · rw [upd_same, List.range_succ, List.map_append]
    congr 3
    · refine List.map_congr_left fun j hj => ?_
      show V.ref (L j) = V.ref (if j < n then L j else l)
      rw [if_pos (List.mem_range.mp hj)]
    · show V.ref l :: [] = V.ref (if n < n then L n else l) :: []
      rw [if_neg (Nat.lt_irrefl n)]
  · show (if j < n then L j else l) ≠ D ∧ upd H4 D _ (if j < n then L j else l) = _
    by_cases h : j < n
    · rw [if_pos h]
      refine ⟨(hL j h).1, ?_⟩
      rw [upd_ne (hL j h).1]
      exact s _ _ (hL j h).2
    · have e : j = n := by omega
      rw [if_neg h, e]
      exact ⟨nl, by rw [upd_ne nl]; exact h4⟩
theorem dpAll_map {K : PySem.W.Frag} {H : Hp} {f : Nat → V} {gd : Nat → PyData} : ∀ l : List Nat, (∀ j ∈ l, Dp K H (f j) (gd j)) → DpAll K H (l.map f) (l.map gd)
  | [], _ => .nil
  | j :: r, h => .cons (h j List.mem_cons_self) (dpAll_map r fun i hi => h i (List.mem_cons_of_mem _ hi))
theorem Acc.dp {K : PySem.W.Frag} {H0 H H' : Hp} {D : Addr} {g : Nat → HO} {gd : Nat → PyData} {n : Nat} (x : Acc H0 D g n H) (s : Same H H') (hg : ∀ j l, j < n → H' l = some (g j) → Dp K H' (.ref l) (gd j)) :
    Dp K H' (.ref D) (.list ((List.range n).map gd)) := by
  obtain ⟨s0, L, hD, hL⟩ := x
  exact .lst (.inl (.inl (s _ _ hD))) (dpAll_map _ fun j hj => hg j _ (List.mem_range.mp hj) (s _ _ (hL j (List.mem_range.mp hj)).2))
theorem Exs.get {H : Hp} {c : Nat → Addr} : ∀ {n : Nat} {es : List V}, Exs H c n es → ∀ {i : Nat} {x : V}, es[i]? = some x → ∃ a, x = .ref a ∧ IsEx H a (c (n + i))
  | n, _, .nil, i, x, e => by cases e
  | n, _, .cons (a := a) e h, 0, x, z => by
    cases z
    exact ⟨a, rfl, e⟩
  | n, _, .cons e h, i + 1, x, z => by
    obtain ⟨a, h1, h2⟩ := Exs.get h (i := i) (x := x) (by simpa using z)
    exact ⟨a, h1, by rw [show n + (i + 1) = n + 1 + i by omega]; exact h2⟩
def kD : PyData := .list ((List.range 12).map fun j => .list [.int (j : Nat)])
def aD : PyData := .list ((List.range 12).map fun j => .list [.bool (j != 11), .bool (j != 11), .bool (j == 11)])
theorem kD_ok : SeqAt.shaped kD = true ∧ PyData.eqv kD kD = true := by decide +kernel
theorem aD_ok : SeqAt.shaped aD = true ∧ PyData.eqv aD aD = true := by decide +kernel
theorem kindsL_dp {K : PySem.W.Frag} {H : Hp} {j : Nat} (h : j < 12) : DpAll K H (kindsL j) [.int (j : Nat)] := by
  unfold kindsL
  rw [if_pos h]
  exact .cons (.int _) .nil
theorem aboveL_dp {K : PySem.W.Frag} {H : Hp} {j : Nat} : DpAll K H (aboveL j) [.bool (j != 11), .bool (j != 11), .bool (j == 11)] := .cons (.bl _) (.cons (.bl _) (.cons (.bl _) .nil))
/-! ### what is borne, as data -/
def boreD (d : PyData) : PyData := .list ((List.range 7).map fun j => .tuple [.int (5 + j : Nat), d, d])
theorem Rows3.dp {K : PySem.W.Frag} {H : Hp} {v : V} {d : PyData} (hv : Dp K H v d) : ∀ {n : Nat} {ts : List V}, Rows3 H v n ts → DpAll K H ts ((List.range ts.length).map fun j => .tuple [.int (n + j : Nat), d, d])
  | n, _, .nil => .nil
  | n, _, .cons (t := t) (r := r) e h => by
    have z := Rows3.dp hv h
    rw [List.length_cons, List.range_succ_eq_map, List.map_cons, List.map_map]
    refine .cons (.tup (.inl (.inl e)) (.cons (.int _) (.cons hv (.cons hv .nil)))) ?_
    have e2 : ((fun j : Nat => PyData.tuple [.int (n + j : Nat), d, d]) ∘ Nat.succ) = fun j : Nat => PyData.tuple [.int (n + 1 + j : Nat), d, d] := by
      funext j
      show PyData.tuple [.int ((n + (j + 1) : Nat) : Int), d, d] = _
      rw [show n + (j + 1) = n + 1 + j by omega]
    rw [e2]
    exact z
theorem boreD_sh {d : PyData} (h : Sh d 200 1) : Sh (boreD d) 100000 10 := by
  obtain ⟨h1, h2, h3, h4⟩ := h
  have e : boreD d = .list [.tuple [.int 5, d, d], .tuple [.int 6, d, d], .tuple [.int 7, d, d], .tuple [.int 8, d, d], .tuple [.int 9, d, d], .tuple [.int 10, d, d], .tuple [.int 11, d, d]] := rfl
  rw [e]
  have n : ∀ k : Int, k ∈ [(5 : Int), 6, 7, 8, 9, 10, 11] → (PyData.int k).showable = true ∧ (PyData.int k).shown.length ≤ 10 := by decide +kernel
  have row : ∀ k : Int, k ∈ [(5 : Int), 6, 7, 8, 9, 10, 11] → (PyData.tuple [.int k, d, d]).showable = true ∧ (PyData.tuple [.int k, d, d]).hasDict = false ∧ (PyData.tuple [.int k, d, d]).depth ≤ 5 ∧ (PyData.tuple [.int k, d, d]).shown.length ≤ 1000 := by
    intro k hk
    obtain ⟨n1, n2⟩ := n k hk
    refine ⟨?_, ?_, ?_, ?_⟩
    · rw [PyData.showable, PyData.showableAll, PyData.showableAll, PyData.showableAll, PyData.showableAll, n1, h1]
      rfl
    · rw [PyData.hasDict, PyData.hasDictAll, PyData.hasDictAll, PyData.hasDictAll, PyData.hasDictAll, h2]
      rfl
    · rw [PyData.depth, PyData.depthAll, PyData.depthAll, PyData.depthAll, PyData.depthAll, PyData.depth]
      omega
    · rw [PyData.shown, PyData.shownAll, PyData.shownAll, PyData.shownAll, PyData.shownAll]
      have z := tt_len [(PyData.int k).shown, d.shown, d.shown]
      rw [piled_cons, piled_cons, piled_cons, piled_nil] at z
      omega
  have r5 := row 5 (by decide)
  have r6 := row 6 (by decide)
  have r7 := row 7 (by decide)
  have r8 := row 8 (by decide)
  have r9 := row 9 (by decide)
  have r10 := row 10 (by decide)
  have r11 := row 11 (by decide)
  refine ⟨?_, ?_, ?_, ?_⟩
  · rw [PyData.showable]
    simp only [PyData.showableAll, r5.1, r6.1, r7.1, r8.1, r9.1, r10.1, r11.1]
    rfl
  · rw [PyData.hasDict]
    simp only [PyData.hasDictAll, r5.2.1, r6.2.1, r7.2.1, r8.2.1, r9.2.1, r10.2.1, r11.2.1]
    rfl
  · rw [PyData.depth]
    have := r5.2.2.1
    have := r6.2.2.1
    have := r7.2.2.1
    have := r8.2.2.1
    have := r9.2.2.1
    have := r10.2.2.1
    have := r11.2.2.1
    simp only [PyData.depthAll]
    omega
  · rw [PyData.shown]
    simp only [PyData.shownAll]
    have z := lt_len [(PyData.tuple [.int 5, d, d]).shown, (PyData.tuple [.int 6, d, d]).shown, (PyData.tuple [.int 7, d, d]).shown, (PyData.tuple [.int 8, d, d]).shown, (PyData.tuple [.int 9, d, d]).shown, (PyData.tuple [.int 10, d, d]).shown, (PyData.tuple [.int 11, d, d]).shown]
    simp only [piled_cons, piled_nil] at z
    have := r5.2.2.2
    have := r6.2.2.2
    have := r7.2.2.2
    have := r8.2.2.2
    have := r9.2.2.2
    have := r10.2.2.2
    have := r11.2.2.2
    omega
theorem raisedD_ok {t : Str} (h : okC t) : SeqAt.shaped (raisedD t) = true ∧ PyData.eqv (raisedD t) (raisedD t) = true := by
  have z := okC_str h
  have c : PyData.canLay0 (raisedD t) = true := by simp [raisedD, rowD, PyData.canLay0, PyData.canLayAll0, z]
  refine ⟨?_, SeqAt.eqv_refl _ c⟩
  unfold SeqAt.shaped
  rw [c]
  rfl
/-! ### rows ([k], text) that grow -/
structure AccR (H0 : Hp) (D : Addr) (ks : List Int) (t : Str) (n : Nat) (H : Hp) : Prop where
  same : Same H0 H
  ex : ∃ L M : Nat → Addr, H D = some (.lst ((List.range n).map fun j => V.ref (L j))) ∧ ∀ j, j < n → L j ≠ D ∧ M j ≠ D ∧ H (L j) = some (.tup [.ref (M j), .str t]) ∧ H (M j) = some (.lst [.int (ks.getD j 0)])
theorem AccR.zero {H0 : Hp} {D : Addr} {ks : List Int} {t : Str} (h : H0 D = none) : AccR H0 D ks t 0 (upd H0 D (.lst [])) := ⟨same_upd h, fun _ => 0, fun _ => 0, upd_same, fun j hj => absurd hj (Nat.not_lt_zero j)⟩
theorem AccR.succ {H0 H : Hp} {D m l : Addr} {ks : List Int} {t : Str} {n : Nat} {k : Int} (h0 : H0 D = none) (x : AccR H0 D ks t n H) (hn : n < 1000) (hk : ks.getD n 0 = k) (hm : H m = none) (hl : upd H m (.lst [.int k]) l = none) :
    ∃ acc, upd (upd H m (.lst [.int k])) l (.tup [.ref m, .str t]) D = some (.lst acc) ∧ acc.length < sizeLine ∧ AccR H0 D ks t (n + 1) (upd (upd (upd H m (.lst [.int k])) l (.tup [.ref m, .str t])) D (.lst (acc ++ [.ref l]))) := by
  obtain ⟨s0, L, M, hD, hL⟩ := x
  have s : Same H (upd (upd H m (.lst [.int k])) l (.tup [.ref m, .str t])) := (same_upd hm).trans (same_upd hl)
  have nm : m ≠ D := fun z => by
    rw [z, hD] at hm
    cases hm
  have nml : m ≠ l := fun z => by
    rw [← z, upd_same] at hl
    cases hl
  have nl : l ≠ D := fun z => by
    rw [z, same_upd hm _ _ hD] at hl
    cases hl
  have em : upd (upd H m (.lst [.int k])) l (.tup [.ref m, .str t]) m = some (.lst [.int k]) := by rw [upd_ne nml, upd_same]
  have el : upd (upd H m (.lst [.int k])) l (.tup [.ref m, .str t]) l = some (.tup [.ref m, .str t]) := upd_same
  revert s em el
  generalize upd (upd H m (.lst [.int k])) l (.tup [.ref m, .str t]) = H4
  intro s em el
  refine ⟨_, s _ _ hD, by rw [List.length_map, List.length_range, sizeLine_eq]; omega, ⟨fun b o e => ?_, fun j => if j < n then L j else l, fun j => if j < n then M j else m, ?_, fun j hj => ?_⟩⟩
  · rw [upd_ne (ne_of_none e h0)]
    exact s _ _ (s0 _ _ e)
  · rw [upd_same, List.range_succ, List.map_append]
    congr 3
    · refine List.map_congr_left fun j hj => ?_
      show V.ref (L j) = V.ref (if j < n then L j else l)
      rw [if_pos (List.mem_range.mp hj)]
    · show V.ref l :: [] = V.ref (if n < n then L n else l) :: []
      rw [if_neg (Nat.lt_irrefl n)]
  · show (if j < n then L j else l) ≠ D ∧ (if j < n then M j else m) ≠ D ∧ upd H4 D _ (if j < n then L j else l) = some (.tup [.ref (if j < n then M j else m), _]) ∧ upd H4 D _ (if j < n then M j else m) = _
    by_cases h : j < n
    · rw [if_pos h, if_pos h]
      obtain ⟨a1, a2, a3, a4⟩ := hL j h
      exact ⟨a1, a2, by rw [upd_ne a1]; exact s _ _ a3, by rw [upd_ne a2]; exact s _ _ a4⟩
    · have e : j = n := by omega
      rw [if_neg h, if_neg h, e, hk]
      exact ⟨nl, nm, by rw [upd_ne nl]; exact el, by rw [upd_ne nm]; exact em⟩
theorem AccR.dp {K : PySem.W.Frag} {H0 H : Hp} {D : Addr} {t : Str} (x : AccR H0 D [5, 11, 10] t 3 H) : Dp K H (.ref D) (raisedD t) := by
  obtain ⟨s0, L, M, hD, hL⟩ := x
  have row : ∀ j, j < 3 → ∀ k : Int, ([5, 11, 10] : List Int).getD j 0 = k → Dp K H (.ref (L j)) (rowD k t) := fun j hj k e => by
    obtain ⟨_, _, a3, a4⟩ := hL j hj
    rw [e] at a4
    exact .tup (.inl (.inl a3)) (.cons (.lst (.inl (.inl a4)) (.cons (.int _) .nil)) (.cons (.str _) .nil))
  exact .lst (.inl (.inl hD)) (.cons (row 0 (by decide) 5 rfl) (.cons (row 1 (by decide) 11 rfl) (.cons (row 2 (by decide) 10 rfl) .nil)))
end K5
set_option Elab.async false
set_option linter.all false
set_option maxRecDepth 100000
set_option maxHeartbeats 4000000
namespace K5
open PySem PySem.Spec PyProof.Rows L2 KG EX EH
theorem call_reprB {X : Cx} {k : Nat} {K : PySem.W.Frag} (hK : X.K = K) (hgd : Gd X.A) (hr : Room k X.A) : CallR X (.builtin "repr") (rRepr K) := by
  subst hK
  exact call_reprD hgd hr
abbrev sLaw : Stmt := topS 24
abbrev nLaw : List Str := ["_law_script", "_law_deck_here", "_law_turn", "_law_thing_here", "_law_text", "_law_some", "_law_made", "_law_k"]
theorem scLaw : FnScope nLaw ["_law_script"] (defScope sLaw) := ⟨rfl, rfl, rfl, by decide +kernel, rfl, by decide +kernel, by decide +kernel⟩
structure Defs (K : PySem.W.Frag) (mg : Str → Option Value) : Prop where
  deck : ∃ f fd, Def K mg "_law_deck" sDeck ["_law_script"] f fd
  draw : ∃ f fd, Def K mg "_law_draw" sDraw ["_law_deck_here", "_law_ways"] f fd
  pick : ∃ f fd, Def K mg "_law_pick" sPick ["_law_deck_here", "_law_some"] f fd
  thing : ∃ f fd, Def K mg "_law_thing" sThing ["_law_deck_here"] f fd
  kinds : ∃ f fd, Def K mg "_law_kinds" sKinds ["_law_made"] f fd
  above : ∃ f fd, Def K mg "_law_above" sAbove ["_law_made"] f fd
  bore : ∃ f fd, Def K mg "_law_bore" sBore ["_law_thing_here"] f fd
  all : ∃ f fd, Def K mg "_law_all" sAll ["_law_thing_here", "_law_text"] f fd
  raised : ∃ f fd, Def K mg "_law_raised" sRaised ["_law_thing_here"] f fd
section
variable {P : Program} {w : World} {K : PySem.W.Frag} {mg : Str → Option Value} {base : Heap}
def spLaw (K : PySem.W.Frag) : Sp := fun vs H Q _ => ∃ (b : Addr) (ns : List Int), vs = [.ref b] ∧ SqL K H b (ns.map V.int) ∧ ns.length ≤ 63 ∧ ∀ H', Q (.bl true) H'
/-- what stands when the tests begin -/
structure Std (K : PySem.W.Frag) (c : Nat → Addr) (H : Hp) (a c0 p : Addr) (v : V) (d : PyData) (es : List V) : Prop where
  dk : Deck H a c0
  th : Thg K H v d
  some : H p = some (.lst es)
  len : es.length = 12
  ex : Exs H c 0 es
theorem exs_same {c : Nat → Addr} {H H' : Hp} (s : Same H H') : ∀ {n : Nat} {es : List V}, Exs H c n es → Exs H' c n es
  | _, _, .nil => .nil
  | _, _, .cons e h => .cons (isEx_same e s) (exs_same s h)
theorem Std.same {c : Nat → Addr} {H H' : Hp} {a c0 p : Addr} {v : V} {d : PyData} {es : List V} (x : Std K c H a c0 p v d es) (s : Same H H') : Std K c H' a c0 p v d es :=
  ⟨x.dk.same s, x.th.keep fun p xs e => s _ _ e, s _ _ x.some, x.len, exs_same s x.ex⟩
theorem sqt5 {H H' : Hp} {a : Addr} {xs : List V} (s : Same H H') (h : SqT K H a xs) : SqT K H' a xs := by
  rcases h with (h | ⟨o, h⟩) | h
  · exact .inl (.inl (s _ _ h))
  · exact .inl (.inr ⟨o, s _ _ h⟩)
  · exact .inr h
mutual
theorem dp_same5 {H H' : Hp} (s : Same H H') : ∀ (d : PyData) (v : V), Dp K H v d → Dp K H' v d
  | _, _, .non => .non
  | _, _, .bl b => .bl b
  | _, _, .int i => .int i
  | _, _, .str x => .str x
  | .list ds, _, .lst h1 h2 => .lst (s.seq h1) (dp_sameAll5 s ds _ h2)
  | .tuple ds, _, .tup h1 h2 => .tup (sqt5 s h1) (dp_sameAll5 s ds _ h2)
theorem dp_sameAll5 {H H' : Hp} (s : Same H H') : ∀ (ds : List PyData) (vs : List V), DpAll K H vs ds → DpAll K H' vs ds
  | _, _, .nil => .nil
  | _, _, .cons h1 h2 => .cons (dp_same5 s _ _ h1) (dp_sameAll5 s _ _ h2)
end
theorem ok_law {c : Nat → Addr} {f : Addr} {fd : FuncData} (F : Fun K "law" "law" sLaw f fd) (G : Glob mg) (C : AllC K mg c) (S : Subs K c) (D : Defs K mg) : FnG P w K mg base 12 f fd ["_law_script"] (spLaw K) := by
  obtain ⟨⟨f1, fd1, D1⟩, ⟨f2, fd2, D2⟩, ⟨f3, fd3, D3⟩, ⟨f4, fd4, DT⟩, ⟨f5, fd5, DK⟩, ⟨f6, fd6, DB⟩, ⟨f7, fd7, DO⟩, ⟨f8, fd8, DA⟩, ⟨f9, fd9, DR⟩⟩ := D
  have G1 := ok_deck (P := P) (w := w) (base := base) (k := 0) D1.fn G.list
  have GT := ok_thing (P := P) (w := w) (base := base) (k := 0) DT.fn G D2 D3
  have GK := ok_kinds (P := P) (w := w) (base := base) (k := 0) DK.fn G C.t
  have GB := ok_above (P := P) (w := w) (base := base) (k := 0) DB.fn G C.t
  have GO := ok_bore (P := P) (w := w) (base := base) (k := 0) DO.fn G C
  have GA := ok_all (P := P) (w := w) (base := base) (k := 0) DA.fn G C
  have GR := ok_raised (P := P) (w := w) (base := base) (k := 0) DR.fn G C S DK
  refine okG F scLaw (fun vs H Q E h => ?_) (fun cdv A outer s H vs Q hgd hr h => ?_)
  · obtain ⟨b, ns, rfl, _⟩ := h
    rfl
  · obtain ⟨b, ns, rfl, hb, hl, q⟩ := h
    have r1 : Room (0 + 1) _ := hr.mono (by decide)
    have r3 : Room (0 + 3) _ := hr.mono (by decide)
    have SL : ∀ {H : Hp} {p : Addr} {xs : List V}, H p = some (.lst xs) → SqL K H p xs := fun h => .inl (.inl h)
    have t1 : ∃ t, PS (cxOf CX0 P w K mg base nLaw "law" (defScope sLaw) f cdv A outer s H E0).nox (((match (defBody sLaw).getD 1 (.Pass ⟨0, 0, 0, 0⟩) with | .For _ _ b _ _ => b | _ => [])).getD 2 (.Pass ⟨0, 0, 0, 0⟩)) t ∧ ∀ (a c0 p : Addr) (v : V) (d : PyData) (es : List V) (tn : Option V) (tx : Str) (H' : Hp) (Dn : Ends), Std K c H' a c0 p v d es →
          (∀ H2, Std K c H2 a c0 p v d es → Dn.nx [some (.ref b), some (.ref a), tn, some v, some (.str tx), some (.ref p), none, none] H2) →
          t Dn [some (.ref b), some (.ref a), tn, some v, some (.str tx), some (.ref p), none, none] H'  := by
      refine ⟨_, ps_if (pt_cmpR (op_neD hr.units) (pe_lc (own := [("_law_made", 6)]) (g := gName 6) (tt := tYes) rfl scLaw.nd (pi_list (pv 5)) (blkOk_by (own := [("_law_made", 6)]) (N := nLaw) (sc := defScope sLaw) (by decide +kernel)) (fun _ _ _ _ _ => pg_name (i := 6) scLaw.nd rfl (Or.inl rfl)) (fun _ _ _ _ _ => pts_nil) (fun _ _ _ _ _ => (pe_call GK r1 (by rfl) DK.at_ DK.fn.kp DK.b .nil pass0 (pa_cons (pv 6) pa_nil)))) (pe_lc (own := [("_law_k", 7)]) (g := gName 7) (tt := tYes) rfl scLaw.nd (pi_range1 (by rfl) G.range (pa_cons pe_int pa_nil)) (blkOk_by (own := [("_law_k", 7)]) (N := nLaw) (sc := defScope sLaw) (by decide +kernel)) (fun _ _ _ _ _ => pg_name (i := 7) scLaw.nd rfl (Or.inl rfl)) (fun _ _ _ _ _ => pts_nil) (fun _ _ _ _ _ => pe_lst (pa_cons (pv 7) pa_nil))) (nomark _)) (pss_one (ps_ret pe_bl)) pss_nil, fun a c0 p v d es tn tx H' Dn st nx => ?_⟩
      obtain ⟨p1, p2⟩ := kD_ok
      refine ⟨.ref p, rfl, p, rfl, ⟨_, SL st.some⟩, fun D hD => lc_list (K := K) (a := p) (xs := es) (fun i H1 => Acc H' D (fun j => .lst (kindsL j)) i H1) (Acc.zero hD) (fun i H1 _ z => SL (z.same _ _ st.some)) ?_ ?_⟩
      · intro i x H1 hi z
        obtain ⟨e, rfl, ex⟩ := Exs.get st.ex hi
        have i12 : i < 12 := by
          rw [← st.len]
          exact (List.getElem?_eq_some_iff.mp hi).1
        rw [Nat.zero_add] at ex
        refine ⟨rfl, .ref e, rfl, e, i, rfl, by omega, isEx_same ex z.same, fun l H2 s2 hn hl => ?_⟩
        exact Acc.succ hD z (by omega) s2 hn hl
      · intro H1 z
        rw [st.len] at z
        refine ⟨12, rfl, by decide, by decide, fun D2 hD2 => lc_range (lo := 0) (n := 12) (fun i H2 => Acc H1 D2 (fun j => .lst [.int (j : Nat)]) i H2) (Acc.zero hD2) ?_ ?_⟩
        · intro i H2 hi z2
          refine ⟨rfl, _, rfl, (by show 1 ≤ sizeLine; decide), fun l hl => ?_⟩
          refine Acc.succ hD2 z2 (by omega) (same_upd hl) hl ?_
          rw [upd_same, Int.zero_add]
        · intro H2 z2
          have b1 : Dp K H2 (.ref D) kD := z.dp (gd := fun j => .list [.int (j : Nat)]) z2.same fun j l hj hl => .lst (SL hl) (kindsL_dp hj)
          have b2 : Dp K H2 (.ref D2) kD := z2.dp (gd := fun j => .list [.int (j : Nat)]) (fun _ _ e => e) fun j l hj hl => .lst (SL hl) (.cons (.int _) .nil)
          refine ⟨kD, kD, b1, b2, p1, p1, _, rfl, ?_⟩
          rw [p2]
          exact iteF (nx H2 (st.same (z.same.trans z2.same)))
    have t2 : ∃ t, PS (cxOf CX0 P w K mg base nLaw "law" (defScope sLaw) f cdv A outer s H E0).nox (((match (defBody sLaw).getD 1 (.Pass ⟨0, 0, 0, 0⟩) with | .For _ _ b _ _ => b | _ => [])).getD 3 (.Pass ⟨0, 0, 0, 0⟩)) t ∧ ∀ (a c0 p : Addr) (v : V) (d : PyData) (es : List V) (tn : Option V) (tx : Str) (H' : Hp) (Dn : Ends), Std K c H' a c0 p v d es →
          (∀ H2, Std K c H2 a c0 p v d es → Dn.nx [some (.ref b), some (.ref a), tn, some v, some (.str tx), some (.ref p), none, none] H2) →
          t Dn [some (.ref b), some (.ref a), tn, some v, some (.str tx), some (.ref p), none, none] H'  := by
      refine ⟨_, ps_if (pt_cmpR (op_neD hr.units) (pe_lc (own := [("_law_made", 6)]) (g := gName 6) (tt := tYes) rfl scLaw.nd (pi_list (pv 5)) (blkOk_by (own := [("_law_made", 6)]) (N := nLaw) (sc := defScope sLaw) (by decide +kernel)) (fun _ _ _ _ _ => pg_name (i := 6) scLaw.nd rfl (Or.inl rfl)) (fun _ _ _ _ _ => pts_nil) (fun _ _ _ _ _ => (pe_call GB r1 (by rfl) DB.at_ DB.fn.kp DB.b .nil pass0 (pa_cons (pv 6) pa_nil)))) (pe_op op_cat (pe_op op_rep (pe_lst (pa_cons (pe_lst (pa_cons pe_bl (pa_cons pe_bl (pa_cons pe_bl pa_nil)))) pa_nil)) pe_int) (pe_lst (pa_cons (pe_lst (pa_cons pe_bl (pa_cons pe_bl (pa_cons pe_bl pa_nil)))) pa_nil))) (nomark _)) (pss_one (ps_ret pe_bl)) pss_nil, fun a c0 p v d es tn tx H' Dn st nx => ?_⟩
      obtain ⟨p1, p2⟩ := aD_ok
      refine ⟨.ref p, rfl, p, rfl, ⟨_, SL st.some⟩, fun D hD => lc_list (K := K) (a := p) (xs := es) (fun i H1 => Acc H' D (fun j => .lst (aboveL j)) i H1) (Acc.zero hD) (fun i H1 _ z => SL (z.same _ _ st.some)) ?_ ?_⟩
      · intro i x H1 hi z
        obtain ⟨e, rfl, ex⟩ := Exs.get st.ex hi
        have i12 : i < 12 := by
          rw [← st.len]
          exact (List.getElem?_eq_some_iff.mp hi).1
        rw [Nat.zero_add] at ex
        exact ⟨rfl, .ref e, rfl, e, i, rfl, by omega, isEx_same ex z.same, fun l hl => Acc.succ hD z (by omega) (same_upd hl) hl upd_same⟩
      · intro H1 z
        rw [st.len] at z
        refine ⟨(by show 3 ≤ sizeLine; decide), fun l1 h1 => ⟨(by show 1 ≤ sizeLine; decide), fun l2 h2 => ⟨l2, 11, _, rfl, rfl, upd_same, by decide, by decide, (by show 1 * 11 ≤ sizeLine; decide), fun l3 h3 => ⟨(by show 3 ≤ sizeLine; decide), fun l4 h4 => ⟨(by show 1 ≤ sizeLine; decide), fun l5 h5 => ⟨l3, l5, (List.replicate (11 : Int).toNat [V.ref l1]).flatten, [.ref l4], rfl, rfl, ?_, upd_same, (by show 12 ≤ sizeLine; decide), fun l6 h6 => ?_⟩⟩⟩⟩⟩⟩
        · exact ((same_upd h4).trans (same_upd h5)) _ _ upd_same
        have s5 := (same_upd (o := .lst [.bl true, .bl true, .bl false]) h1).trans ((same_upd (o := .lst [.ref l1]) h2).trans ((same_upd (o := .lst (List.replicate (11 : Int).toNat [V.ref l1]).flatten) h3).trans ((same_upd (o := .lst [.bl false, .bl false, .bl true]) h4).trans ((same_upd (o := .lst [.ref l4]) h5).trans (same_upd (o := .lst ((List.replicate (11 : Int).toNat [V.ref l1]).flatten ++ [.ref l4])) h6)))))
        have e1 := ((same_upd (o := .lst [.ref l1]) h2).trans ((same_upd (o := .lst (List.replicate (11 : Int).toNat [V.ref l1]).flatten) h3).trans ((same_upd (o := .lst [.bl false, .bl false, .bl true]) h4).trans ((same_upd (o := .lst [.ref l4]) h5).trans (same_upd (o := .lst ((List.replicate (11 : Int).toNat [V.ref l1]).flatten ++ [.ref l4])) h6))))) _ _ (upd_same (a := l1) (o := .lst [.bl true, .bl true, .bl false]))
        have e4 := ((same_upd (o := .lst [.ref l4]) h5).trans (same_upd (o := .lst ((List.replicate (11 : Int).toNat [V.ref l1]).flatten ++ [.ref l4])) h6)) _ _ (upd_same (a := l4) (o := .lst [.bl false, .bl false, .bl true]))
        have e6 := upd_same (H := upd (upd (upd (upd (upd H1 l1 (.lst [.bl true, .bl true, .bl false])) l2 (.lst [.ref l1])) l3 (.lst (List.replicate (11 : Int).toNat [V.ref l1]).flatten)) l4 (.lst [.bl false, .bl false, .bl true])) l5 (.lst [.ref l4])) (a := l6) (o := .lst ((List.replicate (11 : Int).toNat [V.ref l1]).flatten ++ [.ref l4]))
        revert s5 e1 e4 e6
        generalize upd (upd (upd (upd (upd (upd H1 l1 (.lst [.bl true, .bl true, .bl false])) l2 (.lst [.ref l1])) l3 (.lst (List.replicate (11 : Int).toNat [V.ref l1]).flatten)) l4 (.lst [.bl false, .bl false, .bl true])) l5 (.lst [.ref l4])) l6 (.lst ((List.replicate (11 : Int).toNat [V.ref l1]).flatten ++ [.ref l4])) = H2
        intro s5 e1 e4 e6
        have b1 : Dp K H2 (.ref D) aD := z.dp (gd := fun j => .list [.bool (j != 11), .bool (j != 11), .bool (j == 11)]) s5 fun j l hj hl => .lst (SL hl) aboveL_dp
        have d1 : Dp K H2 (.ref l1) (.list [.bool true, .bool true, .bool false]) := .lst (SL e1) (.cons (.bl _) (.cons (.bl _) (.cons (.bl _) .nil)))
        have d4 : Dp K H2 (.ref l4) (.list [.bool false, .bool false, .bool true]) := .lst (SL e4) (.cons (.bl _) (.cons (.bl _) (.cons (.bl _) .nil)))
        have b2 : Dp K H2 (.ref l6) aD := .lst (SL e6) (.cons d1 (.cons d1 (.cons d1 (.cons d1 (.cons d1 (.cons d1 (.cons d1 (.cons d1 (.cons d1 (.cons d1 (.cons d1 (.cons d4 .nil))))))))))))
        refine ⟨aD, aD, b1, b2, p1, p1, _, rfl, ?_⟩
        rw [p2]
        exact iteF (nx H2 (st.same (z.same.trans s5)))
    have t3 : ∃ t, PS (cxOf CX0 P w K mg base nLaw "law" (defScope sLaw) f cdv A outer s H E0).nox (((match (defBody sLaw).getD 1 (.Pass ⟨0, 0, 0, 0⟩) with | .For _ _ b _ _ => b | _ => [])).getD 4 (.Pass ⟨0, 0, 0, 0⟩)) t ∧ ∀ (a c0 p : Addr) (v : V) (d : PyData) (es : List V) (tn : Option V) (tx : Str) (H' : Hp) (Dn : Ends), Std K c H' a c0 p v d es →
          (∀ H2, Std K c H2 a c0 p v d es → Dn.nx [some (.ref b), some (.ref a), tn, some v, some (.str tx), some (.ref p), none, none] H2) →
          t Dn [some (.ref b), some (.ref a), tn, some v, some (.str tx), some (.ref p), none, none] H'  := by
      refine ⟨_, ps_if (pt_cmpR op_ne (pe_callB (call_reprB (K := K) rfl hgd hr) (by rfl) G.repr (by decide +kernel) (pa_cons (pe_call GO r3 (by rfl) DO.at_ DO.fn.kp DO.b .nil pass0 (pa_cons (pv 3) pa_nil)) pa_nil)) (pe_callB (call_reprB (K := K) rfl hgd hr) (by rfl) G.repr (by decide +kernel) (pa_cons (pe_lc (own := [("_law_k", 7)]) (g := gName 7) (tt := tYes) rfl scLaw.nd (pi_range2 (by rfl) G.range (pa_cons pe_int (pa_cons pe_int pa_nil))) (blkOk_by (own := [("_law_k", 7)]) (N := nLaw) (sc := defScope sLaw) (by decide +kernel)) (fun _ _ _ _ _ => pg_name (i := 7) scLaw.nd rfl (Or.inl rfl)) (fun _ _ _ _ _ => pts_nil) (fun _ _ _ _ _ => pe_tup (pa_cons (pv 7) (pa_cons (pv 3) (pa_cons (pv 3) pa_nil))))) pa_nil)) (nomark _)) (pss_one (ps_ret pe_bl)) pss_nil, fun a c0 p v d es tn tx H' Dn st nx => ?_⟩
      have sh := st.th.sh
      have sb := boreD_sh sh
      refine ⟨v, rfl, v, rfl, fun l ts H1 s1 hn hl7 len7 rows => ?_⟩
      have th1 : Thg K H1 v d := st.th.keep fun p xs e => s1 _ _ e
      have b1 : Dp K H1 (.ref l) (boreD d) := by
        have z := rows.dp th1.dp
        rw [len7] at z
        exact .lst (SL hl7) z
      have big : (100000 : Nat) ≤ sizeLine := by decide
      refine ⟨.ref l, boreD d, rfl, b1, sb.sh, sb.nd, Nat.le_trans sb.len big, Nat.le_trans sb.dep (by decide), 5, 12, rfl, ⟨by decide, by decide, by decide, by decide⟩, fun D hD => lc_range (lo := 5) (n := 7) (fun i H2 => Acc H1 D (fun j => .tup [.int (5 + (j : Int)), v, v]) i H2) (Acc.zero hD) ?_ ?_⟩
      · intro i H2 hi z2
        exact ⟨rfl, _, rfl, v, rfl, v, rfl, (by show 3 ≤ sizeLine; decide), fun t ht => Acc.succ hD z2 (by omega) (same_upd ht) ht upd_same⟩
      · intro H2 z2
        have th2 : Thg K H2 v d := th1.keep fun p xs e => z2.same _ _ e
        have b2 : Dp K H2 (.ref D) (boreD d) := z2.dp (gd := fun j => .tuple [.int (5 + j : Nat), d, d]) (fun _ _ e => e) fun j l hj hl => by
          have e : ((5 + j : Nat) : Int) = 5 + (j : Int) := by omega
          rw [e]
          exact .tup (.inl (.inl hl)) (.cons (.int _) (.cons th2.dp (.cons th2.dp .nil)))
        refine ⟨.ref D, boreD d, rfl, b2, sb.sh, sb.nd, Nat.le_trans sb.len big, Nat.le_trans sb.dep (by decide), rfl, _, rfl, iteNS rfl (nx H2 (st.same (s1.trans z2.same)))⟩
    have t4 : ∃ t, PS (cxOf CX0 P w K mg base nLaw "law" (defScope sLaw) f cdv A outer s H E0).nox (((match (defBody sLaw).getD 1 (.Pass ⟨0, 0, 0, 0⟩) with | .For _ _ b _ _ => b | _ => [])).getD 5 (.Pass ⟨0, 0, 0, 0⟩)) t ∧ ∀ (a c0 p : Addr) (v : V) (d : PyData) (es : List V) (tn : Option V) (tx : Str) (H' : Hp) (Dn : Ends), Std K c H' a c0 p v d es →
          (∀ H2, Std K c H2 a c0 p v d es → Dn.nx [some (.ref b), some (.ref a), tn, some v, some (.str tx), some (.ref p), none, none] H2) →
          t Dn [some (.ref b), some (.ref a), tn, some v, some (.str tx), some (.ref p), none, none] H'  := by
      refine ⟨_, ps_if (pt_cmpR (op_neD hr.units) (pe_callG GR hgd r3 (by rfl) DR.at_ DR.fn.kp DR.b (pa_cons (pv 3) pa_nil)) (pe_lc (own := [("_law_k", 7)]) (g := gName 7) (tt := tYes) rfl scLaw.nd (pi_tup (pe_tup (pa_cons pe_int (pa_cons pe_int (pa_cons pe_int pa_nil))))) (blkOk_by (own := [("_law_k", 7)]) (N := nLaw) (sc := defScope sLaw) (by decide +kernel)) (fun _ _ _ _ _ => pg_name (i := 7) scLaw.nd rfl (Or.inl rfl)) (fun _ _ _ _ _ => pts_nil) (fun _ _ _ _ _ => pe_tup (pa_cons (pe_lst (pa_cons (pv 7) pa_nil)) (pa_cons (pe_callB (call_reprB (K := K) rfl hgd hr) (by rfl) G.repr (by decide +kernel) (pa_cons (pv 3) pa_nil)) pa_nil)))) (nomark _)) (pss_one (ps_ret pe_bl)) pss_nil, fun a c0 p v d es tn tx H' Dn st nx => ?_⟩
      have sh := st.th.sh
      obtain ⟨p1, p2⟩ := raisedD_ok st.th.okC
      refine ⟨v, rfl, v, d, rfl, st.th, fun l H1 s1 b1 => ⟨(by show 3 ≤ sizeLine; decide), fun t ht => ⟨t, rfl, ⟨_, .inl (.inl upd_same)⟩, fun D hD => lc_tup (K := K) (a := t) (xs := [.int 5, .int 11, .int 10]) (fun i H2 => AccR (upd H1 t (.tup [.int 5, .int 11, .int 10])) D [5, 11, 10] d.shown i H2) (AccR.zero hD) (fun i H2 _ z => .inl (.inl (z.same _ _ upd_same))) ?_ ?_⟩⟩⟩
      · intro i x H2 hi z
        have k : ∃ k : Int, x = .int k ∧ ([5, 11, 10] : List Int).getD i 0 = k ∧ i < 1000 := by
          match i, hi with
          | 0, hi => exact ⟨5, (Option.some.inj hi).symm, rfl, by decide⟩
          | 1, hi => exact ⟨11, (Option.some.inj hi).symm, rfl, by decide⟩
          | 2, hi => exact ⟨10, (Option.some.inj hi).symm, rfl, by decide⟩
          | n + 3, hi => simp at hi
        obtain ⟨k, rfl, hk, i1⟩ := k
        have s2 := s1.trans ((same_upd ht).trans z.same)
        refine ⟨rfl, _, rfl, (by show 1 ≤ sizeLine; decide), fun m hm => ⟨v, rfl, v, d, rfl, ?_, sh.sh, sh.nd, Nat.le_trans sh.len (by decide), Nat.le_trans sh.dep (by decide), (by show 2 ≤ sizeLine; decide), fun l2 hl2 => AccR.succ hD z i1 hk hm hl2⟩⟩
        exact (st.th.keep fun p xs e => same_upd hm _ _ (s2 _ _ e)).dp
      · intro H2 z
        have s2 := (same_upd (o := .tup [.int 5, .int 11, .int 10]) ht).trans z.same
        refine ⟨raisedD d.shown, raisedD d.shown, dp_same5 s2 _ _ b1, z.dp, p1, p1, _, rfl, ?_⟩
        rw [p2]
        exact iteF (nx H2 (st.same (s1.trans s2)))
    have t5 : ∃ t, PS (cxOf CX0 P w K mg base nLaw "law" (defScope sLaw) f cdv A outer s H E0).nox (((match (defBody sLaw).getD 1 (.Pass ⟨0, 0, 0, 0⟩) with | .For _ _ b _ _ => b | _ => [])).getD 6 (.Pass ⟨0, 0, 0, 0⟩)) t ∧ ∀ (a c0 p : Addr) (v : V) (d : PyData) (es : List V) (tn : Option V) (tx : Str) (H' : Hp) (Dn : Ends), Std K c H' a c0 p v d es →
          (∀ H2, Std K c H2 a c0 p v d es → Dn.nx [some (.ref b), some (.ref a), tn, some v, some (.str tx), some (.ref p), none, none] H2) →
          t Dn [some (.ref b), some (.ref a), tn, some v, some (.str tx), some (.ref p), none, none] H'  := by
      refine ⟨_, ps_if (PW.pt (pw_or (pt_cmpR op_ne (pe_callB (call_reprB (K := K) rfl hgd hr) (by rfl) G.repr (by decide +kernel) (pa_cons (pe_call GB r1 (by rfl) DB.at_ DB.fn.kp DB.b .nil pass0 (pa_cons (pe_mk1 PySem.F.excBase_ValueError C.e12 C.t.n12 C.k12 (by rfl) (pv 4)) pa_nil)) pa_nil)) (pe_callB (call_reprB (K := K) rfl hgd hr) (by rfl) G.repr (by decide +kernel) (pa_cons (pe_lst (pa_cons pe_bl (pa_cons pe_bl (pa_cons pe_bl pa_nil)))) pa_nil)) (nomark _)) (pw_or1 (pt_cmpR (op_neD hr.units) (pe_call GK r1 (by rfl) DK.at_ DK.fn.kp DK.b .nil pass0 (pa_cons (pe_mk1 PySem.F.excBase_ValueError C.e12 C.t.n12 C.k12 (by rfl) (pv 4)) pa_nil)) (pe_lst pa_nil) (nomark _))))) (pss_one (ps_ret pe_bl)) pss_nil, fun a c0 p v d es tn tx H' Dn st nx => ?_⟩
      have t3 : (PyData.list [.bool true, .bool true, .bool false]).showable = true ∧ (PyData.list [.bool true, .bool true, .bool false]).hasDict = false ∧ (PyData.list [.bool true, .bool true, .bool false]).shown.length ≤ sizeLine ∧ (PyData.list [.bool true, .bool true, .bool false]).depth ≤ 50 := by decide +kernel
      obtain ⟨u1, u2, u3, u4⟩ := t3
      have dp3 : ∀ {H : Hp} {l : Addr}, H l = some (.lst [.bl true, .bl true, .bl false]) → Dp K H (.ref l) (.list [.bool true, .bool true, .bool false]) := fun h => .lst (SL h) (.cons (.bl _) (.cons (.bl _) (.cons (.bl _) .nil)))
      refine ⟨_, rfl, fun e1 he1 => ⟨e1, 12, rfl, by decide, new_ex, fun l1 h1 => ⟨.ref l1, _, rfl, dp3 upd_same, u1, u2, u3, u4, (by show 3 ≤ sizeLine; decide), fun l2 h2 => ⟨.ref l2, _, rfl, dp3 upd_same, u1, u2, u3, u4, rfl, _, rfl, ?_⟩⟩⟩⟩
      have s3 := (same_upd (o := exo e1 (c 12) none) he1).trans ((same_upd (o := .lst (aboveL 12)) h1).trans (same_upd (o := .lst [.bl true, .bl true, .bl false]) h2))
      revert s3
      generalize upd (upd (upd H' e1 (exo e1 (c 12) none)) l1 (.lst (aboveL 12))) l2 (.lst [.bl true, .bl true, .bl false]) = H3
      intro s3
      refine iteNS rfl ⟨_, rfl, fun e4 he4 => ⟨e4, 12, rfl, by decide, new_ex, fun l5 H5 s5 hn5 h5 => ⟨Nat.zero_le _, fun l6 h6 => ?_⟩⟩⟩
      have s6 := s3.trans ((same_upd (o := exo e4 (c 12) none) he4).trans (s5.trans (same_upd (o := .lst []) h6)))
      refine ⟨.list [], .list [], .lst (SL (same_upd h6 _ _ h5)) .nil, .lst (SL upd_same) .nil, rfl, rfl, _, rfl, ?_⟩
      exact iteF (nx _ (st.same s6))
    obtain ⟨e1, T1, q1⟩ := t1
    obtain ⟨e2, T2, q2⟩ := t2
    obtain ⟨e3, T3, q3⟩ := t3
    obtain ⟨e4, T4, q4⟩ := t4
    obtain ⟨e5, T5, q5⟩ := t5
    refine ⟨_, pss_cons (ps_set (i := 1) scLaw.nd rfl (.inl rfl) (pe_call G1 r1 (by rfl) D1.at_ D1.fn.kp D1.b .nil pass0 (pa_cons (pv 0) pa_nil)))
      (pss_cons (ps_for PassesOwn.never rfl (pi_range1 (by rfl) G.range (pa_cons pe_int pa_nil)) (pg_name (i := 2) scLaw.nd rfl (.inl rfl))
        (pss_cons (ps_asg (pe_tup (pa_cons (pe_call GT r3 (by rfl) DT.at_ DT.fn.kp DT.b .nil pass0 (pa_cons (pv 1) pa_nil)) (pa_cons (pe_op op_add_str pe_str (pe_callB (call_reprB (K := K) rfl hgd hr) (by rfl) G.repr (by decide +kernel) (pa_cons (pe_call GT r3 (by rfl) DT.at_ DT.fn.kp DT.b .nil pass0 (pa_cons (pv 1) pa_nil)) pa_nil))) pa_nil))) (pg_tup rfl (pgs_cons (pg_name (i := 3) scLaw.nd rfl (.inr rfl)) (pgs_cons (pg_name (i := 4) scLaw.nd rfl (.inl rfl)) pgs_nil)))) (pss_cons (ps_set (i := 5) scLaw.nd rfl (.inl rfl) (pe_call GA r3 (by rfl) DA.at_ DA.fn.kp DA.b .nil pass0 (pa_cons (pv 3) (pa_cons (pv 4) pa_nil)))) (pss_cons T1 (pss_cons T2 (pss_cons T3 (pss_cons T4 (pss_one T5))))))))
      (pss_one (ps_ret pe_bl))), ?_⟩
    refine ⟨.ref b, rfl, b, ns, rfl, hb, hl, fun a c0 H1 s1 na nc dk => ?_⟩
    refine ⟨8, rfl, by decide, by decide, for_range (n := 8) (fun i σ H2 => Deck H2 a c0 ∧ ∃ z2 z3 z4 z5, σ = [some (.ref b), some (.ref a), z2, z3, z4, z5, none, none]) ⟨dk, none, none, none, none, rfl⟩ ?_ ?_⟩
    · rintro i σ H2 hi ⟨dk2, z2, z3, z4, z5, rfl⟩
      refine ⟨.ref a, rfl, a, c0, rfl, dk2, fun v d H3 m3 hv => ⟨.ref a, rfl, a, c0, rfl, m3.deck, fun v2 d2 H4 m4 hv2 => ?_⟩⟩
      have sh2 := hv2.sh
      have no : (("no " : Str)).length = 3 := by decide +kernel
      refine ⟨v2, d2, rfl, hv2.dp, sh2.sh, sh2.nd, Nat.le_trans sh2.len (by decide), Nat.le_trans sh2.dep (by decide), _, _, rfl, rfl, ?_, (by show 2 ≤ sizeLine; decide), fun t ht => ⟨t, _, rfl, .inl (.inl upd_same), rfl, _, _, rfl, _, _, rfl, rfl, ?_⟩⟩
      · have := sh2.len
        rw [no, sizeLine_eq]
        omega
      have dk5 : Deck (upd H4 t (.tup [v, .str (("no " : Str) ++ d2.shown)])) a c0 := m4.deck.same (same_upd ht)
      have th5 : Thg K (upd H4 t (.tup [v, .str (("no " : Str) ++ d2.shown)])) v d := hv.keep fun p xs e => same_upd ht _ _ (m4.tups m3.deck p xs e)
      revert dk5 th5
      show _ → _ → tSeq _ _ _ _ (upd H4 t (.tup [v, .str (("no " : Str) ++ d2.shown)]))
      generalize upd H4 t (.tup [v, .str (("no " : Str) ++ d2.shown)]) = H5
      intro dk5 th5
      refine ⟨v, rfl, _, rfl, v, _, rfl, fun p es H6 s6 hp hes len ex => ?_⟩
      have st : Std K c H6 a c0 p v d es := ⟨dk5.same s6, th5.keep fun p xs e => s6 _ _ e, hes, len, ex⟩
      exact q1 a c0 p v d es _ _ H6 _ st fun H7 st => q2 a c0 p v d es _ _ H7 _ st fun H8 st => q3 a c0 p v d es _ _ H8 _ st fun H9 st => q4 a c0 p v d es _ _ H9 _ st fun H10 st => q5 a c0 p v d es _ _ H10 _ st fun H11 st => ⟨st.dk, _, _, _, _, rfl⟩
    · rintro σ H2 ⟨dk2, z2, z3, z4, z5, rfl⟩
      exact q H2
end
end K5
set_option Elab.async false
set_option linter.all false
set_option maxRecDepth 100000
set_option maxHeartbeats 4000000
/-! ## the law's end: no table of code objects, no repr under way -/
namespace KG
open PySem PySem.Spec PyProof.Rows L2
def entry1 (a : Addr) (u : Option HO) : Hp := fun b => if b = a then u else none
theorem end_core1 {P : Program} {w : World} {K : PySem.W.Frag} {mg mb : Str → Option Value} {k : Nat} {fa a : Addr} {fd : FuncData} {x : Str} {sp : Sp} {s : Shared} {vs : List Value} {u : Option HO}
    (inK : K.In s.heap) (gl : s.heap.Ns mainGlobals mg) (bl : s.heap.Ns builtinsNs mb) (bb : ∀ x : Str, x ≠ "__name__" → mb x = bootBuiltins x) (nl : s.heap.NoLimit) (ng : s.gens = #[])
    (scr : s.heap.get? a = some { cls := .type "list", data := .seq vs.toArray }) (room : Room k callerA)
    (F : ∀ base : Heap, K.In base → base.Ns mainGlobals mg → FnG P w K mg base k fa fd [x] sp) (bnd : ∀ (s : Shared) (u : Value), BindsTo s fd ⟨[u], []⟩ [(x, u)])
    (hsp : sp [.ref a] (entry1 a u) (fun v _ => v = .bl true) E0) (hok : HOk P w (entry1 a u) s.heap) (hu : u = none ∨ (K.lookup a = none ∧ ∃ o xs, u = some (.frz o (.lst xs)))) :
    codeAny (model P w) callerA (.call (.ref fa) ⟨[.ref a], []⟩) (fun r s' => r = .ok (.ret (.bool true)) ∧ OldK s.heap s'.heap ∧ s'.os = s.os ∧ AllBare s'.gens) s := by
  have free : ∀ {b : Addr} {o : Obj}, s.heap.get? b = some o → (∀ xs n, o.data ≠ .seq xs n) → entry1 a u b = none := by
    intro b o e h1
    unfold entry1
    by_cases e2 : b = a
    · rw [e2, scr] at e
      cases e
      exact absurd rfl (h1 _ _)
    · rw [if_neg e2]
  have there : ∀ {b : Addr} {o : Obj}, s.heap.get? b = some o → entry1 a u b = none → (hidT s.heap (entry1 a u)).get? b = some o := fun e n => hidT_get e n
  have names : ∀ {b : Addr} {m : Str → Option Value}, s.heap.Ns b m → (hidT s.heap (entry1 a u)).Ns b m := by
    rintro b m ⟨o, es, ep, e, d, r⟩
    exact ⟨o, es, ep, there e (free e (fun _ _ z => by rw [d] at z; cases z)), d, r⟩
  have baseK : K.In (hidT s.heap (entry1 a u)) := by
    intro b o e
    refine there (inK b o e) ?_
    unfold entry1
    by_cases e2 : b = a
    · rw [if_pos e2]
      rcases hu with hu | ⟨hu, _⟩
      · exact hu
      · rw [e2, hu] at e
        cases e
    · rw [if_neg e2]
  have limit : (hidT s.heap (entry1 a u)).NoLimit := by
    obtain ⟨mc, h1, h2⟩ := nl
    exact ⟨mc, names h1, h2⟩
  have e0 : Env0 P w K mg (hidT s.heap (entry1 a u)) callerA [] s (entry1 a u) := by
    refine ⟨rfl, ⟨baseK, names gl, ⟨mb, names bl, bb⟩, limit⟩, fun b o e => of_hidT e, Nat.le_of_eq (hidT_size _ _), trivial, ?_, hok, .of_eq ng⟩
    intro b z
    cases z
  refine codeAny_mono ((F _ baseK (names gl)).go callerA [] s _ ⟨[.ref a], []⟩ [.ref a] [.ref a] _ rfl room e0 (bnd s (.ref a)) (.cons rfl .nil) hsp) ?_
  intro r s' h
  match r, h with
  | .ok (.ret _), ⟨v, H', os, bare, un, hok', rv, q⟩ =>
    have q' : v = .bl true := q
    subst q'
    cases rv
    have kept : ∀ b o, s.heap.get? b = some o → s'.heap.get? b = some o := by
      intro b o e
      by_cases e2 : b = a
      · rcases hu with hu | ⟨_, o0, xs, hu⟩
        · refine un.keep b o e ?_ (fun z => nomatch z) (fun z => nomatch z)
          unfold entry1
          rw [if_pos e2, hu]
        · have z : entry1 a u b = some (.frz o0 (.lst xs)) := by
            unfold entry1
            rw [if_pos e2, hu]
          have z2 := un.frzs b o0 _ z
          obtain ⟨g1, _⟩ := hok b _ z
          obtain ⟨g2, _⟩ := hok' b _ z2
          rw [e] at g1
          cases g1
          exact g2
      · refine un.keep b o e ?_ (fun z => nomatch z) (fun z => nomatch z)
        unfold entry1
        rw [if_neg e2]
    exact ⟨rfl, ⟨fun b o e => .inl (kept b o e), fun b o e => ⟨o, kept b o e⟩⟩, os, bare⟩
  | .error _, h => exact h.elim
theorem end_one1 {P : Program} {w : World} {K : PySem.W.Frag} {mg mb : Str → Option Value} {k : Nat} {fa a : Addr} {fd : FuncData} {x : Str} {sp : Sp} {s : Shared} {vs : List Value} {ns : List Int}
    (inK : K.In s.heap) (gl : s.heap.Ns mainGlobals mg) (bl : s.heap.Ns builtinsNs mb) (bb : ∀ x : Str, x ≠ "__name__" → mb x = bootBuiltins x) (nl : s.heap.NoLimit) (ng : s.gens = #[])
    (scr : s.heap.get? a = some { cls := .type "list", data := .seq vs.toArray }) (hi : IntsAre vs ns) (hl : ns.length ≤ sizeLine) (room : Room k callerA)
    (F : ∀ base : Heap, K.In base → base.Ns mainGlobals mg → FnG P w K mg base k fa fd [x] sp) (bnd : ∀ (s : Shared) (u : Value), BindsTo s fd ⟨[u], []⟩ [(x, u)])
    (hsp : ∀ H : Hp, SqL K H a (ns.map V.int) → sp [.ref a] H (fun v _ => v = .bl true) E0) :
    codeAny (model P w) callerA (.call (.ref fa) ⟨[.ref a], []⟩) (fun r s' => r = .ok (.ret (.bool true)) ∧ OldK s.heap s'.heap ∧ s'.os = s.os ∧ AllBare s'.gens) s := by
  have rv := vals_ints hi
  have ln := hi.length
  have aH : ∀ u : Option HO, entry1 a u a = u := fun u => by
    unfold entry1
    rw [if_pos rfl]
  have others : ∀ (u : Option HO) (b : Addr) (o : HO), entry1 a u b = some o → b = a ∧ u = some o := by
    intro u b o z
    unfold entry1 at z
    by_cases e2 : b = a
    · rw [if_pos e2] at z
      exact ⟨e2, z⟩
    · rw [if_neg e2] at z
      cases z
  cases hk : K.lookup a with
  | some o =>
    have e := inK a o hk
    rw [scr] at e
    cases e
    refine end_core1 (u := none) inK gl bl bb nl ng scr room F bnd (hsp _ (.inr ⟨_, vs.toArray, _, hk, rfl, rfl, rfl, by rw [List.size_toArray, ln]; exact hl, by simpa using rv⟩)) ?_ (.inl rfl)
    intro b o z
    obtain ⟨_, z⟩ := others _ b o z
    cases z
  | none =>
    refine end_core1 (u := some (.frz { cls := .type "list", data := .seq vs.toArray } (.lst (ns.map V.int)))) inK gl bl bb nl ng scr room F bnd (hsp _ (.inl (.inr ⟨_, aH _⟩))) ?_ (.inr ⟨hk, _, _, rfl⟩)
    intro b o z
    obtain ⟨eb, z3⟩ := others _ b o z
    cases z3
    rw [eb]
    exact ⟨scr, by rw [List.length_map]; exact hl, vs, _, rv, scr⟩
def LawG1 (l : PySem.W.OpenLaw) (w : World) (K : PySem.W.Frag) (k n : Nat) (x : Str) (mg : Str → Option Value) (fa : Addr) : Prop :=
  ∃ (fd : FuncData) (sp : Sp), (∀ (s : Shared) (u : Value), BindsTo s fd ⟨[u], []⟩ [(x, u)]) ∧
    (∀ (H : Hp) (a : Addr) (ns : List Int), ns.length ≤ n → SqL K H a (ns.map V.int) → sp [.ref a] H (fun v _ => v = .bl true) E0) ∧
    ∀ base : Heap, K.In base → base.Ns mainGlobals mg → FnG l.prog w K mg base k fa fd [x] sp
theorem walkG1 {l : PySem.W.OpenLaw} {n k : Nat} {q : Program} {loose : List Str} {XP : (Str → Option Value) → Heap → Prop} {YP : World → Heap → Prop} {d : DefRec} {K : Params → PySem.W.Frag} {x : Str}
    (hn : l.most = some n) (hn2 : n ≤ sizeLine) (hdf : d.params.defaults = []) (room : Room k callerA) (hY : ∀ (w : World) (h : Heap), YP w h → (K w.params).In h)
    (F : ∀ (w : World) (s₀ : Shared) (mg mb : Str → Option Value) (fa : Addr) (h : Heap), PySem.W.Ground q loose [] XP w s₀ mg mb h → (K w.params).In h → mg d.name = some (.ref fa) → LawG1 l w (K w.params) k n x mg fa) :
    PySem.W.WalkO q loose XP YP l.row.toRowW d [] (fun f vs => PySem.call f vs) := by
  refine Att.attach_call hn hdf ?_
  intro w s₀ s₁ mg mb fa o pm cd doc a vs ns G Y ho hd hcd hmg hobj hints hlen hg
  have inK := hY w _ Y
  obtain ⟨fd, sp, bnd, hsp, hF⟩ := F w s₀ mg mb fa _ G inK hmg
  exact end_one1 inK G.T.g G.T.b G.T.builtins G.T.nolimit hg hobj hints (Nat.le_trans hlen hn2) room hF bnd (fun H => hsp H a ns hlen)
end KG
set_option Elab.async false
set_option linter.all false
set_option maxRecDepth 100000
set_option maxHeartbeats 4000000
namespace K5
open PySem PySem.Spec PyProof.Rows L2 KG EX EH
structure DefIn (K : PySem.W.Frag) (x : Str) (st : Stmt) : Prop where
  ex : ∃ (f : Addr) (oc : Value) (od : Option Addr) (kV dc pm : Value) (an : Option Addr) (cd ct : Value) (sl : Array (Option Value)), PySem.W.nsIn K mainGlobals x = some (some (.ref f)) ∧
    K.lookup f = some ⟨oc, od, .func (PySem.W.fnOf x x (defArgs st) (defBody st) (defScope st) .none kV dc pm an cd ct), sl⟩ ∧ PySem.W.codeIn K cd x = true ∧ PySem.W.keepIn K (.ref f) = true
theorem DefIn.of {K : PySem.W.Frag} {x : Str} {st : Stmt} {f : Addr} {oc : Value} {od : Option Addr} {kV dc pm : Value} {an : Option Addr} {cd ct : Value} {sl : Array (Option Value)} (h1 : PySem.W.nsIn K mainGlobals x = some (some (.ref f)))
    (h2 : K.lookup f = some ⟨oc, od, .func (PySem.W.fnOf x x (defArgs st) (defBody st) (defScope st) .none kV dc pm an cd ct), sl⟩) (h3 : PySem.W.codeIn K cd x = true) (h4 : PySem.W.keepIn K (.ref f) = true) : DefIn K x st :=
  ⟨⟨f, oc, od, kV, dc, pm, an, cd, ct, sl, h1, h2, h3, h4⟩⟩
def BindsAll (x : Str) (st : Stmt) (ps : List Str) : Prop := ∀ (kV doc pm : Value) (an : Option Addr) (cdv ct : Value) (us : List Value), us.length = ps.length →
  bindArgs (PySem.W.fnOf x x (defArgs st) (defBody st) (defScope st) .none kV doc pm an cdv ct) ⟨us, []⟩ = pure (ps.zip us)
theorem DefIn.def_ {K : PySem.W.Frag} {h : Heap} {mg : Str → Option Value} {x : Str} {st : Stmt} {ps : List Str} (X : K.In h) (G : h.Ns mainGlobals mg) (hb : BindsAll x st ps) (d : DefIn K x st) : ∃ f fd, Def K mg x st ps f fd := by
  obtain ⟨f, oc, od, kV, dc, pm, an, cd, ct, sl, h1, h2, h3, h4⟩ := d.ex
  have F := fun_mk (st := st) h2 h3 h4
  exact ⟨f, _, F, PySem.W.mg_of X G h1, F.binds hb⟩
/-- a class's own init as it stands in the written part -/
structure ClIn (K : PySem.W.Frag) (qual : Str) (st : Stmt) (f : Str) (C : Addr) : Prop where
  ex : ∃ (fI : Addr) (oc : Value) (od : Option Addr) (kV dc pm : Value) (an : Option Addr) (cd ct : Value) (sl : Array (Option Value)), PySem.W.findIn K (.ref C) "__init__" = some (some (.ref fI)) ∧
    K.lookup fI = some ⟨oc, od, .func (PySem.W.fnOf "__init__" qual (defArgs st) (defBody st) (defScope st) .none kV dc pm an cd ct), sl⟩ ∧ PySem.W.codeIn K cd qual = true ∧ PySem.W.keepIn K (.ref fI) = true ∧ PySem.W.typeIn K (.ref fI) = some (.type "function")
  no : PySem.W.findIn K (.ref C) f = some none
theorem ClIn.of {K : PySem.W.Frag} {qual : Str} {st : Stmt} {f : Str} {C fI : Addr} {oc : Value} {od : Option Addr} {kV dc pm : Value} {an : Option Addr} {cd ct : Value} {sl : Array (Option Value)} (h1 : PySem.W.findIn K (.ref C) "__init__" = some (some (.ref fI)))
    (h2 : K.lookup fI = some ⟨oc, od, .func (PySem.W.fnOf "__init__" qual (defArgs st) (defBody st) (defScope st) .none kV dc pm an cd ct), sl⟩) (h3 : PySem.W.codeIn K cd qual = true) (h4 : PySem.W.keepIn K (.ref fI) = true) (h5 : PySem.W.typeIn K (.ref fI) = some (.type "function"))
    (h6 : PySem.W.findIn K (.ref C) f = some none) : ClIn K qual st f C := ⟨⟨fI, oc, od, kV, dc, pm, an, cd, ct, sl, h1, h2, h3, h4, h5⟩, h6⟩
theorem ClIn.cl {K : PySem.W.Frag} {mg : Str → Option Value} {x qual : Str} {st : Stmt} {f : Str} {NB nw IB ini : String} {C : Addr} (d : ClIn K qual st f C) (t : ExK K C NB nw IB ini) (hm : mg x = some (.ref C))
    (hb : ∀ (kV doc pm : Value) (an : Option Addr) (cdv ct : Value) (us : List Value), us.length = 2 → bindArgs (PySem.W.fnOf "__init__" qual (defArgs st) (defBody st) (defScope st) .none kV doc pm an cdv ct) ⟨us, []⟩ = pure ((["self", f] : List Str).zip us))
    (hk : ∀ (kV doc pm : Value) (an : Option Addr) (cdv ct u v : Value), bindArgs (PySem.W.fnOf "__init__" qual (defArgs st) (defBody st) (defScope st) .none kV doc pm an cdv ct) ⟨[u], [(f, v)]⟩ = pure ([("self", u), (f, v)] : List (Str × Value))) :
    ∃ fI fd, Cl K mg x qual st f NB nw IB ini C fI fd := by
  obtain ⟨⟨fI, oc, od, kV, dc, pm, an, cd, ct, sl, h1, h2, h3, h4, h5⟩, no⟩ := d
  have F := fun_mk (st := st) h2 h3 h4
  refine ⟨fI, _, hm, t, F, h1, h5, no, F.binds hb, fun s' a ws _ hl => ?_⟩
  match ws, hl with
  | [u], _ => exact .of_eq (hk _ _ _ _ _ _ _ u)
theorem exK_of {K : PySem.W.Frag} {C : Addr} {NB nw IB ini : String} {nm q : Str} {N : Addr} {bs bm : List Value} {sn : List Str} {sub : List Value} {ab : Bool} {col : Option Bool} {dd : Option Addr} {k0 k1 k2 k3 k5 : Option Value}
    (h : K.lookup C = some (excClassObj nm q C N bs bm true sn sub ab col dd k0 k1 k2 k3 k5 nw)) (B : Ab NB nw IB ini bm) (sa : PySem.W.findIn K (.ref C) "__setattr__" = some (some (.builtin "object.__setattr__"))) (kC : PySem.W.keepIn K (.ref C) = true)
    (ga : PySem.W.findIn K (.ref C) "__getattribute__" = some (some (.builtin "BaseException.__getattribute__"))) (gg : PySem.W.findIn K (.ref C) "__getattr__" = some none) (ex : PySem.W.subIn K (.ref C) (.type "BaseException") = some true)
    (ty : PySem.W.typeIn K (.ref C) = some (.type "type")) (ca : PySem.W.findIn K (.ref C) "__class__" = some (some (.builtin "object.__class__"))) (ob : PySem.W.mroIn K C (.type "object") = some true) (hd : PySem.W.hasDictIn K C = true) : ExK K C NB nw IB ini :=
  ⟨⟨nm, q, N, bs, bm, sn, sub, ab, col, dd, k0, k1, k2, k3, k5, h, B⟩, sa, kC, ga, gg, ex, ty, ca, ob, hd⟩
/-- the table of kinds -/
def tab5 (K : PySem.W.Frag) (l : List Addr) : Bool := (List.range 13).all fun i => ((List.range 12).all fun j => PySem.W.kitOne K (.ref (l.getD i 0)) (.ref (l.getD j 0)) == some (i == j)) && ((PySem.W.kitOne K (.ref (l.getD i 0)) (.ref (l.getD 12 0)) == some (i != 11)) &&
  ((PySem.W.kitOne K (.ref (l.getD i 0)) (.type "ValueError") == some (i != 11)) && (PySem.W.kitOne K (.ref (l.getD i 0)) (.type "KeyError") == some (i == 11))))
theorem bi_sDeck : BindsAll "_law_deck" sDeck ["_law_script"] := fun _ _ _ _ _ _ us hl => match us, hl with | [_], _ => rfl
theorem bi_sDraw : BindsAll "_law_draw" sDraw ["_law_deck_here", "_law_ways"] := fun _ _ _ _ _ _ us hl => match us, hl with | [_, _], _ => rfl
theorem bi_sPick : BindsAll "_law_pick" sPick ["_law_deck_here", "_law_some"] := fun _ _ _ _ _ _ us hl => match us, hl with | [_, _], _ => rfl
theorem bi_sThing : BindsAll "_law_thing" sThing ["_law_deck_here"] := fun _ _ _ _ _ _ us hl => match us, hl with | [_], _ => rfl
theorem bi_sKinds : BindsAll "_law_kinds" sKinds ["_law_made"] := fun _ _ _ _ _ _ us hl => match us, hl with | [_], _ => rfl
theorem bi_sAbove : BindsAll "_law_above" sAbove ["_law_made"] := fun _ _ _ _ _ _ us hl => match us, hl with | [_], _ => rfl
theorem bi_sBore : BindsAll "_law_bore" sBore ["_law_thing_here"] := fun _ _ _ _ _ _ us hl => match us, hl with | [_], _ => rfl
theorem bi_sAll : BindsAll "_law_all" sAll ["_law_thing_here", "_law_text"] := fun _ _ _ _ _ _ us hl => match us, hl with | [_, _], _ => rfl
theorem bi_sRaised : BindsAll "_law_raised" sRaised ["_law_thing_here"] := fun _ _ _ _ _ _ us hl => match us, hl with | [_], _ => rfl
theorem bi_sLaw : BindsAll "law" sLaw ["_law_script"] := fun _ _ _ _ _ _ us hl => match us, hl with | [_], _ => rfl
theorem all_mk {l : PySem.W.OpenLaw} {w : World} {K : PySem.W.Frag} {q : Program} {loose : List Str} {XP : (Str → Option Value) → Heap → Prop} {s₀ : Shared} {h : Heap} {mg mb : Str → Option Value} {fa c0 c1 c2 c3 c4 c5 c6 c7 c8 c9 c10 c11 c12 : Addr}
    (GG : PySem.W.Ground q loose [] XP w s₀ mg mb h) (X : K.In h) (hfa : mg "law" = some (.ref fa))
    (d_deck : DefIn K "_law_deck" sDeck)
    (d_draw : DefIn K "_law_draw" sDraw)
    (d_pick : DefIn K "_law_pick" sPick)
    (d_thing : DefIn K "_law_thing" sThing)
    (d_kinds : DefIn K "_law_kinds" sKinds)
    (d_above : DefIn K "_law_above" sAbove)
    (d_bore : DefIn K "_law_bore" sBore)
    (d_all : DefIn K "_law_all" sAll)
    (d_raised : DefIn K "_law_raised" sRaised)
    (d_law : DefIn K "law" sLaw)
    (z_len : PySem.W.nsIn K mainGlobals "len" = some none)
    (z_list : PySem.W.nsIn K mainGlobals "list" = some none)
    (z_range : PySem.W.nsIn K mainGlobals "range" = some none)
    (z_enumerate : PySem.W.nsIn K mainGlobals "enumerate" = some none)
    (z_isi : PySem.W.nsIn K mainGlobals "isinstance" = some none)
    (z_repr : PySem.W.nsIn K mainGlobals "repr" = some none)
    (z_val : PySem.W.nsIn K mainGlobals "ValueError" = some none)
    (z_key : PySem.W.nsIn K mainGlobals "KeyError" = some none)
    (n_0 : PySem.W.nsIn K mainGlobals "NoText" = some (some (.ref c0)))
    (n_1 : PySem.W.nsIn K mainGlobals "NoBook" = some (some (.ref c1)))
    (n_2 : PySem.W.nsIn K mainGlobals "NoPaper" = some (some (.ref c2)))
    (n_3 : PySem.W.nsIn K mainGlobals "NoStand" = some (some (.ref c3)))
    (n_4 : PySem.W.nsIn K mainGlobals "NoRow" = some (some (.ref c4)))
    (n_5 : PySem.W.nsIn K mainGlobals "NoDoor" = some (some (.ref c5)))
    (n_6 : PySem.W.nsIn K mainGlobals "NoTurn" = some (some (.ref c6)))
    (n_7 : PySem.W.nsIn K mainGlobals "NoName" = some (some (.ref c7)))
    (n_8 : PySem.W.nsIn K mainGlobals "Taken" = some (some (.ref c8)))
    (n_9 : PySem.W.nsIn K mainGlobals "NoCode" = some (some (.ref c9)))
    (n_10 : PySem.W.nsIn K mainGlobals "InUse" = some (some (.ref c10)))
    (n_11 : PySem.W.nsIn K mainGlobals "Absent" = some (some (.ref c11)))
    (n_12 : PySem.W.nsIn K mainGlobals "FerryError" = some (some (.ref c12)))
    (x_0 : ExK K c0 "ValueError" "ValueError.__new__" "ValueError" "ValueError.__init__")
    (x_1 : ExK K c1 "ValueError" "ValueError.__new__" "ValueError" "ValueError.__init__")
    (x_2 : ExK K c2 "ValueError" "ValueError.__new__" "ValueError" "ValueError.__init__")
    (x_3 : ExK K c3 "ValueError" "ValueError.__new__" "ValueError" "ValueError.__init__")
    (x_4 : ExK K c4 "ValueError" "ValueError.__new__" "ValueError" "ValueError.__init__")
    (x_5 : ExK K c5 "ValueError" "ValueError.__new__" "ValueError" "ValueError.__init__")
    (x_6 : ExK K c6 "ValueError" "ValueError.__new__" "ValueError" "ValueError.__init__")
    (x_7 : ExK K c7 "ValueError" "ValueError.__new__" "ValueError" "ValueError.__init__")
    (x_8 : ExK K c8 "ValueError" "ValueError.__new__" "ValueError" "ValueError.__init__")
    (x_9 : ExK K c9 "ValueError" "ValueError.__new__" "ValueError" "ValueError.__init__")
    (x_10 : ExK K c10 "ValueError" "ValueError.__new__" "ValueError" "ValueError.__init__")
    (x_11 : ExK K c11 "LookupError" "LookupError.__new__" "KeyError" "KeyError.__init__")
    (x_12 : ExK K c12 "ValueError" "ValueError.__new__" "ValueError" "ValueError.__init__")
    (l_5 : ClIn K "NoDoor.__init__" (iniS 7) "door" c5)
    (l_6 : ClIn K "NoTurn.__init__" (iniS 8) "place" c6)
    (l_7 : ClIn K "NoName.__init__" (iniS 9) "name" c7)
    (l_8 : ClIn K "Taken.__init__" (iniS 10) "name" c8)
    (l_9 : ClIn K "NoCode.__init__" (iniS 11) "name" c9)
    (l_10 : ClIn K "InUse.__init__" (iniS 12) "run" c10)
    (l_11 : ClIn K "Absent.__init__" (iniS 13) "name" c11)
    (e_0 : PySem.W.excIn K c0 [.type "ValueError", .type "Exception", .type "BaseException", .type "object"] "ValueError.__new__" = true)
    (e_1 : PySem.W.excIn K c1 [.type "ValueError", .type "Exception", .type "BaseException", .type "object"] "ValueError.__new__" = true)
    (e_2 : PySem.W.excIn K c2 [.type "ValueError", .type "Exception", .type "BaseException", .type "object"] "ValueError.__new__" = true)
    (e_3 : PySem.W.excIn K c3 [.type "ValueError", .type "Exception", .type "BaseException", .type "object"] "ValueError.__new__" = true)
    (e_4 : PySem.W.excIn K c4 [.type "ValueError", .type "Exception", .type "BaseException", .type "object"] "ValueError.__new__" = true)
    (e_12 : PySem.W.excIn K c12 [.type "ValueError", .type "Exception", .type "BaseException", .type "object"] "ValueError.__new__" = true)
    (tb : tab5 K [c0, c1, c2, c3, c4, c5, c6, c7, c8, c9, c10, c11, c12] = true)
    (hn : PySem.W.specialIn K (.builtin "object.__class__") "__get__" = some (some (.builtin "getset_descriptor.__get__")))
    (ht : PySem.W.takesIn K (.builtin "object.__class__") = some true)
    (f1 : PySem.W.specialIn K (.ref c12) "__getattribute__" = some (some (.builtin "type.__getattribute__")))
    (f2 : PySem.W.readsIn K c12 (.type "type") = true)
    (f3 : PySem.W.findCls K (.ref c12) (.type "type") "__init__" = some (.val (.builtin "ValueError.__init__")))
    (s5 : PySem.W.subIn K (.ref c5) (.ref c12) = some true)
    (s11 : PySem.W.subIn K (.ref c11) (.ref c11) = some true)
    (s10 : PySem.W.subIn K (.ref c10) (.ref c10) = some true) :
    LawG1 l w K 12 63 "_law_script" mg fa := by
  have G := GG.T.g
  have GB : Glob mg := { len := PySem.W.mg_none_of X G z_len, list := PySem.W.mg_none_of X G z_list, range := PySem.W.mg_none_of X G z_range, enumerate := PySem.W.mg_none_of X G z_enumerate, isi := PySem.W.mg_none_of X G z_isi, repr := PySem.W.mg_none_of X G z_repr, val := PySem.W.mg_none_of X G z_val, key := PySem.W.mg_none_of X G z_key }
  obtain ⟨c, ec⟩ : ∃ c : Nat → Addr, c = fun i => ([c0, c1, c2, c3, c4, c5, c6, c7, c8, c9, c10, c11, c12] : List Addr).getD i 0 := ⟨_, rfl⟩
  have T : Cs K mg c := by
    have t := List.all_eq_true.mp tb
    subst ec
    refine { n0 := PySem.W.mg_of X G n_0, n1 := PySem.W.mg_of X G n_1, n2 := PySem.W.mg_of X G n_2, n3 := PySem.W.mg_of X G n_3, n4 := PySem.W.mg_of X G n_4, n5 := PySem.W.mg_of X G n_5, n6 := PySem.W.mg_of X G n_6, n7 := PySem.W.mg_of X G n_7, n8 := PySem.W.mg_of X G n_8, n9 := PySem.W.mg_of X G n_9, n10 := PySem.W.mg_of X G n_10, n11 := PySem.W.mg_of X G n_11, n12 := PySem.W.mg_of X G n_12, ex := fun i hi => ?_, kd := fun i j hi hj => ?_, fe := fun i hi => ?_, ve := fun i hi => ?_, ke := fun i hi => ?_, r := ⟨hn, ht⟩ }
    · match i, hi with
      | 0, _ => exact ⟨_, _, _, _, x_0⟩
      | 1, _ => exact ⟨_, _, _, _, x_1⟩
      | 2, _ => exact ⟨_, _, _, _, x_2⟩
      | 3, _ => exact ⟨_, _, _, _, x_3⟩
      | 4, _ => exact ⟨_, _, _, _, x_4⟩
      | 5, _ => exact ⟨_, _, _, _, x_5⟩
      | 6, _ => exact ⟨_, _, _, _, x_6⟩
      | 7, _ => exact ⟨_, _, _, _, x_7⟩
      | 8, _ => exact ⟨_, _, _, _, x_8⟩
      | 9, _ => exact ⟨_, _, _, _, x_9⟩
      | 10, _ => exact ⟨_, _, _, _, x_10⟩
      | 11, _ => exact ⟨_, _, _, _, x_11⟩
      | 12, _ => exact ⟨_, _, _, _, x_12⟩
      | n + 13, hi => omega
    all_goals
      have z := t i (List.mem_range.mpr hi)
      simp only [Bool.and_eq_true, beq_iff_eq, List.all_eq_true] at z
      first
        | exact z.1 j (List.mem_range.mpr hj)
        | exact z.2.1
        | exact z.2.2.1
        | exact z.2.2.2
  have C : AllC K mg c := by
    subst ec
    exact { t := T, fe := ⟨PySem.W.mg_of X G n_12, f1, f2, f3⟩, d5 := l_5.cl x_5 (PySem.W.mg_of X G n_5) (fun _ _ _ _ _ _ us hl => match us, hl with | [_, _], _ => rfl) (fun _ _ _ _ _ _ _ _ => rfl), d6 := l_6.cl x_6 (PySem.W.mg_of X G n_6) (fun _ _ _ _ _ _ us hl => match us, hl with | [_, _], _ => rfl) (fun _ _ _ _ _ _ _ _ => rfl), d7 := l_7.cl x_7 (PySem.W.mg_of X G n_7) (fun _ _ _ _ _ _ us hl => match us, hl with | [_, _], _ => rfl) (fun _ _ _ _ _ _ _ _ => rfl), d8 := l_8.cl x_8 (PySem.W.mg_of X G n_8) (fun _ _ _ _ _ _ us hl => match us, hl with | [_, _], _ => rfl) (fun _ _ _ _ _ _ _ _ => rfl), d9 := l_9.cl x_9 (PySem.W.mg_of X G n_9) (fun _ _ _ _ _ _ us hl => match us, hl with | [_, _], _ => rfl) (fun _ _ _ _ _ _ _ _ => rfl), d10 := l_10.cl x_10 (PySem.W.mg_of X G n_10) (fun _ _ _ _ _ _ us hl => match us, hl with | [_, _], _ => rfl) (fun _ _ _ _ _ _ _ _ => rfl), d11 := l_11.cl x_11 (PySem.W.mg_of X G n_11) (fun _ _ _ _ _ _ us hl => match us, hl with | [_, _], _ => rfl) (fun _ _ _ _ _ _ _ _ => rfl), e0 := e_0, k0 := x_0.kC, e1 := e_1, k1 := x_1.kC, e2 := e_2, k2 := x_2.kC, e3 := e_3, k3 := x_3.kC, e4 := e_4, k4 := x_4.kC, e12 := e_12, k12 := x_12.kC }
  have S : Subs K c := by
    subst ec
    exact ⟨s5, s11, s10⟩
  have DD : Defs K mg := { deck := d_deck.def_ X G bi_sDeck, draw := d_draw.def_ X G bi_sDraw, pick := d_pick.def_ X G bi_sPick, thing := d_thing.def_ X G bi_sThing, kinds := d_kinds.def_ X G bi_sKinds, above := d_above.def_ X G bi_sAbove, bore := d_bore.def_ X G bi_sBore, all := d_all.def_ X G bi_sAll, raised := d_raised.def_ X G bi_sRaised }
  obtain ⟨f, oc, od, kV, dc, pm, an, cd, ct, sl, h1, h2, h3, h4⟩ := d_law.ex
  have e := hfa.symm.trans (PySem.W.mg_of X G h1)
  cases e
  have F := fun_mk (st := sLaw) h2 h3 h4
  exact ⟨_, spLaw K, fun s v => .of_eq rfl, fun H a ns hl hS => ⟨a, ns, rfl, hS, hl, fun _ => rfl⟩, fun base _ _ => ok_law F GB C S DD⟩
end K5
set_option Elab.async false
open PySem PySem.W PyProof.Rows
local macro_rules | `(tactic| walk_at "k5 def") => `(tactic| (refine' K5.DefIn.of ?a1 ?a2 ?a3 ?a4; (case a1 => k_is); (case a2 => k_is); (case a3 => k_is); (case a4 => k_is)))
local macro_rules | `(tactic| walk_at "k5 init") => `(tactic| (refine' K5.ClIn.of ?a1 ?a2 ?a3 ?a4 ?a5 ?a6; (case a1 => k_is); (case a2 => k_is); (case a3 => k_is); (case a4 => k_is); (case a5 => k_is); (case a6 => k_is)))
local macro_rules | `(tactic| walk_at "k5 class") => `(tactic| (refine' K5.exK_of ?a1 ?a2 ?a3 ?a4 ?a5 ?a6 ?a7 ?a8 ?a9 ?b1 ?b2; (case a1 => k_is); (case a2 => first | exact EX.ab_value | exact EX.ab_value.cons _ | exact EX.ab_key); (case a3 => k_is); (case a4 => k_is); (case a5 => k_is); (case a6 => k_is); (case a7 => k_is); (case a8 => k_is); (case a9 => k_is); (case b1 => k_is); (case b2 => k_is)))
set_option maxRecDepth 100000 in
set_option maxHeartbeats 0 in
theorem PySem.Challenge.cw_midferry_k05_refusals_made_holds : PySem.Challenge.rw_midferry_k05_refusals_made.Holds := by
  w_on; o_law; k_head; (case hw => w_witness2)
  k_fill
  refine KG.walkG1 (l := PySem.Challenge.rw_midferry_k05_refusals_made) (n := 63) (k := 12) (x := "_law_script") rfl (by decide) rfl ⟨rfl, by decide, by decide⟩ (fun w h Y => PySem.W.kIn_of Y) ?F
  case F =>
    intro w s₀ mg mb fa h GG KX hmg
    refine' K5.all_mk GG KX hmg ?d_deck ?d_draw ?d_pick ?d_thing ?d_kinds ?d_above ?d_bore ?d_all ?d_raised ?d_law ?z_len ?z_list ?z_range ?z_enumerate ?z_isi ?z_repr ?z_val ?z_key ?n_0 ?n_1 ?n_2 ?n_3 ?n_4 ?n_5 ?n_6 ?n_7 ?n_8 ?n_9 ?n_10 ?n_11 ?n_12 ?x_0 ?x_1 ?x_2 ?x_3 ?x_4 ?x_5 ?x_6 ?x_7 ?x_8 ?x_9 ?x_10 ?x_11 ?x_12 ?l_5 ?l_6 ?l_7 ?l_8 ?l_9 ?l_10 ?l_11 ?e_0 ?e_1 ?e_2 ?e_3 ?e_4 ?e_12 ?tb ?hn ?ht ?f1 ?f2 ?f3 ?s5 ?s11 ?s10
    (case n_0 => k_is)
    (case n_1 => k_is)
    (case n_2 => k_is)
    (case n_3 => k_is)
    (case n_4 => k_is)
    (case n_5 => k_is)
    (case n_6 => k_is)
    (case n_7 => k_is)
    (case n_8 => k_is)
    (case n_9 => k_is)
    (case n_10 => k_is)
    (case n_11 => k_is)
    (case n_12 => k_is)
    (case d_deck => walk_at "k5 def")
    (case d_draw => walk_at "k5 def")
    (case d_pick => walk_at "k5 def")
    (case d_thing => walk_at "k5 def")
    (case d_kinds => walk_at "k5 def")
    (case d_above => walk_at "k5 def")
    (case d_bore => walk_at "k5 def")
    (case d_all => walk_at "k5 def")
    (case d_raised => walk_at "k5 def")
    (case d_law => walk_at "k5 def")
    (case z_len => k_is)
    (case z_list => k_is)
    (case z_range => k_is)
    (case z_enumerate => k_is)
    (case z_isi => k_is)
    (case z_repr => k_is)
    (case z_val => k_is)
    (case z_key => k_is)
    (case x_0 => walk_at "k5 class")
    (case x_1 => walk_at "k5 class")
    (case x_2 => walk_at "k5 class")
    (case x_3 => walk_at "k5 class")
    (case x_4 => walk_at "k5 class")
    (case x_5 => walk_at "k5 class")
    (case x_6 => walk_at "k5 class")
    (case x_7 => walk_at "k5 class")
    (case x_8 => walk_at "k5 class")
    (case x_9 => walk_at "k5 class")
    (case x_10 => walk_at "k5 class")
    (case x_11 => walk_at "k5 class")
    (case x_12 => walk_at "k5 class")
    (case l_5 => walk_at "k5 init")
    (case l_6 => walk_at "k5 init")
    (case l_7 => walk_at "k5 init")
    (case l_8 => walk_at "k5 init")
    (case l_9 => walk_at "k5 init")
    (case l_10 => walk_at "k5 init")
    (case l_11 => walk_at "k5 init")
    (case e_0 => kernel_rfl)
    (case e_1 => kernel_rfl)
    (case e_2 => kernel_rfl)
    (case e_3 => kernel_rfl)
    (case e_4 => kernel_rfl)
    (case e_12 => kernel_rfl)
    (case tb => kernel_rfl)
    (case hn => k_is)
    (case ht => k_is)
    (case f1 => k_is)
    (case f2 => k_is)
    (case f3 => k_is)
    (case s5 => k_is)
    (case s11 => k_is)
    (case s10 => k_is)
