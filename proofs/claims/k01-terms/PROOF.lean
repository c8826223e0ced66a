import PyProof.Rows.All
import Wide.All
import OpenK.AllK
import Wide.FinOn
import HandS.ForMost
import HandS.IsInst
import HandS.Lambda
import HandS.Nested
import HandS.EndTab
import PySem.Challenge.RW_midferry_k01_terms_and_numbers
import HandS.Style
import HandS.Walk
import HandS.Conv
import KE.KxIndex
set_option Elab.async false
set_option linter.all false
set_option maxRecDepth 100000
set_option maxHeartbeats 4000000
/-! ## promises of defs that are called where no repr is under way -/
namespace KG
open PySem PySem.Spec PyProof.Rows L2
abbrev Gd (A : Around) : Prop := A.guards = some []
structure FnG (P : Program) (w : World) (K : PySem.W.Frag) (mg : Str → Option Value) (base : Heap) (k : Nat) (f : Addr) (fd : FuncData) (ps : List Str) (sp : Sp) : Prop where
  len : ∀ vs H Q E, sp vs H Q E → vs.length = ps.length
  go : ∀ (A : Around) (outer : List Env) (s : Shared) (H : Hp) (args : Args) (us : List Value) (vs : List V) (Q : VK),
    Gd A → Room k A → Env0 P w K mg base A outer s H → BindsTo s fd args (ps.zip us) → Vals vs us → sp vs H Q E0 →
      codeAny (model P w) A (.call (.ref f) args) (CR CX0 outer P w H s Q E0) s
section
variable {P : Program} {w : World} {K : PySem.W.Frag} {mg : Str → Option Value} {base : Heap}
theorem FnG.of {k : Nat} {f : Addr} {fd : FuncData} {ps : List Str} {sp : Sp} (F : FnOk P w K mg base CX0 k f fd ps sp) : FnG P w K mg base k f fd ps sp :=
  ⟨F.len, fun A outer s H args us vs Q _ hr he hb hv hs => F.run A outer s H args us vs Q E0 hr he hb hv hs⟩
theorem FnG.mono {j k : Nat} {f : Addr} {fd : FuncData} {ps : List Str} {sp : Sp} (F : FnG P w K mg base j f fd ps sp) (h : j ≤ k) : FnG P w K mg base k f fd ps sp :=
  ⟨F.len, fun A outer s H args us vs Q g hr he hb hv hs => F.go A outer s H args us vs Q g (hr.mono h) he hb hv hs⟩
/-- a def by its body; the body knows that no repr is under way -/
theorem okG {x qual : Str} {st : Stmt} {f : Addr} {fd : FuncData} {N ps : List Str} {k : Nat} {sp : Sp} (F : Fun K x qual st f fd) (S : FnScope N ps (defScope st))
    (len : ∀ vs H Q E, sp vs H Q E → vs.length = ps.length)
    (hbody : ∀ (cdv : Value) (A : Around) (outer : List Env) (s : Shared) (H : Hp) (vs : List V) (Q : VK), Gd (A.deeper (envOfC qual (defScope st) s.heap.objs.size f cdv)) →
      Room k (A.deeper (envOfC qual (defScope st) s.heap.objs.size f cdv)) → sp vs H Q E0 →
      ∃ t, PSs (cxOf CX0 P w K mg base N qual (defScope st) f cdv A outer s H E0).nox (defBody st) t ∧ t { nx := fun _ H' => Q .non H', rt := Q } (start N vs) H) :
    FnG P w K mg base (k + 1) f fd ps sp := by
  refine ⟨len, ?_⟩
  intro A outer s H args us vs Q hg hr e0 hb r hsp
  obtain ⟨oc, od, kV, doc, pm, an, cdv, ct, osl, rfl, lk, hcd⟩ := F.ex
  have stays : ∀ b o, base.get? b = some o → s.heap.get? b = some o := fun b o e => (e0.bs b o e).1
  have inK : K.In s.heap := e0.mod.kin.keeps stays
  have noL : s.heap.NoLimit := e0.mod.nolimit.keeps stays
  have kinds : ∀ y ∈ ps.zip us, (defScope st).names.lookup y.1 = some .local ∨ ((defScope st).names.lookup y.1 = some .cell ∧ ((cellsFrom (s.heap.objs.size + 1) (defScope st).names []).lookup y.1).isSome = true) := by
    rintro ⟨n, v⟩ hy
    have hn := (List.of_mem_zip hy).1
    cases S.par n hn with
    | inl q => exact .inl q
    | inr q => exact .inr ⟨q, PySem.W.cellsFrom_some _ _ _ (.inl q)⟩
  apply codeAny_call_function hr.depth (inK _ _ lk) rfl S.co S.gen rfl (PySem.W.codeRec_of inK hcd)
  apply hb
  apply wpAny_newFunctionEnv_cells S.kind kinds
  intro env he s1 x
  subst he
  refine ⟨noL.keeps x.toInCall.keep, codeAny_func ?_⟩
  have hgd : Gd (A.deeper (envOfC qual (defScope st) s.heap.objs.size f cdv)) := hg
  obtain ⟨t, ht0, hq⟩ := hbody cdv A outer s H vs Q hgd (hr.deeper _) hsp
  have ht := ht0.nox
  have I := inv_start (CX := CX0) (E := E0) (qual := qual) (f := f) (cd := cdv) S hr.hd e0 (len _ _ _ _ hsp) r x
  have done : ∀ {σ' : L2.St} {H' : Hp} {s' : Shared} {v : V} {u : Value}, Inv (cxOf CX0 P w K mg base N qual (defScope st) f cdv A outer s H E0) [] σ' H' s' → RelV v u → Q v H' → CE outer P w H s Q u s' := by
    intro σ' H' s' v u J rv q
    exact ⟨v, H', J.os, J.bare, J.base, J.hok, rv, q⟩
  apply wpAny_mono (ht.run [] s1 (start N vs) H _ I hq)
  · intro fl s' hs
    cases fl with
    | ret u => obtain ⟨v, σ', H', J, rv, q⟩ := hs; exact done J rv q
    | next => obtain ⟨σ', H', J, q⟩ := hs; exact done (v := V.non) J rfl q
    | brk => obtain ⟨_, _, _, q⟩ := hs; exact q.elim
    | cont => obtain ⟨_, _, _, q⟩ := hs; exact q.elim
  · intro e s' hs
    exact hs
end
section
variable {X : Cx} {k : Nat} {f : Addr} {fd : FuncData} {ps ks : List Str} {sp : Sp} {x : Str} {p pos : Pos} {e : Expr} {es : List Expr} {kws : List Keyword} {t tk : TA}
theorem runG {pins : List (Addr × Obj)} {σ : L2.St} {H : Hp} {s : Shared} {Q : VK} {args : Args} {us : List Value} {vs : List V} (F : FnG X.prog X.w X.K X.mg X.base k f fd ps sp) (hg : Gd X.A) (hr : Room k X.A)
    (I : Inv X pins σ H s) (hb : BindsTo s fd args (ps.zip us)) (r : Vals vs us) (h : sp vs H Q E0) : codeAny (model X.prog X.w) X.A (.call (.ref f) args)
      (fun rr s' => match rr with | .ok (.ret u) => EP X pins σ Q u s' | .ok _ => False | .error e => X.xe e s') s := by
  refine codeAny_mono (F.go X.A X.stack s H args us vs Q hg hr I.env0 hb r h) fun rr s' hq => ?_
  cases rr with
  | error er => exact hq.elim
  | ok fl =>
    cases fl with
    | ret u => exact I.after hq
    | _ => exact hq.elim
/-- f(e, ..) -/
theorem pe_callG (F : FnG X.prog X.w X.K X.mg X.base k f fd ps sp) (hgd : Gd X.A) (hr : Room k X.A) (hg : Gl X x) (hm : X.mg x = some (.ref f)) (hk : PySem.W.keepIn X.K (.ref f) = true) (hb : Binds X.K fd ps [])
    (ha : PA X (e :: es) t) (hdb : (x == ("__debug__" : Str)) = false := by decide) (he : starEach (e :: es) X.env = (false, eval e X.env) :: starEach es X.env := by rfl) (hpl : (backTo pos (starEach es X.env)).any (·.1) = false := by rfl) :
    PE X (.Call (.Name x p) (e :: es) [] pos) (fun σ H Q => t σ H fun vs H1 => sp vs H1 Q E0) := by
  constructor
  intro pins s σ H Q I h
  refine wpAny_Call_Name_kw (ld_glob I hg hm ?_ hdb)
  refine PySem.W.callWith_K (h₀ := X.base) I.ok.mod.kin hk (thn (ha.run pos pins s σ H _ I h) fun us s1 z => ?_) he hpl
  obtain ⟨vs, H1, I1, r, q⟩ := z
  refine ⟨I1.kIn, wpAny_call ?_⟩
  have hl : us.length = ps.length := r.length.symm.trans (F.len _ _ _ _ q)
  have bb : BindsTo s1 fd ⟨us, []⟩ (ps.zip us) := by
    have z := hb s1 us I1.kIn (by rw [List.append_nil]; exact hl)
    rwa [List.append_nil] at z
  exact runG F hgd hr I1 bb r q
/-- the promise of a call whose arguments all come by names: g puts them in the parameters' order -/
structure KwOnly (K : PySem.W.Frag) (fd : FuncData) (ps ks : List Str) (g : {α : Type} → List α → List α) : Prop where
  to : ∀ (s : Shared) (ws : List Value), K.In s.heap → ws.length = ks.length → BindsTo s fd ⟨[], ks.zip ws⟩ (ps.zip (g ws))
  rel : ∀ {zs : List V} {ws : List Value}, Vals zs ws → zs.length = ks.length → Vals (g zs) (g ws)
theorem pe_kwG {g : {α : Type} → List α → List α} (F : FnG X.prog X.w X.K X.mg X.base k f fd ps sp) (hgd : Gd X.A) (hr : Room k X.A) (hg : Gl X x) (hm : X.mg x = some (.ref f)) (hk : PySem.W.keepIn X.K (.ref f) = true) (hb : KwOnly X.K fd ps ks g)
    (hkw : PK X kws tk) (hall : (backToKw pos (keywordEach kws X.env)).all (·.1.isSome) = true := by rfl) (hks : (backToKw pos (keywordEach kws X.env)).filterMap (·.1) = ks := by rfl) (hdb : (x == ("__debug__" : Str)) = false := by decide)
    (hpl : ((backTo pos (starEach [] X.env)).any (·.1) || (backToKw pos (keywordEach kws X.env)).any (·.1.isNone)) = false := by rfl) :
    PE X (.Call (.Name x p) [] kws pos) (fun σ H Q => tk σ H fun zs H1 => zs.length = ks.length ∧ sp (g zs) H1 Q E0) := by
  constructor
  intro pins s σ H Q I h
  refine wpAny_Call_Name_kw (ld_glob I hg hm ?_ hdb)
  refine PySem.W.callWith_KW0 (h₀ := X.base) I.ok.mod.kin hk hall (thn (hkw.run pos pins s σ H _ I h) fun ws s1 z => ?_) hpl
  obtain ⟨zs, H1, I1, rz, l1, q⟩ := z
  refine ⟨I1.kIn, ?_⟩
  rw [hks]
  exact wpAny_call (runG F hgd hr I1 (hb.to s1 ws I1.kIn (rz.length.symm.trans l1)) (hb.rel rz l1) q)
/-! ## repr of data -/
def rRepr (K : PySem.W.Frag) : List V → Hp → VK → Prop := fun xs H Q => ∃ (v : V) (d : PyData), xs = [v] ∧ Dp K H v d ∧ d.showable = true ∧ d.hasDict = false ∧ d.shown.length ≤ sizeLine ∧ d.depth ≤ 50 ∧ Q (.str d.shown) H
theorem call_reprD (hgd : Gd X.A) (hr : Room k X.A) : CallR X (.builtin "repr") (rRepr X.K) := by
  intro pins s σ H xs us Q I r h
  obtain ⟨v, d, rfl, hd, hs, hn, hz, hdp, q⟩ := h
  obtain ⟨u, rfl, ru⟩ := vals1 r
  obtain ⟨as, rd⟩ := Dp.reads I d v u hd ru
  have hu := hr.units
  have fin : ∀ (a : Addr), u = .ref a → wpAny (model X.prog X.w) X.A (call (.builtin "repr") [u]) (EP X pins σ Q) X.xe s := by
    intro a e
    subst e
    refine repr_of_reads' rd hs (PyData.noDict_hsm hn) hgd (by omega) (fun _ _ e => e) (fun h' u tk hk => ?_) hz
    exact ⟨.str d.shown, H, I.kept (t' := tk) hk, ⟨_, rfl⟩, q⟩
  cases hd with
  | non => cases ru; exact PySem.P.repr_of_none ⟨.str _, H, I.tok _, ⟨_, rfl⟩, by simpa only [PyData.shown] using q⟩
  | bl b => cases ru; exact PySem.P.repr_of_bool ⟨.str _, H, I.tok _, ⟨_, rfl⟩, by simpa only [PyData.shown] using q⟩
  | int i =>
    obtain ⟨t, rfl⟩ := ru
    exact PySem.P.repr_of_int (by simpa [PyData.showable] using hs) ⟨.str _, H, I.tok _, ⟨_, rfl⟩, by simpa only [PyData.shown] using q⟩
  | str y =>
    obtain ⟨t, rfl⟩ := ru
    exact PySem.P.repr_of_str ⟨.str _, H, I.tok _, ⟨_, rfl⟩, by simpa only [PyData.shown] using q⟩ (by simpa only [PyData.shown] using hz)
  | @lst a xs ds h1 h2 => exact fin a ru
  | @tup a xs ds h1 h2 => exact fin a ru
end
end KG
set_option Elab.async false
set_option linter.all false
set_option maxRecDepth 100000
set_option maxHeartbeats 4000000
/-! ## a lambda with parameters and captured names, handed to a def that calls it -/
namespace KL
open PySem PySem.Spec PyProof.Rows L2 LamX NdefX KG
abbrev lamO (F : NF) (body : Expr) (pm ctv : Value) : Obj := PySem.W.kla_obj F.name F.qual F.params body F.scope F.cl pm F.c ctv
/-- the function object, its captured cells: known of the state, not tracked -/
structure LamAt (F : NF) (ob : Obj) (f : Addr) (fr : List Str) (ws : List (Option V)) (h : Heap) (H : Hp) (outer : List Env) : Prop where
  fn : h.get? f = some ob
  fnN : H f = none
  fnF : f ∉ frs outer
  cells : CellsAt F.cl fr ws h H
  cellF : ∀ y c, F.cl.lookup y = some c → c ∉ frs outer
section
variable {X : Cx} {pins : List (Addr × Obj)} {σ : L2.St} {H : Hp} {s : Shared} {F : NF} {ob : Obj} {f : Addr} {fr : List Str} {ws : List (Option V)}
theorem old_not_stack {b : Addr} {o : Obj} (I : Inv X pins σ H s) (h : X.s_0.heap.get? b = some o) (n : b ∉ X.fs) : b ∉ frs X.stack := fun z => by
  cases List.mem_cons.mp (I.stkSub b z) with
  | inl e =>
    have h1 := Heap.lt_size h
    have h2 := I.ok.above
    rw [e] at h1
    exact absurd (Nat.lt_of_lt_of_le h1 h2) (Nat.lt_irrefl _)
  | inr e => exact n e
theorem LamAt.later (L : LamAt F ob f fr ws X.s_0.heap X.H_0 X.outer) (hx : X.ex = []) (I : Inv X pins σ H s) : LamAt F ob f fr ws s.heap H X.stack := by
  have nx : ∀ b, b ∉ X.ex := fun b z => by
    rw [hx] at z
    cases z
  refine ⟨I.base.keep f ob L.fn L.fnN L.fnF (nx f), I.base.free f ob L.fn L.fnN (nx f), old_not_stack I L.fn L.fnF, L.cells.later L.cellF (fun _ c _ => nx c) I, fun y c e => ?_⟩
  obtain ⟨_, v, o, ho, _⟩ := L.cells.all y c e
  exact old_not_stack I ho (L.cellF y c e)
end
/-- the call of the lambda -/
theorem lam_run {P : Program} {w : World} {K : PySem.W.Frag} {mg : Str → Option Value} {base : Heap} {N ps fr : List Str} {F : NF} {f : Addr} {A : Around} {outer : List Env} {s : Shared} {H : Hp} {us : List Value} {vs : List V} {ws : List (Option V)} {body : Expr} {pm ctv : Value} {k : Nat} {tb : TE} {Q : VK}
    (S : NScope N ps fr F.scope) (hr : Room (k + 1) A) (e0 : Env0 P w K mg base A outer s H) (L : LamAt F (lamO F body pm ctv) f fr ws s.heap H outer) (hc : H F.c = some (CodeO F.c F.qual))
    (hb : bindArgs (PySem.W.kla_fn F.name F.qual F.params body F.scope F.cl pm (.ref F.c) ctv) ⟨us, []⟩ = pure (ps.zip us)) (r : Vals vs us) (hl : vs.length = ps.length)
    (hbody : Room k (A.deeper (envF F f s.heap.objs.size)) → PE (ncx CX0 P w K mg base N F f A outer s H E0) body tb) (ht : tb (startF N vs ws) H Q) :
    codeAny (model P w) A (.call (.ref f) ⟨us, []⟩) (CR CX0 outer P w H s Q E0) s := by
  have lim : s.heap.NoLimit := e0.mod.nolimit.keeps fun b o e => (e0.bs b o e).1
  refine PySem.W.kla_callFunE hr.depth L.fn rfl S.co S.gen rfl (codeO_at e0.hok hc) ?_
  rw [hb]
  refine wpAny_pure (wpAny_newFunctionEnv S.nocell (fun y hy => S.par y.1 (List.of_mem_zip hy).1) (fun h₁ hns hsb => ?_) S.kind)
  refine ⟨lim.fresh _ hsb, ?_⟩
  show codeAny _ _ (.expr body (envF F f s.heap.objs.size)) _ _
  have kp : ∀ b o, s.heap.get? b = some o → h₁.get? b = some o := by
    intro b o e
    exact hsb.extBut b o (Nat.ne_of_lt (Heap.lt_size e)) (Heap.get?_push_of_some _ e)
  have J := inv_startN (CX := CX0) (E := E0) (N := N) (F := F) (f := f) (tk := s.toks + (ps.zip us).length) S hr.hd e0 hl r L.cells hns kp
  refine PySem.W.kla_codeExpr (wpAny_mono ((hbody (hr.deeper _)).run [] _ _ H Q J ht) (fun v s' hq => ?_) fun e s' hq => hq)
  obtain ⟨z, H', J', rv, q⟩ := hq
  exact ⟨z, H', J'.os, J'.bare, J'.base, J'.hok, rv, q⟩
/-- the promise of a def that is handed such a lambda -/
structure FnL (P : Program) (w : World) (K : PySem.W.Frag) (mg : Str → Option Value) (base : Heap) (F : NF) (ob : Obj) (fl : Addr) (fr : List Str) (ws : List (Option V)) (k : Nat) (f : Addr) (fd : FuncData) (ps : List Str) (sp : Sp) : Prop where
  len : ∀ vs H Q E, sp vs H Q E → vs.length = ps.length
  go : ∀ (A : Around) (outer : List Env) (s : Shared) (H : Hp) (args : Args) (us : List Value) (vs : List V) (Q : VK),
    Room k A → Env0 P w K mg base A outer s H → LamAt F ob fl fr ws s.heap H outer → BindsTo s fd args (ps.zip us) → Vals vs us → sp vs H Q E0 →
      codeAny (model P w) A (.call (.ref f) args) (CR CX0 outer P w H s Q E0) s
theorem okL {P : Program} {w : World} {K : PySem.W.Frag} {mg : Str → Option Value} {base : Heap} {Fl : NF} {ob : Obj} {fl : Addr} {fr : List Str} {ws : List (Option V)} {x qual : Str} {st : Stmt} {f : Addr} {fd : FuncData} {N ps : List Str} {k : Nat} {sp : Sp} (F : Fun K x qual st f fd) (S : FnScope N ps (defScope st))
    (len : ∀ vs H Q E, sp vs H Q E → vs.length = ps.length)
    (hbody : ∀ (cdv : Value) (A : Around) (outer : List Env) (s : Shared) (H : Hp) (vs : List V) (Q : VK), Room k (A.deeper (envOfC qual (defScope st) s.heap.objs.size f cdv)) → LamAt Fl ob fl fr ws s.heap H outer → sp vs H Q E0 →
      ∃ t, PSs (cxOf CX0 P w K mg base N qual (defScope st) f cdv A outer s H E0).nox (defBody st) t ∧ t { nx := fun _ H' => Q .non H', rt := Q } (start N vs) H) :
    FnL P w K mg base Fl ob fl fr ws (k + 1) f fd ps sp := by
  refine ⟨len, ?_⟩
  intro A outer s H args us vs Q hr e0 hL hb r hsp
  obtain ⟨oc, od, kV, doc, pm, an, cdv, ct, osl, rfl, lk, hcd⟩ := F.ex
  have stays : ∀ b o, base.get? b = some o → s.heap.get? b = some o := fun b o e => (e0.bs b o e).1
  have inK : K.In s.heap := e0.mod.kin.keeps stays
  have noL : s.heap.NoLimit := e0.mod.nolimit.keeps stays
  have kinds : ∀ y ∈ ps.zip us, (defScope st).names.lookup y.1 = some .local ∨ ((defScope st).names.lookup y.1 = some .cell ∧ ((cellsFrom (s.heap.objs.size + 1) (defScope st).names []).lookup y.1).isSome = true) := by
    rintro ⟨n, v⟩ hy
    have hn := (List.of_mem_zip hy).1
    cases S.par n hn with
    | inl q => exact .inl q
    | inr q => exact .inr ⟨q, PySem.W.cellsFrom_some _ _ _ (.inl q)⟩
  apply codeAny_call_function hr.depth (inK _ _ lk) rfl S.co S.gen rfl (PySem.W.codeRec_of inK hcd)
  apply hb
  apply wpAny_newFunctionEnv_cells S.kind kinds
  intro env he s1 x
  subst he
  refine ⟨noL.keeps x.toInCall.keep, codeAny_func ?_⟩
  obtain ⟨t, ht0, hq⟩ := hbody cdv A outer s H vs Q (hr.deeper _) hL hsp
  have ht := ht0.nox
  have I := inv_start (CX := CX0) (E := E0) (qual := qual) (f := f) (cd := cdv) S hr.hd e0 (len _ _ _ _ hsp) r x
  have done : ∀ {σ' : L2.St} {H' : Hp} {s' : Shared} {v : V} {u : Value}, Inv (cxOf CX0 P w K mg base N qual (defScope st) f cdv A outer s H E0) [] σ' H' s' → L2.RelV v u → Q v H' → CE outer P w H s Q u s' := by
    intro σ' H' s' v u J rv q
    exact ⟨v, H', J.os, J.bare, J.base, J.hok, rv, q⟩
  apply wpAny_mono (ht.run [] s1 (start N vs) H _ I hq)
  · intro fl s' hs
    cases fl with
    | ret u => obtain ⟨v, σ', H', J, rv, q⟩ := hs; exact done J rv q
    | next => obtain ⟨σ', H', J, q⟩ := hs; exact done (v := V.non) J rfl q
    | brk => obtain ⟨_, _, _, q⟩ := hs; exact q.elim
    | cont => obtain ⟨_, _, _, q⟩ := hs; exact q.elim
  · intro e s' hs
    exact hs
section
variable {X : Cx} {F : NF} {ob : Obj} {fl : Addr} {fr : List Str} {ws : List (Option V)} {k : Nat} {f : Addr} {fd : FuncData} {ps : List Str} {sp : Sp} {x : Str} {p pos : Pos} {e : Expr} {es : List Expr} {t : TA}
theorem afterL {pins : List (Addr × Obj)} {σ : L2.St} {H : Hp} {s : Shared} {Q : VK} {c : Code} (I : Inv X pins σ H s) (h : codeAny (model X.prog X.w) X.A c (CR CX0 X.stack X.prog X.w H s Q E0) s) :
    codeAny (model X.prog X.w) X.A c (fun rr s' => match rr with | .ok (.ret u) => EP X pins σ Q u s' | .ok _ => False | .error e => X.xe e s') s := by
  refine codeAny_mono h fun rr s' hq => ?_
  cases rr with
  | error er => exact hq.elim
  | ok fl =>
    cases fl with
    | ret u => exact I.after hq
    | _ => exact hq.elim
/-- f(e, ..) in a frame that itself was handed the lambda -/
theorem pe_callLL (G : FnL X.prog X.w X.K X.mg X.base F ob fl fr ws k f fd ps sp) (L : LamAt F ob fl fr ws X.s_0.heap X.H_0 X.outer) (hx : X.ex = []) (hr : Room k X.A) (hg : Gl X x) (hm : X.mg x = some (.ref f)) (hk : PySem.W.keepIn X.K (.ref f) = true) (hb : Binds X.K fd ps [])
    (ha : PA X (e :: es) t) (hdb : (x == ("__debug__" : Str)) = false := by decide) (he : starEach (e :: es) X.env = (false, eval e X.env) :: starEach es X.env := by rfl) (hpl : (backTo pos (starEach es X.env)).any (·.1) = false := by rfl) :
    PE X (.Call (.Name x p) (e :: es) [] pos) (fun σ H Q => t σ H fun vs H1 => sp vs H1 Q E0) := by
  constructor
  intro pins s σ H Q I h
  refine wpAny_Call_Name_kw (ld_glob I hg hm ?_ hdb)
  refine PySem.W.callWith_K (h₀ := X.base) I.ok.mod.kin hk (thn (ha.run pos pins s σ H _ I h) fun us s1 z => ?_) he hpl
  obtain ⟨vs, H1, I1, r, q⟩ := z
  refine ⟨I1.kIn, wpAny_call ?_⟩
  have hl : us.length = ps.length := r.length.symm.trans (G.len _ _ _ _ q)
  have bb : BindsTo s1 fd ⟨us, []⟩ (ps.zip us) := by
    have z := hb s1 us I1.kIn (by rw [List.append_nil]; exact hl)
    rwa [List.append_nil] at z
  exact afterL I1 (G.go X.A X.stack s1 H1 ⟨us, []⟩ us vs Q hr I1.env0 (L.later hx I1) bb r q)
/-- x(e, ..), x the name that holds the lambda -/
theorem pe_lamL {N lps : List Str} {body : Expr} {pm ctv : Value} {tb : TE} {i : Nat} (S : NScope N lps fr F.scope) (L : LamAt F (lamO F body pm ctv) fl fr ws X.s_0.heap X.H_0 X.outer) (hx : X.ex = []) (hr : Room (k + 1) X.A)
    (hbind : ∀ us : List Value, us.length = lps.length → bindArgs (PySem.W.kla_fn F.name F.qual F.params body F.scope F.cl pm (.ref F.c) ctv) ⟨us, []⟩ = pure (lps.zip us))
    (hbody : ∀ (s : Shared) (H : Hp), Room k (X.A.deeper (envF F fl s.heap.objs.size)) → PE (ncx CX0 X.prog X.w X.K X.mg X.base N F fl X.A X.stack s H E0) body tb)
    (hN : X.N[i]? = some x) (hv : Vis X.env.scope x) (ha : PA X (e :: es) t) (hd : (x == ("__debug__" : Str)) = false := by decide) (hcd : (x == ("__classdict__" : Str)) = false := by decide)
    (he : starEach (e :: es) X.env = (false, eval e X.env) :: starEach es X.env := by rfl) (hpl : (backTo pos (starEach es X.env)).any (·.1) = false := by rfl) :
    PE X (.Call (.Name x p) (e :: es) [] pos) (fun σ H Q => σ[i]? = some (some (.ref fl)) ∧ t σ H fun vs H1 => vs.length = lps.length ∧ H1 F.c = some (CodeO F.c F.qual) ∧ tb (startF N vs ws) H1 Q) := by
  constructor
  intro pins s σ H Q I h
  obtain ⟨hs, ht⟩ := h
  refine wpAny_Call_Name_kw (thn ((pe_var (pos := p) hN hv hd hcd).run pins s σ H (fun v H1 => v = .ref fl ∧ H1 = H) I ⟨.ref fl, hs, rfl, rfl⟩) fun u s1 z => ?_)
  obtain ⟨v, H1, I1, r1, ev, eH⟩ := z
  subst ev
  rw [eH] at I1
  obtain rfl : u = Value.ref fl := r1
  refine PySem.W.callWith_F (first := []) ⟨_, _, _, _, (L.later hx I1).fn⟩ (thn (ha.run pos pins s1 σ H _ I1 ht) fun us s2 z => ?_) he hpl
  obtain ⟨vs, H2, I2, r, l1, hc, q⟩ := z
  refine ⟨⟨_, _, _, _, (L.later hx I2).fn⟩, wpAny_call ?_⟩
  exact afterL I2 (lam_run S hr I2.env0 (L.later hx I2) hc (hbind us (r.length.symm.trans l1)) r l1 (hbody s2 H2) q)
end
/-! ### the def that makes the lambda and hands it on -/
/-- f(e, lambda ..): the lambda is made, its code object is new or known of the table -/
theorem pe_makeL {X : Cx} {T : List (Addr × Str)} {c P : Addr} {lparams : Arguments} {body : Expr} {lscope : Scope} {lpos : Pos} {fr : List Str} {js : List Nat} {k : Nat} {f : Addr} {fd : FuncData} {ps : List Str} {sp : NF → Addr → L2.St → Sp} {x : Str} {p pos : Pos} {e : Expr} {te : TE}
    (TB : TabB X.base X.mg c P) (hcode : X.env.code = .ref c) (hmT : (P, X.env.qual ++ "<lambda>") ∈ T) (huT : ∀ p ∈ T, p.1 = P → p.2 = X.env.qual ++ "<lambda>") (hdef : defaultsOf lparams X.env = ([], []))
    (hfree : ∀ y ∈ lscope.names, y.2 = .free → X.env.scope.names.lookup y.1 = some .cell) (hfr : ∀ y ∈ fr, (y, NameKind.free) ∈ lscope.names) (hjs : js.map (fun j => X.N[j]?) = fr.map some) (hfn : ∀ y, X.fn y = true) (hex : X.ex = [])
    (G : ∀ (F : NF) (fl : Addr) (pm ctv : Value) (σ : L2.St), F.name = "<lambda>" → F.qual = X.env.qual ++ "<lambda>" → F.params = lparams → F.scope = lscope →
      FnL X.prog X.w X.K X.mg X.base F (lamO F body pm ctv) fl fr (js.map (slotAt σ)) k f fd ps (sp F fl σ))
    (hr : Room k X.A) (hg : Gl X x) (hm : X.mg x = some (.ref f)) (hk : PySem.W.keepIn X.K (.ref f) = true) (hb : Binds X.K fd ps []) (he : PE X e te)
    (hdb : (x == ("__debug__" : Str)) = false := by decide) (hst : starEach [e, .Lambda lparams body lscope lpos] X.env = (false, eval e X.env) :: starEach [.Lambda lparams body lscope lpos] X.env := by rfl)
    (hst2 : starEach [.Lambda lparams body lscope lpos] X.env = (false, eval (.Lambda lparams body lscope lpos) X.env) :: starEach [] X.env := by rfl)
    (hpl : (backTo pos (starEach [.Lambda lparams body lscope lpos] X.env)).any (·.1) = false := by rfl) :
    PE X (.Call (.Name x p) [e, .Lambda lparams body lscope lpos] [] pos) (fun σ H Q => te σ H fun v H1 => Tabs T H1 ∧
      ∀ (F : NF) (fl : Addr) (H2 : Hp), ExtN H1 H2 → Tabs T H2 → H2 F.c = some (CodeO F.c F.qual) → sp F fl σ [v, .ref fl] H2 Q E0) := by
  constructor
  intro pins s σ H Q I h
  have hfree' : ∀ y ∈ lscope.names, y.2 = .free → ∃ c, X.env.cells.lookup y.1 = some c := fun y hy ey => I.ok.has y.1 (.inl (hfree y hy ey))
  refine wpAny_Call_Name_kw (ld_glob I hg hm ?_ hdb)
  refine PySem.W.callWith_K (h₀ := X.base) I.ok.mod.kin hk ?_ hst hpl
  rw [hst]
  show wpAny _ _ (spliced ((false, eval e X.env) :: backTo pos (starEach [.Lambda lparams body lscope lpos] X.env))) _ _ s
  refine Calls.spliced_cons (thn (he.run pins s σ H _ I h) fun u s1 z => ?_)
  obtain ⟨v, H1, I1, r1, hT, q⟩ := z
  rw [hst2]
  show wpAny _ _ (spliced ((false, eval (.Lambda lparams body lscope lpos) X.env) :: backTo pos (starEach [] X.env))) _ _ s1
  refine Calls.spliced_cons (lam_make2 I1 TB hcode hmT huT hT hdef hfree' fun fl c' pm ctv H2 s2 I2 hE hT2 hobj hn hst hco => ?_)
  refine Calls.spliced_nil ⟨I2.kIn, wpAny_call ?_⟩
  obtain ⟨F, eF⟩ : ∃ F : NF, F = ⟨"<lambda>", X.env.qual ++ "<lambda>", lparams, [], lscope, cloFrom X.env.cells lscope.names [], c'⟩ := ⟨_, rfl⟩
  have cp : Caps X F.cl fr js := by
    rw [eF]
    exact Caps.made I2.ok (fun y hy ey => .inl (hfree y hy ey)) hfr hjs
  have C := cells_of I2 cp
  have L : LamAt F (lamO F body pm ctv) fl fr (js.map (slotAt σ)) s2.heap H2 X.stack := by
    refine ⟨by rw [eF]; exact hobj, hn, hst, C, fun y cc ey z => ?_⟩
    have ey' : X.env.cells.lookup y = some cc := by
      rw [eF] at ey
      exact clo_cm (names := lscope.names) hfree' ey
    cases List.mem_cons.mp (I2.stkSub cc z) with
    | inl e1 => exact I2.cne y cc ey' e1
    | inr e1 =>
      have h1 := I2.ok.cab y cc (hfn y) ey'
      obtain ⟨_, o, ho, _⟩ := I2.ok.funs.mem e1
      exact absurd (Nat.lt_of_lt_of_le (Heap.lt_size ho) h1) (Nat.lt_irrefl _)
  have hsp := q F fl H2 hE hT2 (by rw [eF]; exact hco)
  have G1 := G F fl pm ctv σ (by rw [eF]) (by rw [eF]) (by rw [eF]) (by rw [eF])
  have r2 : Vals [v, .ref fl] [u, .ref fl] := .cons r1 (.cons rfl .nil)
  have bb : BindsTo s2 fd ⟨[u, .ref fl], []⟩ (ps.zip [u, .ref fl]) := by
    have z := hb s2 [u, .ref fl] I2.kIn (by rw [List.append_nil]; exact r2.length.symm.trans (G1.len _ _ _ _ hsp))
    rwa [List.append_nil] at z
  exact afterL I2 (G1.go X.A X.stack s2 H2 ⟨[u, .ref fl], []⟩ [u, .ref fl] [v, .ref fl] Q hr I2.env0 L bb r2 hsp)
end KL
set_option Elab.async false
set_option linter.all false
set_option maxRecDepth 100000
set_option maxHeartbeats 4000000
/-! ## the law's end: one table of code objects, no repr under way -/
namespace KG
open PySem PySem.Spec PyProof.Rows L2 LamX
/-- the heap that is told of at the entry: the table, the script perhaps -/
def entryH (PT a : Addr) (u : Option HO) : Hp := fun b => if b = PT then some (.tbl #[]) else if b = a then u else none
abbrev tab0 : Obj := { cls := .none, data := .fields #[] }
theorem end_core {P : Program} {w : World} {K : PySem.W.Frag} {mg mb : Str → Option Value} {k : Nat} {fa a c PT : Addr} {fd : FuncData} {x : Str} {sp : Sp} {s : Shared} {vs : List Value} {u : Option HO}
    (inK : K.In s.heap) (gl : s.heap.Ns mainGlobals mg) (bl : s.heap.Ns builtinsNs mb) (bb : ∀ x : Str, x ≠ "__name__" → mb x = bootBuiltins x) (nl : s.heap.NoLimit) (ng : s.gens = #[])
    (tab : s.heap.get? PT = some tab0) (noK : K.lookup PT = none) (cd : PySem.W.CodeHd s.heap c PT)
    (bm : ∃ (bm : Addr) (ob : Obj), mg "__builtins__" = some (.ref bm) ∧ bm ≠ builtinsNs ∧ s.heap.get? bm = some ob ∧ ob.cls = .type "module" ∧ ob.dict = some builtinsNs ∧ ob.data = .plain)
    (scr : s.heap.get? a = some { cls := .type "list", data := .seq vs.toArray }) (room : Room k callerA)
    (F : ∀ base : Heap, K.In base → base.Ns mainGlobals mg → TabB base mg c PT → FnG P w K mg base k fa fd [x] sp) (bnd : ∀ (s : Shared) (u : Value), BindsTo s fd ⟨[u], []⟩ [(x, u)])
    (hsp : sp [.ref a] (entryH PT a u) (fun v _ => v = .bl true) E0) (hok : HOk P w (entryH PT a u) s.heap) (hu : u = none ∨ (K.lookup a = none ∧ ∃ o xs, u = some (.frz o (.lst xs)))) :
    codeAny (model P w) callerA (.call (.ref fa) ⟨[.ref a], []⟩) (fun r s' => r = .ok (.ret (.bool true)) ∧ OldK s.heap s'.heap ∧ s'.os = s.os ∧ AllBare s'.gens) s := by
  have aP : a ≠ PT := fun z => by
    rw [z, tab] at scr
    cases scr
  -- what is neither a list nor the table is not told of
  have free : ∀ {b : Addr} {o : Obj}, s.heap.get? b = some o → (∀ xs n, o.data ≠ .seq xs n) → o.data ≠ .fields #[] → entryH PT a u b = none := by
    intro b o e h1 h2
    unfold entryH
    by_cases e1 : b = PT
    · rw [e1, tab] at e
      cases e
      exact absurd rfl h2
    · rw [if_neg e1]
      by_cases e2 : b = a
      · rw [e2, scr] at e
        cases e
        exact absurd rfl (h1 _ _)
      · rw [if_neg e2]
  have there : ∀ {b : Addr} {o : Obj}, s.heap.get? b = some o → entryH PT a u b = none → (hidT s.heap (entryH PT a u)).get? b = some o := fun e n => hidT_get e n
  have names : ∀ {b : Addr} {m : Str → Option Value}, s.heap.Ns b m → (hidT s.heap (entryH PT a u)).Ns b m := by
    rintro b m ⟨o, es, ep, e, d, r⟩
    exact ⟨o, es, ep, there e (free e (fun _ _ z => by rw [d] at z; cases z) (fun z => by rw [d] at z; cases z)), d, r⟩
  have baseK : K.In (hidT s.heap (entryH PT a u)) := by
    intro b o e
    refine there (inK b o e) ?_
    unfold entryH
    by_cases e1 : b = PT
    · rw [e1, noK] at e
      cases e
    · rw [if_neg e1]
      by_cases e2 : b = a
      · rw [if_pos e2]
        rcases hu with hu | ⟨hu, _⟩
        · exact hu
        · rw [e2, hu] at e
          cases e
      · rw [if_neg e2]
  have limit : (hidT s.heap (entryH PT a u)).NoLimit := by
    obtain ⟨mc, h1, h2⟩ := nl
    exact ⟨mc, names h1, h2⟩
  have gP : mainGlobals ≠ PT := fun z => by
    obtain ⟨o, es, ep, e, hd, _⟩ := gl
    rw [z, tab] at e
    cases e
    cases hd
  have TB : TabB (hidT s.heap (entryH PT a u)) mg c PT := by
    refine ⟨?_, ?_, gP⟩
    · obtain ⟨o, us, file, tf, flags, tg, inF, text, tt, e1, q1, q2, q3, q4, q5, q6, q7, q8, hne⟩ := cd
      refine ⟨o, us, file, tf, flags, tg, inF, text, tt, there e1 (free e1 (fun _ _ z => by rw [q2] at z; cases z) (fun z => ?_)), q1, q2, q3, q4, q5, q6, q7, q8, hne⟩
      rw [q2] at z
      cases z
      simp at q3
    · obtain ⟨m0, ob, b1, b2, b3, b4, b5, b6⟩ := bm
      refine ⟨m0, ob, b1, b2, fun z => ?_, fun z => ?_, there b3 (free b3 (fun _ _ z => by rw [b6] at z; cases z) (fun z => by rw [b6] at z; cases z)), b4, b5, b6⟩
      · obtain ⟨o, es, ep, e, hd, _⟩ := gl
        rw [z, e] at b3
        cases b3
        rw [hd] at b6
        cases b6
      · rw [z, tab] at b3
        cases b3
        cases b6
  have e0 : Env0 P w K mg (hidT s.heap (entryH PT a u)) callerA [] s (entryH PT a u) := by
    refine ⟨rfl, ⟨baseK, names gl, ⟨mb, names bl, bb⟩, limit⟩, fun b o e => of_hidT e, Nat.le_of_eq (hidT_size _ _), trivial, ?_, hok, .of_eq ng⟩
    intro b z
    cases z
  refine codeAny_mono ((F _ baseK (names gl) TB).go callerA [] s _ ⟨[.ref a], []⟩ [.ref a] [.ref a] _ rfl room e0 (bnd s (.ref a)) (.cons rfl .nil) hsp) ?_
  intro r s' h
  match r, h with
  | .ok (.ret _), ⟨v, H', os, bare, un, hok', rv, q⟩ =>
    have q' : v = .bl true := q
    subst q'
    cases rv
    have kept : ∀ b o, b ≠ PT → s.heap.get? b = some o → s'.heap.get? b = some o := by
      intro b o nb e
      by_cases e2 : b = a
      · rcases hu with hu | ⟨_, o0, xs, hu⟩
        · refine un.keep b o e ?_ (fun z => nomatch z) (fun z => nomatch z)
          unfold entryH
          rw [if_neg nb, if_pos e2, hu]
        · have z : entryH PT a u b = some (.frz o0 (.lst xs)) := by
            unfold entryH
            rw [if_neg nb, if_pos e2, hu]
          have z2 := un.frzs b o0 _ z
          obtain ⟨g1, _⟩ := hok b _ z
          obtain ⟨g2, _⟩ := hok' b _ z2
          rw [e] at g1
          cases g1
          exact g2
      · refine un.keep b o e ?_ (fun z => nomatch z) (fun z => nomatch z)
        unfold entryH
        rw [if_neg nb, if_neg e2]
    obtain ⟨more, zt⟩ := un.tbls PT #[] (by unfold entryH; rw [if_pos rfl])
    have grown : s'.heap.get? PT = some { cls := .none, data := .fields (#[] ++ more) } := hok' PT _ zt
    refine ⟨rfl, ⟨fun b o e => ?_, fun b o e => ?_⟩, os, bare⟩
    · by_cases hb : b = PT
      · rw [hb] at e ⊢
        rw [tab] at e
        cases e
        exact .inr (.inl ⟨(cd.tab tab).isCodeTable, rfl, #[], more, rfl, grown⟩)
      · exact .inl (kept b o hb e)
    · by_cases hb : b = PT
      · rw [hb]
        exact ⟨_, grown⟩
      · exact ⟨o, kept b o hb e⟩
  | .error _, h => exact h.elim
theorem end_one {P : Program} {w : World} {K : PySem.W.Frag} {mg mb : Str → Option Value} {k : Nat} {fa a c PT : Addr} {fd : FuncData} {x : Str} {sp : Sp} {s : Shared} {vs : List Value} {ns : List Int}
    (inK : K.In s.heap) (gl : s.heap.Ns mainGlobals mg) (bl : s.heap.Ns builtinsNs mb) (bb : ∀ x : Str, x ≠ "__name__" → mb x = bootBuiltins x) (nl : s.heap.NoLimit) (ng : s.gens = #[])
    (tab : s.heap.get? PT = some tab0) (noK : K.lookup PT = none) (cd : PySem.W.CodeHd s.heap c PT)
    (bm : ∃ (bm : Addr) (ob : Obj), mg "__builtins__" = some (.ref bm) ∧ bm ≠ builtinsNs ∧ s.heap.get? bm = some ob ∧ ob.cls = .type "module" ∧ ob.dict = some builtinsNs ∧ ob.data = .plain)
    (scr : s.heap.get? a = some { cls := .type "list", data := .seq vs.toArray }) (hi : IntsAre vs ns) (hl : ns.length ≤ sizeLine) (room : Room k callerA)
    (F : ∀ base : Heap, K.In base → base.Ns mainGlobals mg → TabB base mg c PT → FnG P w K mg base k fa fd [x] sp) (bnd : ∀ (s : Shared) (u : Value), BindsTo s fd ⟨[u], []⟩ [(x, u)])
    (hsp : ∀ H : Hp, H PT = some (.tbl #[]) → SqL K H a (ns.map V.int) → sp [.ref a] H (fun v _ => v = .bl true) E0) :
    codeAny (model P w) callerA (.call (.ref fa) ⟨[.ref a], []⟩) (fun r s' => r = .ok (.ret (.bool true)) ∧ OldK s.heap s'.heap ∧ s'.os = s.os ∧ AllBare s'.gens) s := by
  have rv := vals_ints hi
  have ln := hi.length
  have tP : ∀ u : Option HO, entryH PT a u PT = some (.tbl #[]) := fun u => by
    unfold entryH
    rw [if_pos rfl]
  have aP : a ≠ PT := fun z => by
    rw [z, tab] at scr
    cases scr
  have aH : ∀ u : Option HO, entryH PT a u a = u := fun u => by
    unfold entryH
    rw [if_neg aP, if_pos rfl]
  have others : ∀ (u : Option HO) (b : Addr) (o : HO), entryH PT a u b = some o → b = PT ∧ o = .tbl #[] ∨ b = a ∧ u = some o := by
    intro u b o z
    unfold entryH at z
    by_cases e1 : b = PT
    · rw [if_pos e1] at z
      exact .inl ⟨e1, (Option.some.inj z).symm⟩
    · rw [if_neg e1] at z
      by_cases e2 : b = a
      · rw [if_pos e2] at z
        exact .inr ⟨e2, z⟩
      · rw [if_neg e2] at z
        cases z
  cases hk : K.lookup a with
  | some o =>
    have e := inK a o hk
    rw [scr] at e
    cases e
    refine end_core (u := none) inK gl bl bb nl ng tab noK cd bm scr room F bnd (hsp _ (tP _) (.inr ⟨_, vs.toArray, _, hk, rfl, rfl, rfl, by rw [List.size_toArray, ln]; exact hl, by simpa using rv⟩)) ?_ (.inl rfl)
    intro b o z
    rcases others _ b o z with ⟨rfl, rfl⟩ | ⟨_, z⟩
    · exact tab
    · cases z
  | none =>
    refine end_core (u := some (.frz { cls := .type "list", data := .seq vs.toArray } (.lst (ns.map V.int)))) inK gl bl bb nl ng tab noK cd bm scr room F bnd (hsp _ (tP _) (.inl (.inr ⟨_, aH _⟩))) ?_ (.inr ⟨hk, _, _, rfl⟩)
    intro b o z
    rcases others _ b o z with ⟨rfl, rfl⟩ | ⟨eb, z3⟩
    · exact tab
    · cases z3
      rw [eb]
      exact ⟨scr, by rw [List.length_map]; exact hl, vs, _, rv, scr⟩
/-- what is known of the law at the head's heap -/
def LawG (l : PySem.W.OpenLaw) (w : World) (K : PySem.W.Frag) (k n : Nat) (x : Str) (mg : Str → Option Value) (fa : Addr) (h : Heap) : Prop :=
  ∃ (fd : FuncData) (c PT : Addr) (sp : Sp), h.get? PT = some tab0 ∧ K.lookup PT = none ∧ PySem.W.CodeHd h c PT ∧ (∀ (s : Shared) (u : Value), BindsTo s fd ⟨[u], []⟩ [(x, u)]) ∧
    (∀ (H : Hp) (a : Addr) (ns : List Int), ns.length ≤ n → H PT = some (.tbl #[]) → SqL K H a (ns.map V.int) → sp [.ref a] H (fun v _ => v = .bl true) E0) ∧
    ∀ base : Heap, K.In base → base.Ns mainGlobals mg → TabB base mg c PT → FnG l.prog w K mg base k fa fd [x] sp
theorem walkG {l : PySem.W.OpenLaw} {n k : Nat} {q : Program} {loose : List Str} {XP : (Str → Option Value) → Heap → Prop} {YP : World → Heap → Prop} {d : DefRec} {K : Params → PySem.W.Frag} {x : Str}
    (hn : l.most = some n) (hn2 : n ≤ sizeLine) (hdf : d.params.defaults = []) (room : Room k callerA) (hY : ∀ (w : World) (h : Heap), YP w h → (K w.params).In h)
    (F : ∀ (w : World) (s₀ : Shared) (mg mb : Str → Option Value) (fa : Addr) (h : Heap), PySem.W.Ground q loose [] XP w s₀ mg mb h → (K w.params).In h → mg d.name = some (.ref fa) → LawG l w (K w.params) k n x mg fa h) :
    PySem.W.WalkO q loose XP YP l.row.toRowW d [] (fun f vs => PySem.call f vs) := by
  refine Att.attach_call hn hdf ?_
  intro w s₀ s₁ mg mb fa o pm cd doc a vs ns G Y ho hd hcd hmg hobj hints hlen hg
  have inK := hY w _ Y
  obtain ⟨fd, c, PT, sp, tab, noK, code, bnd, hsp, hF⟩ := F w s₀ mg mb fa _ G inK hmg
  exact end_one inK G.T.g G.T.b G.T.builtins G.T.nolimit hg tab noK code G.T.bmain hobj hints (Nat.le_trans hlen hn2) room hF bnd (fun H => hsp H a ns hlen)
end KG
set_option Elab.async false
set_option linter.all false
set_option maxRecDepth 100000
set_option maxHeartbeats 4000000
namespace K1
open PySem PySem.Spec PyProof.Rows L2 KG
def topS (i : Nat) : Stmt := PySem.Challenge.pw_midferry_k01_terms_and_numbers.main.body.getD i (.Pass ⟨0, 0, 0, 0⟩)
/-! ### heaps and the deck -/
theorem same_upd {H : Hp} {p : Addr} {o : HO} (h : H p = none) : Same H (upd H p o) := fun b x e => by
  rw [upd_ne (ne_of_none e h)]
  exact e
structure Deck (H : Hp) (a c : Addr) : Prop where
  ex : ∃ (ns : List Int) (sd n : Int), H a = some (.lst [.ref c, .int sd, .int n]) ∧ H c = some (.lst (ns.map V.int)) ∧ ns.length ≤ 63 ∧ 0 ≤ sd ∧ sd < 2147483648
  ne : a ≠ c
/-- all but the deck is kept -/
structure Mv (a c : Addr) (H H' : Hp) : Prop where
  keep : ∀ b o, H b = some o → b ≠ a → b ≠ c → H' b = some o
  deck : Deck H' a c
theorem Mv.refl {a c : Addr} {H : Hp} (d : Deck H a c) : Mv a c H H := ⟨fun _ _ e _ _ => e, d⟩
theorem Mv.trans {a c : Addr} {H H1 H2 : Hp} (m : Mv a c H H1) (n : Mv a c H1 H2) : Mv a c H H2 := ⟨fun b o e h1 h2 => n.keep b o (m.keep b o e h1 h2) h1 h2, n.deck⟩
theorem Deck.same {a c : Addr} {H H' : Hp} (d : Deck H a c) (s : Same H H') : Deck H' a c := by
  obtain ⟨⟨ns, sd, n, h1, h2, h3⟩, ne⟩ := d
  exact ⟨⟨ns, sd, n, s _ _ h1, s _ _ h2, h3⟩, ne⟩
theorem Mv.same {a c : Addr} {H H' : Hp} (d : Deck H a c) (s : Same H H') : Mv a c H H' := ⟨fun b o e _ _ => s b o e, d.same s⟩
theorem Deck.some1 {a c : Addr} {H : Hp} (d : Deck H a c) : H a ≠ none := by
  obtain ⟨⟨ns, sd, n, h1, _⟩, _⟩ := d
  rw [h1]
  exact fun z => nomatch z
theorem Deck.some2 {a c : Addr} {H : Hp} (d : Deck H a c) : H c ≠ none := by
  obtain ⟨⟨ns, sd, n, _, h1, _⟩, _⟩ := d
  rw [h1]
  exact fun z => nomatch z
/-- what is new behind was new ahead -/
theorem Mv.free {a c : Addr} {H H' : Hp} (m : Mv a c H H') {p : Addr} (h : H' p = none) : H p = none := by
  cases q : H p with
  | none => rfl
  | some o =>
    by_cases ha : p = a
    · exact absurd (ha ▸ h) m.deck.some1
    · by_cases hc : p = c
      · exact absurd (hc ▸ h) m.deck.some2
      · rw [m.keep p o q ha hc] at h
        cases h
theorem Deck.neA {a c p : Addr} {H : Hp} (d : Deck H a c) (h : H p = none) : p ≠ a := fun e => d.some1 (e ▸ h)
theorem Deck.neC {a c p : Addr} {H : Hp} (d : Deck H a c) (h : H p = none) : p ≠ c := fun e => d.some2 (e ▸ h)
theorem dp_ints {K : PySem.W.Frag} {H : Hp} : ∀ ns : List Int, DpAll K H (ns.map V.int) (ns.map .int)
  | [] => .nil
  | n :: r => .cons (.int n) (dp_ints r)
theorem can_ints : ∀ ns : List Int, PyData.canLayAll0 (ns.map .int) = true
  | [] => rfl
  | n :: r => by
    rw [List.map_cons, PyData.canLayAll0, can_ints r]
    rfl
theorem depth_ints : ∀ ns : List Int, PyData.depthAll (ns.map .int) = 0
  | [] => rfl
  | n :: r => by
    rw [List.map_cons, PyData.depthAll, depth_ints r]
    rfl
theorem shaped_ints (ns : List Int) : SeqAt.shaped (.list (ns.map .int)) = true := by
  unfold SeqAt.shaped
  rw [PyData.canLay0, can_ints, PyData.depth, depth_ints]
  rfl
/-! ### draw -/
abbrev sDraw : Stmt := topS 24
theorem scDraw : FnScope ["_law_deck_here", "_law_ways", "_law_cell", "_law_mixed"] ["_law_deck_here", "_law_ways"] (defScope sDraw) := ⟨rfl, rfl, rfl, by decide +kernel, rfl, by decide +kernel, by decide +kernel⟩
section
variable {P : Program} {w : World} {K : PySem.W.Frag} {mg : Str → Option Value} {base : Heap}
def spDraw : Sp := fun vs H Q _ => ∃ (a c : Addr) (ways : Int), vs = [.ref a, .int ways] ∧ Deck H a c ∧ 0 < ways ∧ ways < 1000000 ∧
  ∀ r H', 0 ≤ r → r < ways → Mv a c H H' → Q (.int r) H'
theorem ok_draw {f : Addr} {fd : FuncData} {k : Nat} (F : Fun K "_law_draw" "_law_draw" sDraw f fd) : FnOk P w K mg base CX0 (k + 1) f fd ["_law_deck_here", "_law_ways"] spDraw := by
  refine F.ok scDraw (fun vs H Q E h => ?_) (fun cdv A outer s H vs Q E hr h => ?_)
  · obtain ⟨a, c, ways, rfl, _⟩ := h
    rfl
  · obtain ⟨a, c, ways, rfl, dk, w0, w1, q⟩ := h
    have SL : ∀ {H : Hp} {p : Addr} {xs : List V}, H p = some (.lst xs) → SqL K H p xs := fun h => .inl (.inl h)
    have tail : ∃ t, PSs (cxOf CX0 P w K mg base ["_law_deck_here", "_law_ways", "_law_cell", "_law_mixed"] "_law_draw" (defScope sDraw) f cdv A outer s H E).nox ((defBody sDraw).drop 3) t ∧
        ∀ (H2 : Hp) (x n : Int) (y sd : V), H2 a = some (.lst [.ref c, sd, .int n]) → Mv a c H H2 → t { nx := fun _ H' => Q .non H', rt := Q } [some (.ref a), some (.int ways), some (.int x), none] H2 := by
      refine ⟨_, pss_cons (ps_set (i := 3) scDraw.nd rfl (.inl rfl) (pe_op op_mod (pe_op op_mul (pe_op op_add (pe_op op_add (pe_op op_mod (pv 2) pe_int) (pe_op op_mul pe_int (pe_ix ix_list (pv 0) pe_int (fun _ _ => rfl)))) pe_int) pe_int) pe_int))
        (pss_cons (ps_set (i := 3) scDraw.nd rfl (.inl rfl) (pe_op op_mod (pe_op op_add (pe_op op_add (pe_op op_mul (pv 3) (pv 3)) (pe_op op_mul pe_int (pe_ix ix_list (pv 0) pe_int (fun _ _ => rfl)))) pe_int) pe_int))
        (pss_one (ps_ret (pe_op op_mod (pe_op op_fdiv (pe_op op_mod (pe_op op_add (pe_op op_mul (pv 3) (pv 3)) (pe_op op_mul pe_int (pv 3))) pe_int) pe_int) (pv 1))))), fun H2 x n y sd ha mv => ?_⟩
      refine ⟨_, rfl, _, _, rfl, rfl, (by decide : (0 : Int) < 2147483629), .ref a, rfl, a, _, 2, .int n, rfl, rfl, SL ha, rfl, _, _, rfl, rfl, .inl ⟨by decide, by decide⟩, _, _, rfl, rfl, _, _, rfl, rfl, _, _, rfl, rfl, .inr ⟨by decide, by decide⟩, _, _, rfl, rfl, (by decide : (0 : Int) < 2147483587), ?_⟩
      obtain ⟨m1, e1⟩ : ∃ m1 : Int, m1 = (x % 2147483629 + 40961 * n + 7) * 69621 % 2147483587 := ⟨_, rfl⟩
      have b1 : 0 ≤ m1 ∧ m1 < 2147483587 := by rw [e1]; omega
      refine ⟨_, rfl, _, rfl, m1, m1, by rw [e1], by rw [e1], .inl ⟨by omega, by omega⟩, .ref a, rfl, a, _, 2, .int n, rfl, rfl, SL ha, rfl, _, _, rfl, rfl, .inl ⟨by decide, by decide⟩, _, _, rfl, rfl, _, _, rfl, rfl, _, _, rfl, rfl, (by decide : (0 : Int) < 2147483647), ?_⟩
      obtain ⟨m2, e2⟩ : ∃ m2 : Int, m2 = (m1 * m1 + 48271 * n + 11) % 2147483647 := ⟨_, rfl⟩
      have b2 : 0 ≤ m2 ∧ m2 < 2147483647 := by
        rw [e2]
        exact ⟨Int.emod_nonneg _ (by decide), Int.emod_lt_of_pos _ (by decide)⟩
      refine ⟨_, rfl, _, rfl, m2, m2, by rw [e2], by rw [e2], .inl ⟨by omega, by omega⟩, _, rfl, _, m2, rfl, by rw [e2], .inl ⟨by decide, by decide⟩, _, _, rfl, rfl, _, _, rfl, rfl, (by decide : (0 : Int) < 2147483549), _, _, rfl, rfl, ⟨by decide, by decide⟩, _, rfl, _, _, rfl, rfl, w0, ?_⟩
      exact q _ _ (Int.emod_nonneg _ (by omega)) (Int.emod_lt_of_pos _ w0) mv
    obtain ⟨tt, ht, hq⟩ := tail
    refine ⟨_, pss_cons (ps_asg (pe_op op_add (pe_ix ix_list (pv 0) pe_int (fun _ _ => rfl)) pe_int) (pg_sub (pv 0) pe_int set_list))
      (pss_cons (ps_set (i := 2) scDraw.nd rfl (.inl rfl) (pe_ix ix_list (pv 0) pe_int (fun _ _ => rfl)))
      (pss_cons (ps_if (pt_cmpR (op_neD hr.units) (pe_ix ix_list (pv 0) pe_int (fun _ _ => rfl)) (pe_lst pa_nil) (nomark _))
        (pss_cons (ps_set (i := 2) scDraw.nd rfl (.inl rfl) (pe_bm0 PySem.F.plainAttrs_list PySem.F.slot_list_pop PySem.F.type_list_pop mt_pop (pe_ix ix_list (pv 0) pe_int (fun _ _ => rfl))))
        (pss_cons (ps_if (pt_cmpR op_ge (pv 2) (pe_op op_pow pe_int pe_int) (nomark _))
          (pss_cons (ps_expr (pe_bm PySem.F.plainAttrs_list PySem.F.slot_list_append PySem.F.type_list_append mt_append (pe_ix ix_list (pv 0) pe_int (fun _ _ => rfl)) (pa_cons (pe_op op_fdiv (pv 2) (pv 1)) pa_nil)))
            (pss_one (ps_ret (pe_op op_mod (pv 2) (pv 1))))) pss_nil)
        (pss_one (ps_set (i := 2) scDraw.nd rfl (.inl rfl) (pe_op op_add (pv 2) (pe_ix ix_list (pv 0) pe_int (fun _ _ => rfl))))))) pss_nil) ht)), ?_⟩
    obtain ⟨⟨ns, sd, n, ha, hc, hl, s0, s1⟩, ne⟩ := dk
    refine ⟨.ref a, rfl, a, _, 2, .int n, rfl, rfl, SL ha, rfl, _, _, rfl, rfl, .ref a, rfl, a, _, 2, 2, rfl, rfl, ha, rfl, ?_⟩
    have ha1 : upd H a (.lst [.ref c, .int sd, .int (n + 1)]) a = some (.lst [.ref c, .int sd, .int (n + 1)]) := upd_same
    have hc1 : upd H a (.lst [.ref c, .int sd, .int (n + 1)]) c = some (.lst (ns.map V.int)) := by
      rw [upd_ne ne.symm]
      exact hc
    have kp1 : ∀ b o, H b = some o → b ≠ a → b ≠ c → upd H a (.lst [.ref c, .int sd, .int (n + 1)]) b = some o := fun b o e h1 _ => by
      rw [upd_ne h1]
      exact e
    revert ha1 hc1 kp1
    show _ → _ → _ → tSeq _ _ _ _ (upd H a (.lst [.ref c, .int sd, .int (n + 1)]))
    generalize upd H a (.lst [.ref c, .int sd, .int (n + 1)]) = H1
    intro ha1 hc1 kp1
    -- cell = deck[1]; deck[0] != []
    refine ⟨.ref a, rfl, a, _, 1, .int sd, rfl, rfl, SL ha1, rfl, ?_⟩
    refine ⟨.ref a, rfl, a, _, 0, .ref c, rfl, rfl, SL ha1, rfl, Nat.zero_le _, fun e he => ?_⟩
    have ha2 := same_upd (o := .lst []) he _ _ ha1
    have hc2 := same_upd (o := .lst []) he _ _ hc1
    have kp2 : ∀ b o, H b = some o → b ≠ a → b ≠ c → upd H1 e (.lst []) b = some o := fun b o z h1 h2 => same_upd (o := .lst []) he _ _ (kp1 b o z h1 h2)
    have hE2 : upd H1 e (.lst []) e = some (.lst []) := upd_same
    revert ha2 hc2 kp2 hE2
    generalize upd H1 e (.lst []) = H2
    intro ha2 hc2 kp2 hE2
    refine ⟨.list (ns.map .int), .list [], .lst (SL hc2) (dp_ints ns), .lst (SL hE2) .nil, shaped_ints ns, rfl, _, rfl, ?_⟩
    have hne : (!PyData.eqv (.list (ns.map .int)) (.list [])) = !ns.isEmpty := by
      cases ns <;> rfl
    rw [hne]
    cases ns with
    | nil => exact iteF (hq H2 sd (n + 1) .non (.int sd) ha2 ⟨kp2, ⟨⟨[], sd, n + 1, ha2, hc2, hl, s0, s1⟩, ne⟩⟩)
    | cons z r =>
      refine iteT ?_
      obtain ⟨i1, x, el⟩ : ∃ i1 x, z :: r = i1 ++ [x] := ⟨_, _, (List.dropLast_concat_getLast (List.cons_ne_nil z r)).symm⟩
      rw [el] at hc2 hl
      rw [List.map_append] at hc2
      have lx : (i1.map V.int ++ [x].map V.int)[(i1.map V.int ++ [x].map V.int).length - 1]? = some (.int x) := by simp
      refine ⟨.ref a, rfl, a, _, 0, .ref c, rfl, rfl, SL ha2, rfl, .inl ⟨rfl, _, SL hc2⟩, c, _, .int x, rfl, rfl, hc2, lx, ?_⟩
      have ed : (i1.map V.int ++ [x].map V.int).dropLast = i1.map V.int := by simp
      rw [ed]
      have ha3 : upd H2 c (.lst (i1.map V.int)) a = some (.lst [.ref c, .int sd, .int (n + 1)]) := by
        rw [upd_ne ne]
        exact ha2
      have hc3 : upd H2 c (.lst (i1.map V.int)) c = some (.lst (i1.map V.int)) := upd_same
      have kp3 : ∀ b o, H b = some o → b ≠ a → b ≠ c → upd H2 c (.lst (i1.map V.int)) b = some o := fun b o z h1 h2 => by
        rw [upd_ne h2]
        exact kp2 b o z h1 h2
      revert ha3 hc3 kp3
      generalize upd H2 c (.lst (i1.map V.int)) = H3
      intro ha3 hc3 kp3
      have hl3 : i1.length + 1 ≤ 63 := by simpa using hl
      refine ⟨_, rfl, _, _, rfl, rfl, ⟨by decide, by decide, by decide⟩, _, _, rfl, rfl, _, rfl, ite2 (fun hge => ?_) (fun hlt => ?_)⟩
      · refine ⟨.ref a, rfl, a, _, 0, .ref c, rfl, rfl, SL ha3, rfl, .inl ⟨rfl, _, SL hc3⟩, _, rfl, _, rfl, _, _, rfl, rfl, ⟨by omega, by omega⟩, c, _, _, rfl, rfl, hc3, ?_, ?_⟩
        · rw [List.length_map, sizeLine_eq]
          omega
        · refine ⟨_, rfl, _, rfl, _, _, rfl, rfl, w0, ?_⟩
          refine q _ _ (Int.emod_nonneg _ (by omega)) (Int.emod_lt_of_pos _ w0) ⟨fun b o z h1 h2 => by rw [upd_ne h2]; exact kp3 b o z h1 h2, ⟨⟨i1 ++ [x / ways], sd, n + 1, by rw [upd_ne ne]; exact ha3, by rw [upd_same, List.map_append]; rfl, by simpa using hl3, s0, s1⟩, ne⟩⟩
      · refine ⟨_, rfl, .ref a, rfl, a, _, 1, .int sd, rfl, rfl, SL ha3, rfl, _, _, rfl, rfl, ?_⟩
        exact hq H3 _ (n + 1) .non (.int sd) ha3 ⟨kp3, ⟨⟨i1, sd, n + 1, ha3, hc3, by omega, s0, s1⟩, ne⟩⟩
/-! ### deck -/
abbrev sDeck : Stmt := topS 23
theorem scDeck : FnScope ["_law_script", "_law_cells", "_law_seed", "_law_cell"] ["_law_script"] (defScope sDeck) := ⟨rfl, rfl, rfl, by decide +kernel, rfl, by decide +kernel, by decide +kernel⟩
def spDeck (K : PySem.W.Frag) : Sp := fun vs H Q _ => ∃ (b : Addr) (ns : List Int), vs = [.ref b] ∧ SqL K H b (ns.map V.int) ∧ ns.length ≤ 63 ∧
  ∀ a c H', Same H H' → H a = none → H c = none → Deck H' a c → Q (.ref a) H'
theorem ok_deck {f : Addr} {fd : FuncData} {k : Nat} (F : Fun K "_law_deck" "_law_deck" sDeck f fd) (ml : mg "list" = none) : FnOk P w K mg base CX0 (k + 1) f fd ["_law_script"] (spDeck K) := by
  refine F.ok scDeck (fun vs H Q E h => ?_) (fun cdv A outer s H vs Q E hr h => ?_)
  · obtain ⟨b, ns, rfl, _⟩ := h
    rfl
  · obtain ⟨b, ns, rfl, hb, hl, q⟩ := h
    have SL : ∀ {H : Hp} {p : Addr} {xs : List V}, H p = some (.lst xs) → SqL K H p xs := fun h => .inl (.inl h)
    refine ⟨_, pss_cons (ps_par (i := 1) (j := 2) (by rfl) scDeck.nd rfl rfl (by decide) rfl rfl (pa_cons (pe_callTy call_list_of (by rfl) ml (by decide +kernel) (pa_cons (pe_slice sl_list (pv 0) po_none (po_some pe_int)) pa_nil)) (pa_cons pe_int pa_nil)) (by rfl))
      (pss_cons (ps_for PassesOwn.never rfl (pi_list (pv 1)) (pg_name (i := 3) scDeck.nd rfl (.inl rfl))
        (pss_one (ps_set (i := 2) scDeck.nd rfl (.inl rfl) (pe_op op_mod (pe_op op_add (pe_op op_add (pe_op op_mul (pv 2) pe_int) (pe_op op_mod (pv 3) pe_int)) pe_int) pe_int))))
      (pss_one (ps_ret (pe_lst (pa_cons (pe_revL (pv 1)) (pa_cons (pv 2) (pa_cons pe_int pa_nil))))))), ?_⟩
    refine ⟨.ref b, rfl, _, rfl, b, _, rfl, hb, fun p hp => ⟨p, _, rfl, .inl (SL upd_same), fun l hl1 => ⟨_, _, rfl, ?_⟩⟩⟩
    have ecut : cutV (ns.map V.int) none (some 63) = (ns.map V.int) := by
      unfold cutV
      rw [HT.sIx_none, show HT.sIx (ns.map V.int).length (ns.map V.int).length (some 63) = min 63 (ns.map V.int).length from HT.sIx_nat _ _ 63]
      rw [show min 63 (ns.map V.int).length = (ns.map V.int).length by rw [List.length_map]; omega]
      simp
      exact List.take_of_length_le (by simp)
    rw [ecut]
    rw [ecut] at hl1
    have sm1 : Same H (upd (upd H p (.lst (ns.map V.int))) l (.lst (ns.map V.int))) := (same_upd hp).trans (same_upd hl1)
    have hl2 : upd (upd H p (.lst (ns.map V.int))) l (.lst (ns.map V.int)) l = some (.lst (ns.map V.int)) := upd_same
    revert sm1 hl2
    generalize upd (upd H p (.lst (ns.map V.int))) l (.lst (ns.map V.int)) = H1
    intro sm1 hl2
    refine ⟨.ref l, rfl, l, rfl, ⟨_, SL hl2⟩, for_list (K := K) (a := l) (xs := ns.map V.int) (fun i σ H' => H' = H1 ∧ ∃ (sd : Int) (v : Option V), σ = [some (.ref b), some (.ref l), some (.int sd), v] ∧ 0 ≤ sd ∧ sd < 2147483648)
      ⟨rfl, 8191, none, rfl, by decide, by decide⟩ (fun i σ H' _ z => by rw [z.1]; exact SL hl2) ?_ ?_⟩
    · rintro i y σ H' hi ⟨rfl, sd, v, rfl, s0, s1⟩
      obtain ⟨z, hz, rfl⟩ : ∃ z, ns[i]? = some z ∧ y = V.int z := by
        rw [List.getElem?_map] at hi
        cases e : ns[i]? with
        | none => rw [e] at hi; cases hi
        | some z => rw [e] at hi; exact ⟨z, rfl, (Option.some.inj hi).symm⟩
      refine ⟨_, rfl, _, _, rfl, rfl, .inr ⟨by decide, by decide⟩, _, rfl, _, _, rfl, rfl, (by decide : (0 : Int) < 2147483563), _, _, rfl, rfl, _, _, rfl, rfl, _, _, rfl, rfl, (by decide : (0 : Int) < 2147483647), rfl, _, some (.int z), rfl, ?_, ?_⟩
      · exact Int.emod_nonneg _ (by decide)
      · exact Int.lt_trans (Int.emod_lt_of_pos _ (by decide)) (by decide)
    · rintro σ H' ⟨rfl, sd, v, rfl, s0, s1⟩
      refine ⟨.ref l, rfl, l, _, rfl, SL hl2, fun c hc => ⟨_, rfl, (by show 3 ≤ sizeLine; decide), fun a ha => ?_⟩⟩
      have nac : a ≠ c := fun e => by
        rw [e, upd_same] at ha
        cases ha
      refine q a c _ (sm1.trans ((same_upd hc).trans (same_upd ha))) (((sm1.trans (same_upd hc)).free ha)) (sm1.free hc) ⟨⟨ns.reverse, sd, 0, upd_same, ?_, by simpa using hl, s0, s1⟩, nac⟩
      rw [upd_ne nac.symm, upd_same, List.map_reverse]
/-! ### pick -/
abbrev sPick : Stmt := topS 25
theorem scPick : FnScope ["_law_deck_here", "_law_some"] ["_law_deck_here", "_law_some"] (defScope sPick) := ⟨rfl, rfl, rfl, by decide +kernel, rfl, by decide +kernel, by decide +kernel⟩
def spPick (K : PySem.W.Frag) : Sp := fun vs H Q _ => ∃ (a c p : Addr) (xs : List V), vs = [.ref a, .ref p] ∧ Deck H a c ∧ SqL K H p xs ∧ p ≠ a ∧ p ≠ c ∧ xs ≠ [] ∧ xs.length < 1000 ∧
  ∀ x H', x ∈ xs → Mv a c H H' → Q x H'
theorem Mv.sql {K : PySem.W.Frag} {a c p : Addr} {H H' : Hp} {xs : List V} (m : Mv a c H H') (h : SqL K H p xs) (h1 : p ≠ a) (h2 : p ≠ c) : SqL K H' p xs := by
  rcases h with (h | ⟨o, h⟩) | h
  · exact .inl (.inl (m.keep _ _ h h1 h2))
  · exact .inl (.inr ⟨o, m.keep _ _ h h1 h2⟩)
  · exact .inr h
theorem ok_pick {f fD : Addr} {fd fdD : FuncData} {k : Nat} (F : Fun K "_law_pick" "_law_pick" sPick f fd) (ml : mg "len" = none) (FD : Fun K "_law_draw" "_law_draw" sDraw fD fdD) (gD : mg "_law_draw" = some (.ref fD)) (bD : Binds K fdD ["_law_deck_here", "_law_ways"] []) :
    FnOk P w K mg base CX0 (k + 2) f fd ["_law_deck_here", "_law_some"] (spPick K) := by
  have GD : FnOk P w K mg base CX0 (k + 1) fD fdD ["_law_deck_here", "_law_ways"] spDraw := ok_draw FD
  refine F.ok scPick (fun vs H Q E h => ?_) (fun cdv A outer s H vs Q E hr h => ?_)
  · obtain ⟨a, c, p, xs, rfl, _⟩ := h
    rfl
  · obtain ⟨a, c, p, xs, rfl, dk, hp, na, nc, x0, xl, q⟩ := h
    refine ⟨_, pss_one (ps_ret (pe_ix ix_list (pv 1) (pe_call GD hr (by rfl) gD FD.kp bD .nil pass0 (pa_cons (pv 0) (pa_cons (pe_callB call_len_seq (by rfl) ml PySem.boot_len (pa_cons (pv 1) pa_nil)) pa_nil))) (fun _ _ => rfl))), ?_⟩
    have l0 : 0 < xs.length := List.length_pos_iff.mpr x0
    refine ⟨.ref p, rfl, .ref a, rfl, .ref p, rfl, p, xs, rfl, .inl hp, a, c, xs.length, rfl, dk, by omega, by omega, fun r H' r0 r1 mv => ?_⟩
    obtain ⟨j, rfl⟩ := Int.eq_ofNat_of_zero_le r0
    have hj : j < xs.length := by omega
    exact ⟨p, xs, _, xs[j], rfl, rfl, mv.sql hp na nc, atI_nat (List.getElem?_eq_getElem hj), q _ _ (List.getElem_mem hj) mv⟩
end
end K1
set_option Elab.async false
set_option linter.all false
set_option maxRecDepth 100000
set_option maxHeartbeats 4000000
namespace K1
open PySem PySem.Spec PyProof.Rows L2 KG
/-! ### things of any kind -/
inductive Ty7 (K : PySem.W.Frag) (H : Hp) : V → Prop
  | non : Ty7 K H .non
  | bl (b : Bool) : Ty7 K H (.bl b)
  | int (i : Int) : Ty7 K H (.int i)
  | str (x : Str) (h : x.length ≤ 100000) (o : ∀ c ∈ x.cps.toList, c < 1114112) : Ty7 K H (.str x)
  | lst {a : Addr} {xs : List V} (h : SqL K H a xs) : Ty7 K H (.ref a)
  | tup {a : Addr} {xs : List V} (h : SqT K H a xs) : Ty7 K H (.ref a)
  | dct {a : Addr} (h : H a = some (.dK [])) : Ty7 K H (.ref a)
def isB : V → Bool
  | .bl _ => true
  | _ => false
def isI : V → Bool
  | .int _ => true
  | _ => false
def isS : V → Bool
  | .str _ => true
  | _ => false
theorem Ty7.kind {K : PySem.W.Frag} {H : Hp} {v : V} (h : Ty7 K H v) : ∃ t, TyX K H v (.type t) ∧ kitB t "int" = some (isI v || isB v) ∧ kitB t "bool" = some (isB v) ∧ kitB t "str" = some (isS v) := by
  cases h with
  | non => exact ⟨"NoneType", .base .non, (show kitB "NoneType" "int" = some false by decide +kernel), (show kitB "NoneType" "bool" = some false by decide +kernel), (show kitB "NoneType" "str" = some false by decide +kernel)⟩
  | bl b => exact ⟨"bool", .base (.bl b), (show kitB "bool" "int" = some true by decide +kernel), (show kitB "bool" "bool" = some true by decide +kernel), (show kitB "bool" "str" = some false by decide +kernel)⟩
  | int i => exact ⟨"int", .base (.int i), (show kitB "int" "int" = some true by decide +kernel), (show kitB "int" "bool" = some false by decide +kernel), (show kitB "int" "str" = some false by decide +kernel)⟩
  | str x h _ => exact ⟨"str", .base (.str x), (show kitB "str" "int" = some false by decide +kernel), (show kitB "str" "bool" = some false by decide +kernel), (show kitB "str" "str" = some true by decide +kernel)⟩
  | lst h =>
    refine ⟨"list", ?_, (show kitB "list" "int" = some false by decide +kernel), (show kitB "list" "bool" = some false by decide +kernel), (show kitB "list" "str" = some false by decide +kernel)⟩
    rcases h with (h | ⟨o, h⟩) | ⟨o, its, n, h1, h2, _⟩
    · exact .base (.lst h)
    · exact .base (.frz h)
    · exact .kList h1 h2
  | tup h =>
    refine ⟨"tuple", ?_, (show kitB "tuple" "int" = some false by decide +kernel), (show kitB "tuple" "bool" = some false by decide +kernel), (show kitB "tuple" "str" = some false by decide +kernel)⟩
    rcases h with (h | ⟨o, h⟩) | ⟨o, its, n, h1, h2, _⟩
    · exact .base (.tup h)
    · exact .fTuple h
    · exact .kTuple h1 h2
  | dct h => exact ⟨"dict", .base (.dK h), (show kitB "dict" "int" = some false by decide +kernel), (show kitB "dict" "bool" = some false by decide +kernel), (show kitB "dict" "str" = some false by decide +kernel)⟩
theorem Same.sqt {K : PySem.W.Frag} {H H' : Hp} {a : Addr} {xs : List V} (e : Same H H') (h : SqT K H a xs) : SqT K H' a xs := by
  rcases h with (h | ⟨o, h⟩) | h
  · exact .inl (.inl (e _ _ h))
  · exact .inl (.inr ⟨o, e _ _ h⟩)
  · exact .inr h
theorem Ty7.same {K : PySem.W.Frag} {H H' : Hp} {v : V} (h : Ty7 K H v) (s : Same H H') : Ty7 K H' v := by
  cases h with
  | non => exact .non
  | bl b => exact .bl b
  | int i => exact .int i
  | str x h o => exact .str x h o
  | lst h => exact .lst (s.seq h)
  | tup h => exact .tup (Same.sqt s h)
  | dct h => exact .dct (s _ _ h)
def upTo (hi : Int) : V → Bool
  | .int i => decide (0 ≤ i) && decide (i ≤ hi)
  | _ => false
def low (c : Nat) : Bool := decide (97 ≤ c) && decide (c ≤ 122)
def six : List Str := ["sum", "less", "times", "over", "below", "same"]
def nm : V → Bool
  | .str x => decide (1 ≤ x.length) && decide (x.length ≤ 8) && !(six.any fun y => y == x) && x.cps.toList.all low
  | _ => false
theorem letters_low (c : Nat) : decide (c ∈ (("abcdefghijklmnopqrstuvwxyz" : Str)).cps.toList) = low c := by
  have e : (("abcdefghijklmnopqrstuvwxyz" : Str)).cps.toList = (List.range 26).map (· + 97) := by decide +kernel
  rw [e]
  unfold low
  rw [← Bool.decide_and]
  apply decide_eq_decide.mpr
  constructor
  · intro h
    obtain ⟨k, h1, h2⟩ := List.mem_map.mp h
    have := List.mem_range.mp h1
    omega
  · intro h
    exact List.mem_map.mpr ⟨c - 97, List.mem_range.mpr (by omega), by omega⟩
theorem inV_six (x : Str) : inV (.str x) (six.map V.str) = six.any fun y => y == x := by
  unfold inV
  rw [List.any_map]
  rfl
section
variable {P : Program} {w : World} {K : PySem.W.Frag} {mg : Str → Option Value} {base : Heap}
/-! ### is_whole, is_up_to, is_number, is_depth -/
abbrev sWhole : Stmt := topS 13
theorem scWhole : FnScope ["thing"] ["thing"] (defScope sWhole) := ⟨rfl, rfl, rfl, by decide +kernel, rfl, by decide +kernel, by decide +kernel⟩
/-- the names that are still the built-in ones, the constants of the top -/
structure Glob (K : PySem.W.Frag) (mg : Str → Option Value) (pW : Addr) : Prop where
  isi : mg "isinstance" = none
  int : mg "int" = none
  bool : mg "bool" = none
  str : mg "str" = none
  len : mg "len" = none
  all : mg "all" = none
  list : mg "list" = none
  tuple : mg "tuple" = none
  dict : mg "dict" = none
  range : mg "range" = none
  repr : mg "repr" = none
  ROUND : ∃ t, mg "ROUND" = some (.int 65536 t)
  LETTERS : ∃ t, mg "LETTERS" = some (.str "abcdefghijklmnopqrstuvwxyz" t)
  LONGEST : ∃ t, mg "LONGEST" = some (.int 8 t)
  DEEPEST : ∃ t, mg "DEEPEST" = some (.int 3 t)
  NUM : ∃ t, mg "NUM" = some (.str "num" t)
  SUM : ∃ t, mg "SUM" = some (.str "sum" t)
  LESS : ∃ t, mg "LESS" = some (.str "less" t)
  TIMES : ∃ t, mg "TIMES" = some (.str "times" t)
  OVER : ∃ t, mg "OVER" = some (.str "over" t)
  BELOW : ∃ t, mg "BELOW" = some (.str "below" t)
  WORDS : mg "WORDS" = some (.ref pW)
  words : ∀ H, SqT K H pW (six.map V.str)
def spWhole (K : PySem.W.Frag) : Sp := fun vs H Q _ => ∃ v, vs = [v] ∧ Ty7 K H v ∧ Q (.bl (isI v)) H
theorem ok_whole {f pW : Addr} {fd : FuncData} {k : Nat} (F : Fun K "is_whole" "is_whole" sWhole f fd) (G : Glob K mg pW) : FnOk P w K mg base CX0 (k + 1) f fd ["thing"] (spWhole K) := by
  refine F.ok scWhole (fun vs H Q E h => ?_) (fun cdv A outer s H vs Q E hr h => ?_)
  · obtain ⟨v, rfl, _⟩ := h
    rfl
  · obtain ⟨v, rfl, hT, q⟩ := h
    obtain ⟨t, ht, h1, h2, _⟩ := hT.kind
    refine ⟨_, pss_one (ps_ret (pe_and (pe_callB call_isi (by rfl) G.isi (by decide +kernel) (pa_cons (pv 0) (pa_cons (pe_bltn (v := .ty "int") (by rfl) G.int (by decide +kernel) rfl) pa_nil))) (pe_one (pe_not (pe_callB call_isi (by rfl) G.isi (by decide +kernel) (pa_cons (pv 0) (pa_cons (pe_bltn (v := .ty "bool") (by rfl) G.bool (by decide +kernel) rfl) pa_nil))))))), ?_⟩
    refine ⟨v, rfl, _, _, _, _, _, rfl, .ty "int", ht, kit_ty h1, _, rfl, ?_⟩
    cases hb : (isI v || isB v) with
    | false =>
      have e : isI v = false := (Bool.or_eq_false_iff.mp hb).1
      rw [e] at q
      exact iteF q
    | true =>
      refine iteT ⟨v, rfl, _, _, _, _, _, rfl, .ty "bool", ht, kit_ty h2, _, rfl, ?_⟩
      have e : (!isB v) = isI v := by cases v <;> first | rfl | cases hb
      rw [e]
      exact q
abbrev sUpTo : Stmt := topS 14
theorem scUpTo : FnScope ["thing", "highest"] ["thing", "highest"] (defScope sUpTo) := ⟨rfl, rfl, rfl, by decide +kernel, rfl, by decide +kernel, by decide +kernel⟩
def spUpTo (K : PySem.W.Frag) : Sp := fun vs H Q _ => ∃ v hi, vs = [v, .int hi] ∧ Ty7 K H v ∧ Q (.bl (upTo hi v)) H
theorem ok_upTo {f pW f1 : Addr} {fd fd1 : FuncData} {k : Nat} (F : Fun K "is_up_to" "is_up_to" sUpTo f fd) (G : Glob K mg pW) (F1 : Fun K "is_whole" "is_whole" sWhole f1 fd1) (g1 : mg "is_whole" = some (.ref f1)) (b1 : Binds K fd1 ["thing"] []) : FnOk P w K mg base CX0 (k + 2) f fd ["thing", "highest"] (spUpTo K) := by
  have G1 : FnOk P w K mg base CX0 (k + 1) f1 fd1 ["thing"] (spWhole K) := ok_whole F1 G
  refine F.ok scUpTo (fun vs H Q E h => ?_) (fun cdv A outer s H vs Q E hr h => ?_)
  · obtain ⟨v, hi, rfl, _⟩ := h
    rfl
  · obtain ⟨v, hi, rfl, hT, q⟩ := h
    refine ⟨_, pss_one (ps_ret (pe_and (pe_call G1 hr (by rfl) g1 F1.kp b1 .nil pass0 (pa_cons (pv 0) pa_nil)) (pe_one (pe_chain op_le op_le pe_int (pv 0) (pv 1))))), ?_⟩
    refine ⟨v, rfl, v, rfl, hT, _, rfl, ?_⟩
    cases v with
    | int i =>
      refine iteT ⟨_, rfl, _, _, rfl, rfl, _, rfl, ?_⟩
      have q : Q (.bl (decide (0 ≤ i) && decide (i ≤ hi))) H := q
      by_cases h0 : (0 : Int) ≤ i
      · rw [decide_eq_true h0] at q ⊢
        exact iteT ⟨_, rfl, _, _, rfl, rfl, q⟩
      · rw [decide_eq_false h0] at q ⊢
        exact iteF q
    | _ => exact iteF q
abbrev sNumber : Stmt := topS 16
theorem scNumber : FnScope ["thing"] ["thing"] (defScope sNumber) := ⟨rfl, rfl, rfl, by decide +kernel, rfl, by decide +kernel, by decide +kernel⟩
abbrev sDepth : Stmt := topS 17
theorem scDepth : FnScope ["thing"] ["thing"] (defScope sDepth) := ⟨rfl, rfl, rfl, by decide +kernel, rfl, by decide +kernel, by decide +kernel⟩
def spTo (K : PySem.W.Frag) (hi : Int) : Sp := fun vs H Q _ => ∃ v, vs = [v] ∧ Ty7 K H v ∧ Q (.bl (upTo hi v)) H
/-- the defs of the top, where they stand, how they bind -/
structure Def (K : PySem.W.Frag) (mg : Str → Option Value) (x : Str) (st : Stmt) (ps : List Str) (f : Addr) (fd : FuncData) : Prop where
  fn : Fun K x x st f fd
  at_ : mg x = some (.ref f)
  b : Binds K fd ps []
theorem ok_number {f pW f1 f2 : Addr} {fd fd1 fd2 : FuncData} {k : Nat} (F : Fun K "is_number" "is_number" sNumber f fd) (G : Glob K mg pW) (D1 : Def K mg "is_whole" sWhole ["thing"] f1 fd1) (D2 : Def K mg "is_up_to" sUpTo ["thing", "highest"] f2 fd2) : FnOk P w K mg base CX0 (k + 3) f fd ["thing"] (spTo K 65535) := by
  have G2 : FnOk P w K mg base CX0 (k + 2) f2 fd2 ["thing", "highest"] (spUpTo K) := ok_upTo D2.fn G D1.fn D1.at_ D1.b
  obtain ⟨t, gR⟩ := G.ROUND
  refine F.ok scNumber (fun vs H Q E h => ?_) (fun cdv A outer s H vs Q E hr h => ?_)
  · obtain ⟨v, rfl, _⟩ := h
    rfl
  · obtain ⟨v, rfl, hT, q⟩ := h
    refine ⟨_, pss_one (ps_ret (pe_call G2 hr (by rfl) D2.at_ D2.fn.kp D2.b .nil pass0 (pa_cons (pv 0) (pa_cons (pe_op op_sub (pe_glob (v := .int 65536) (by rfl) gR ⟨_, rfl⟩) pe_int) pa_nil)))), ?_⟩
    exact ⟨v, rfl, _, _, rfl, rfl, v, 65535, rfl, hT, q⟩
theorem ok_depth {f pW f1 f2 : Addr} {fd fd1 fd2 : FuncData} {k : Nat} (F : Fun K "is_depth" "is_depth" sDepth f fd) (G : Glob K mg pW) (D1 : Def K mg "is_whole" sWhole ["thing"] f1 fd1) (D2 : Def K mg "is_up_to" sUpTo ["thing", "highest"] f2 fd2) : FnOk P w K mg base CX0 (k + 3) f fd ["thing"] (spTo K 3) := by
  have G2 : FnOk P w K mg base CX0 (k + 2) f2 fd2 ["thing", "highest"] (spUpTo K) := ok_upTo D2.fn G D1.fn D1.at_ D1.b
  obtain ⟨t, gR⟩ := G.DEEPEST
  refine F.ok scDepth (fun vs H Q E h => ?_) (fun cdv A outer s H vs Q E hr h => ?_)
  · obtain ⟨v, rfl, _⟩ := h
    rfl
  · obtain ⟨v, rfl, hT, q⟩ := h
    refine ⟨_, pss_one (ps_ret (pe_call G2 hr (by rfl) D2.at_ D2.fn.kp D2.b .nil pass0 (pa_cons (pv 0) (pa_cons (pe_glob (v := .int 3) (by rfl) gR ⟨_, rfl⟩) pa_nil)))), ?_⟩
    exact ⟨v, rfl, v, 3, rfl, hT, q⟩
/-! ### is_name -/
abbrev sName : Stmt := topS 15
theorem scName : FnScope ["thing", "sign"] ["thing"] (defScope sName) := ⟨rfl, rfl, rfl, by decide +kernel, rfl, by decide +kernel, by decide +kernel⟩
def spName (K : PySem.W.Frag) : Sp := fun vs H Q _ => ∃ v, vs = [v] ∧ Ty7 K H v ∧ ∀ H', Same H H' → Q (.bl (nm v)) H'
theorem ok_name {f pW : Addr} {fd : FuncData} {k : Nat} (F : Fun K "is_name" "is_name" sName f fd) (G : Glob K mg pW) : FnOk P w K mg base CX0 (k + 1) f fd ["thing"] (spName K) := by
  obtain ⟨t1, gL⟩ := G.LETTERS
  obtain ⟨t2, gN⟩ := G.LONGEST
  refine F.ok scName (fun vs H Q E h => ?_) (fun cdv A outer s H vs Q E hr h => ?_)
  · obtain ⟨v, rfl, _⟩ := h
    rfl
  · obtain ⟨v, rfl, hT, q⟩ := h
    obtain ⟨t, ht, _, _, h3⟩ := hT.kind
    refine ⟨_, pss_cons (ps_if (PW.pt (pw_or (pt_not (pt_val (pe_callB call_isi (by rfl) G.isi (by decide +kernel) (pa_cons (pv 0) (pa_cons (pe_bltn (v := .ty "str") (by rfl) G.str (by decide +kernel) rfl) pa_nil)))))
        (pw_or (pt_not (pt_chain op_le op_le pe_int (pe_callB call_len_str (by rfl) G.len PySem.boot_len (pa_cons (pv 0) pa_nil)) (pe_glob (v := .int 8) (by rfl) gN ⟨_, rfl⟩)))
          (pw_or1 (pt_cmpR op_in_seq (pv 0) (pe_glob (v := .ref pW) (by rfl) G.WORDS rfl) rfl)))))
        (pss_one (ps_ret pe_bl)) pss_nil)
      (pss_one (ps_ret (pe_callB (cr_all rfl) (by rfl) G.all (by decide +kernel) (pa_cons
        (pe_lc (own := [("sign", 1)]) (g := gName 1) (tt := tYes) rfl scName.nd (pi_str (pv 0)) (blkOk_by (own := [("sign", 1)]) (N := ["thing", "sign"]) (sc := defScope sName) (by decide +kernel))
          (fun _ _ _ _ _ => pg_name (i := 1) scName.nd rfl (Or.inl rfl)) (fun _ _ _ _ _ => pts_nil) (fun _ _ _ _ _ => pe_cmpR op_in_sign (pv 1) (pe_glob (v := .str "abcdefghijklmnopqrstuvwxyz") (by rfl) gL ⟨_, rfl⟩) rfl)) pa_nil)))), ?_⟩
    refine ⟨v, rfl, _, _, _, _, _, rfl, .ty "str", ht, kit_ty h3, _, rfl, ?_⟩
    have q0 := q H (Same.refl H)
    cases v with
    | str x =>
      have hx : x.length ≤ 100000 := by cases hT with | str _ h _ => exact h
      have hz : x.length ≤ sizeLine := by rw [sizeLine_eq]; omega
      have en : nm (.str x) = (decide (1 ≤ x.length) && decide (x.length ≤ 8) && !(six.any fun y => y == x) && x.cps.toList.all low) := rfl
      rw [en] at q q0
      refine iteF ⟨.str x, rfl, x, rfl, hz, _, _, rfl, rfl, _, rfl, ?_⟩
      by_cases h1 : (1 : Int) ≤ x.length
      · rw [decide_eq_true h1]
        refine iteT ⟨_, _, rfl, rfl, _, rfl, ?_⟩
        by_cases h2 : (x.length : Int) ≤ 8
        · rw [decide_eq_true h2]
          refine iteF ⟨.str x, rfl, pW, _, rfl, .inr (G.words _), rfl, rfl, _, rfl, ?_⟩
          show if inV (.str x) (six.map V.str) = true then _ else _
          rw [inV_six]
          rw [decide_eq_true (show 1 ≤ x.length by omega), decide_eq_true (show x.length ≤ 8 by omega)] at q q0
          cases hs : (six.any fun y => y == x) with
          | true =>
            rw [hs] at q0
            exact iteT q0
          | false =>
            rw [hs] at q
            refine iteF ?_
            refine ⟨.str x, rfl, x, rfl, fun D hD => lc_it walk_str (fun i H' => Same H H' ∧ H' D = some (.lst ((x.cps.toList.take i).map fun c => V.bl (low c)))) ⟨same_upd hD, upd_same⟩ (fun _ _ _ _ => trivial) ?_ ?_⟩
            · rintro i y H1 H2 hi ⟨sm, e⟩ ⟨rfl, c, hc, rfl⟩
              refine ⟨rfl, _, rfl, c, _, rfl, rfl, _, e, ?_, ?_⟩
              · have hxl : x.cps.size ≤ 100000 := hx
                rw [List.length_map, List.length_take, sizeLine_eq]
                omega
              · refine ⟨fun b o z => ?_, ?_⟩
                · rw [upd_ne (ne_of_none z hD)]
                  exact sm b o z
                · rw [upd_same, letters_low, List.take_add_one, show x.cps.toList[i]? = some c by rw [Array.getElem?_toList]; exact hc, List.map_append]
                  rfl
            · rintro H1 ⟨sm, e⟩
              refine ⟨D, x.cps.toList.map low, rfl, .inl (.inl ?_), ?_⟩
              · rw [e, List.take_of_length_le (by simp), List.map_map]
                rfl
              · have ea : (x.cps.toList.map low).all id = x.cps.toList.all low := by
                  rw [List.all_map]
                  rfl
                rw [ea]
                exact q H1 sm
        · rw [decide_eq_false h2]
          rw [decide_eq_false (show ¬ x.length ≤ 8 by omega), Bool.and_false] at q0
          exact iteT q0
      · rw [decide_eq_false h1]
        rw [decide_eq_false (show ¬ 1 ≤ x.length by omega)] at q0
        exact iteF ⟨_, rfl, iteT q0⟩
    | _ => exact iteT q0
/-! ### the law's own looks -/
abbrev sLName : Stmt := topS 29
theorem scLName : FnScope ["_law_it", "_law_sign"] ["_law_it"] (defScope sLName) := ⟨rfl, rfl, rfl, by decide +kernel, rfl, by decide +kernel, by decide +kernel⟩
theorem one_lt {a b : Nat} : [a] < [b] ↔ a < b := by
  rw [List.cons_lt_cons_iff]
  constructor
  · rintro (h | ⟨_, h⟩)
    · exact h
    · exact absurd h (List.not_lt_nil _)
  · exact .inl
theorem low_le (c : Nat) : (!decide ([c] < [97])) = decide (97 ≤ c) := by
  rw [← decide_not]
  exact decide_eq_decide.mpr ⟨fun h => Nat.le_of_not_lt fun z => h (one_lt.mpr z), fun h z => Nat.not_lt.mpr h (one_lt.mp z)⟩
theorem le_high (c : Nat) : (!decide ([122] < [c])) = decide (c ≤ 122) := by
  rw [← decide_not]
  exact decide_eq_decide.mpr ⟨fun h => Nat.le_of_not_lt fun z => h (one_lt.mpr z), fun h z => Nat.not_lt.mpr h (one_lt.mp z)⟩
theorem filter_low : ∀ l : List Nat, (l.filter fun c => !low c).isEmpty = l.all low
  | [] => rfl
  | c :: r => by
    rw [List.filter_cons, List.all_cons, ← filter_low r]
    cases h : low c <;> simp
theorem eqv_nil (ds : List PyData) : PyData.eqv (.list ds) (.list []) = ds.isEmpty := by
  cases ds <;> rfl
theorem dp_signs {K : PySem.W.Frag} {H : Hp} : ∀ l : List Nat, DpAll K H (l.map fun c => V.str ⟨#[c]⟩) (l.map fun c => .str ⟨#[c]⟩)
  | [] => .nil
  | c :: r => .cons (.str _) (dp_signs r)
theorem can_signs : ∀ l : List Nat, (∀ c ∈ l, c < 1114112) → PyData.canLayAll0 (l.map fun c => .str ⟨#[c]⟩) = true
  | [], _ => rfl
  | c :: r, h => by
    have e : decide (c < 0x110000) = true := decide_eq_true (h c List.mem_cons_self)
    rw [List.map_cons, PyData.canLayAll0, can_signs r fun d hd => h d (List.mem_cons_of_mem _ hd), Bool.and_true, PyData.canLay0]
    show PyData.strOk ⟨#[c]⟩ = true
    unfold PyData.strOk
    simp [e]
theorem depth_signs : ∀ l : List Nat, PyData.depthAll (l.map fun c => .str ⟨#[c]⟩) = 0
  | [] => rfl
  | c :: r => by
    rw [List.map_cons, PyData.depthAll, depth_signs r]
    rfl
theorem shaped_signs (l : List Nat) (h : ∀ c ∈ l, c < 1114112) : SeqAt.shaped (.list (l.map fun c => .str ⟨#[c]⟩)) = true := by
  unfold SeqAt.shaped
  rw [PyData.canLay0, can_signs l h, PyData.depth, depth_signs]
  rfl
theorem ok_lname {f pW : Addr} {fd : FuncData} {k : Nat} (F : Fun K "_law_is_name" "_law_is_name" sLName f fd) (G : Glob K mg pW) : FnOk P w K mg base CX0 (k + 1) f fd ["_law_it"] (fun vs H Q E => ∃ v, vs = [v] ∧ Ty7 K H v ∧ ∀ H', Same H H' → Q (.bl (nm v)) H') := by
  refine F.ok scLName (fun vs H Q E h => ?_) (fun cdv A outer s H vs Q E hr h => ?_)
  · obtain ⟨v, rfl, _⟩ := h
    rfl
  · obtain ⟨v, rfl, hT, q⟩ := h
    obtain ⟨t, ht, _, _, h3⟩ := hT.kind
    refine ⟨_, pss_cons (ps_if (PW.pt (pw_or (pt_not (pt_val (pe_callB call_isi (by rfl) G.isi (by decide +kernel) (pa_cons (pv 0) (pa_cons (pe_bltn (v := .ty "str") (by rfl) G.str (by decide +kernel) rfl) pa_nil)))))
        (pw_or (pt_cmpR op_lt (pe_callB call_len_str (by rfl) G.len PySem.boot_len (pa_cons (pv 0) pa_nil)) pe_int (nomark _))
          (pw_or1 (pt_cmpR op_gt (pe_callB call_len_str (by rfl) G.len PySem.boot_len (pa_cons (pv 0) pa_nil)) pe_int (nomark _))))))
        (pss_one (ps_ret pe_bl)) pss_nil)
      (pss_cons (ps_if (pt_cmpR op_in_seq (pv 0) (pe_lst (pa_cons pe_str (pa_cons pe_str (pa_cons pe_str (pa_cons pe_str (pa_cons pe_str (pa_cons pe_str pa_nil))))))) rfl) (pss_one (ps_ret pe_bl)) pss_nil)
      (pss_one (ps_ret (pe_cmpR (op_eqD hr.units)
        (pe_lc (own := [("_law_sign", 1)]) (g := gName 1) rfl scLName.nd (pi_str (pv 0)) (blkOk_by (own := [("_law_sign", 1)]) (N := ["_law_it", "_law_sign"]) (sc := defScope sLName) (by decide +kernel))
          (fun _ _ _ _ _ => pg_name (i := 1) scLName.nd rfl (Or.inl rfl)) (fun _ _ _ _ _ => pts_one (pt_not (pt_chain op_le_str op_le_str pe_str (pv 1) pe_str))) (fun _ _ _ _ _ => pv 1)) (pe_lst pa_nil) (nomark _))))), ?_⟩
    refine ⟨v, rfl, _, _, _, _, _, rfl, .ty "str", ht, kit_ty h3, _, rfl, ?_⟩
    have q0 := q H (Same.refl H)
    cases v with
    | str x =>
      have hx : x.length ≤ 100000 := by cases hT with | str _ h _ => exact h
      have hz : x.length ≤ sizeLine := by rw [sizeLine_eq]; omega
      have en : nm (.str x) = (decide (1 ≤ x.length) && decide (x.length ≤ 8) && !(six.any fun y => y == x) && x.cps.toList.all low) := rfl
      rw [en] at q q0
      refine iteF ⟨.str x, rfl, x, rfl, hz, _, _, rfl, rfl, _, rfl, ?_⟩
      have hk : ∀ c ∈ x.cps.toList, c < 1114112 := by cases hT with | str _ _ o => exact o
      by_cases h1 : (x.length : Int) < 1
      · rw [decide_eq_true h1]
        rw [decide_eq_false (show ¬ 1 ≤ x.length by omega)] at q0
        exact iteT q0
      · rw [decide_eq_false h1]
        refine iteF ⟨.str x, rfl, x, rfl, hz, _, _, rfl, rfl, _, rfl, ?_⟩
        by_cases h2 : (8 : Int) < x.length
        · rw [decide_eq_true h2]
          rw [decide_eq_false (show ¬ x.length ≤ 8 by omega), Bool.and_false] at q0
          exact iteT q0
        · rw [decide_eq_false h2]
          rw [decide_eq_true (show 1 ≤ x.length by omega), decide_eq_true (show x.length ≤ 8 by omega)] at q
          refine iteF ⟨.str x, rfl, (by show 6 ≤ sizeLine; decide), fun p hp => ⟨p, _, rfl, .inl (.inl (.inl upd_same)), rfl, rfl, _, rfl, ?_⟩⟩
          show if inV (.str x) (six.map V.str) = true then _ else _
          rw [inV_six]
          have sm1 := same_upd (o := .lst [.str "sum", .str "less", .str "times", .str "over", .str "below", .str "same"]) hp
          revert sm1
          generalize upd H p (.lst [.str "sum", .str "less", .str "times", .str "over", .str "below", .str "same"]) = H1
          intro sm1
          cases hs : (six.any fun y => y == x) with
          | true =>
            rw [hs] at q
            exact iteT (q _ sm1)
          | false =>
            rw [hs] at q
            refine iteF ?_
            refine ⟨.str x, rfl, x, rfl, fun D hD => lc_it walk_str (fun i H' => Same H H' ∧ H' D = some (.lst (((x.cps.toList.take i).filter fun c => !low c).map fun c => V.str ⟨#[c]⟩))) ⟨sm1.trans (same_upd hD), upd_same⟩ (fun _ _ _ _ => trivial) ?_ ?_⟩
            · rintro i y H2 H3 hi ⟨sm, e⟩ ⟨rfl, c, hc, rfl⟩
              have et : x.cps.toList.take (i + 1) = x.cps.toList.take i ++ [c] := by
                rw [List.take_add_one, show x.cps.toList[i]? = some c by rw [Array.getElem?_toList]; exact hc]
                rfl
              have el : decide (97 ≤ c) = true → decide (c ≤ 122) = true → low c = true := fun h h' => by
                unfold low
                rw [h, h']
                rfl
              have eh : decide (97 ≤ c) = false ∨ decide (c ≤ 122) = false → low c = false := fun h => by
                unfold low
                rcases h with h | h
                · rw [h]
                  rfl
                · rw [h, Bool.and_false]
              have stay : low c = true → Same H H3 ∧ H3 D = some (.lst (((x.cps.toList.take (i + 1)).filter fun c => !low c).map fun c => V.str ⟨#[c]⟩)) := fun h => by
                refine ⟨sm, ?_⟩
                rw [et, List.filter_append, List.filter_cons, h]
                simpa using e
              have more : low c = false → ∃ acc, H3 D = some (.lst acc) ∧ acc.length < sizeLine ∧ Same H (upd H3 D (.lst (acc ++ [.str ⟨#[c]⟩]))) ∧ upd H3 D (.lst (acc ++ [.str ⟨#[c]⟩])) D = some (.lst (((x.cps.toList.take (i + 1)).filter fun c => !low c).map fun c => V.str ⟨#[c]⟩)) := fun h => by
                refine ⟨_, e, ?_, fun b o z => ?_, ?_⟩
                · have hxl : x.cps.size ≤ 100000 := hx
                  rw [List.length_map, sizeLine_eq]
                  refine Nat.lt_of_le_of_lt (List.length_filter_le _ _) ?_
                  rw [List.length_take]
                  omega
                · rw [upd_ne (ne_of_none (sm1 _ _ z) hD)]
                  exact sm b o z
                · rw [upd_same, et, List.filter_append, List.filter_cons, h]
                  simp
              refine ⟨rfl, _, rfl, _, _, rfl, rfl, _, rfl, ?_⟩
              show if (!decide ([c] < [97])) = true then _ else _
              rw [low_le]
              cases g1 : decide (97 ≤ c) with
              | false => exact iteF ⟨_, rfl, _, rfl, more (eh (.inl g1))⟩
              | true =>
                refine iteT ⟨_, _, rfl, rfl, _, rfl, ?_⟩
                show if (!(!decide ([122] < [c]))) = true then _ else _
                rw [le_high]
                cases g2 : decide (c ≤ 122) with
                | false => exact iteT ⟨_, rfl, more (eh (.inr g2))⟩
                | true => exact iteF (stay (el g1 g2))
            · rintro H2 ⟨sm, e⟩
              rw [List.take_of_length_le (by simp)] at e
              refine ⟨Nat.zero_le _, fun r hr1 => ?_⟩
              refine ⟨.list ((x.cps.toList.filter fun c => !low c).map fun c => .str ⟨#[c]⟩), .list [], .lst (.inl (.inl (same_upd hr1 _ _ e))) (dp_signs _), .lst (.inl (.inl upd_same)) .nil, ?_, rfl, ?_⟩
              · exact shaped_signs _ fun c hc => hk c (List.mem_filter.mp hc).1
              · rw [eqv_nil, List.isEmpty_map, filter_low]
                exact q _ (sm.trans (same_upd hr1))
    | _ => exact iteT q0
abbrev sLWhole : Stmt := topS 30
theorem scLWhole : FnScope ["_law_it", "_law_last"] ["_law_it", "_law_last"] (defScope sLWhole) := ⟨rfl, rfl, rfl, by decide +kernel, rfl, by decide +kernel, by decide +kernel⟩
theorem ok_lwhole {f pW : Addr} {fd : FuncData} {k : Nat} (F : Fun K "_law_is_whole" "_law_is_whole" sLWhole f fd) (G : Glob K mg pW) : FnOk P w K mg base CX0 (k + 1) f fd ["_law_it", "_law_last"] (spUpTo K) := by
  refine F.ok scLWhole (fun vs H Q E h => ?_) (fun cdv A outer s H vs Q E hr h => ?_)
  · obtain ⟨v, hi, rfl, _⟩ := h
    rfl
  · obtain ⟨v, hi, rfl, hT, q⟩ := h
    obtain ⟨t, ht, h1, h2, _⟩ := hT.kind
    refine ⟨_, pss_one (ps_ret (pe_and (pe_callB call_isi (by rfl) G.isi (by decide +kernel) (pa_cons (pv 0) (pa_cons (pe_bltn (v := .ty "int") (by rfl) G.int (by decide +kernel) rfl) pa_nil)))
      (pe_and (pe_not (pe_callB call_isi (by rfl) G.isi (by decide +kernel) (pa_cons (pv 0) (pa_cons (pe_bltn (v := .ty "bool") (by rfl) G.bool (by decide +kernel) rfl) pa_nil))))
        (pe_and (pe_cmpR op_le pe_int (pv 0) (nomark _)) (pe_one (pe_cmpR op_le (pv 0) (pv 1) (nomark _))))))), ?_⟩
    refine ⟨v, rfl, _, _, _, _, _, rfl, .ty "int", ht, kit_ty h1, _, rfl, ?_⟩
    cases v with
    | int i =>
      refine iteT ⟨_, rfl, _, _, _, _, _, rfl, .ty "bool", ht, kit_ty h2, _, rfl, _, rfl, iteT ⟨_, rfl, _, _, rfl, rfl, _, rfl, ?_⟩⟩
      have q : Q (.bl (decide (0 ≤ i) && decide (i ≤ hi))) H := q
      by_cases h0 : (0 : Int) ≤ i
      · rw [decide_eq_true h0] at q ⊢
        exact iteT ⟨_, rfl, _, rfl, _, _, rfl, rfl, q⟩
      · rw [decide_eq_false h0] at q ⊢
        exact iteF q
    | bl b => exact iteT ⟨_, rfl, _, _, _, _, _, rfl, .ty "bool", ht, kit_ty h2, _, rfl, _, rfl, iteF q⟩
    | _ => exact iteF q
end
end K1
set_option Elab.async false
set_option linter.all false
set_option maxRecDepth 100000
set_option maxHeartbeats 4000000
namespace K1
open PySem PySem.Spec PyProof.Rows L2 KG
/-- data, and the empty dict -/
def Dq (K : PySem.W.Frag) (H : Hp) (v : V) (d : PyData) : Prop := (Dp K H v d ∧ d.hasDict = false) ∨ ∃ a, v = .ref a ∧ d = .dict [] ∧ H a = some (.dK [])
def rReprQ (K : PySem.W.Frag) : List V → Hp → VK → Prop := fun xs H Q => ∃ (v : V) (d : PyData), xs = [v] ∧ Dq K H v d ∧ d.showable = true ∧ d.shown.length ≤ sizeLine ∧ d.depth ≤ 50 ∧ Q (.str d.shown) H
theorem call_reprQ {X : Cx} {k : Nat} (hgd : Gd X.A) (hr : Room k X.A) : CallR X (.builtin "repr") (rReprQ X.K) := by
  intro pins s σ H xs us Q I r h
  obtain ⟨v, d, rfl, hd, hs, hz, hdp, q⟩ := h
  rcases hd with ⟨hd, hn⟩ | ⟨a, rfl, rfl, ha⟩
  · exact call_reprD hgd hr pins s σ H [v] us Q I r ⟨v, d, rfl, hd, hs, hn, hz, hdp, q⟩
  · obtain ⟨u, rfl, ru⟩ := vals1 r
    cases ru
    obtain ⟨_, hne, vs, kv, o, es, ep, h1, h2, h3⟩ := I.hok a _ ha
    obtain ⟨e1, _, e2, _⟩ := h3
    have hu := hr.units
    have en : es.toList = [] := by
      cases kv
      cases hl : es.toList with
      | nil => rfl
      | cons x l =>
        rw [hl] at e2
        cases e2
    have rd : Reads s.heap (.ref a) (.dict []) (a :: [] ++ []) := by
      refine .dict h1 h2.1 e1 ?_ ?_ <;> (rw [en]; exact .nil)
    refine repr_of_reads' rd hs (fun _ => ?_) hgd (by omega) (fun _ _ e => e) (fun h' u tk hk => ?_) hz
    · have ne : a ≠ sysModules := fun e => by
        rw [e] at hne
        simp at hne
      simpa using ne.symm
    · exact ⟨.str _, H, I.kept (t' := tk) hk, ⟨_, rfl⟩, q⟩
mutual
theorem dp_same {K : PySem.W.Frag} {H H' : Hp} (s : Same H H') : ∀ (d : PyData) (v : V), Dp K H v d → Dp K H' v d
  | _, _, .non => .non
  | _, _, .bl b => .bl b
  | _, _, .int i => .int i
  | _, _, .str x => .str x
  | .list ds, _, .lst h1 h2 => .lst (s.seq h1) (dp_sameAll s ds _ h2)
  | .tuple ds, _, .tup h1 h2 => .tup (Same.sqt s h1) (dp_sameAll s ds _ h2)
theorem dp_sameAll {K : PySem.W.Frag} {H H' : Hp} (s : Same H H') : ∀ (ds : List PyData) (vs : List V), DpAll K H vs ds → DpAll K H' vs ds
  | _, _, .nil => .nil
  | _, _, .cons h1 h2 => .cons (dp_same s _ _ h1) (dp_sameAll s _ _ h2)
end
theorem Dq.same {K : PySem.W.Frag} {H H' : Hp} {v : V} {d : PyData} (h : Dq K H v d) (s : Same H H') : Dq K H' v d := by
  rcases h with ⟨h, n⟩ | ⟨a, rfl, rfl, h⟩
  · exact .inl ⟨dp_same s d v h, n⟩
  · exact .inr ⟨a, rfl, rfl, s _ _ h⟩
/-- a thing that a law may look at: its data, its kind, its text -/
structure Th (K : PySem.W.Frag) (H : Hp) (v : V) : Prop where
  ty : Ty7 K H v
  d : ∃ d, Dq K H v d ∧ d.showable = true ∧ d.shown.length ≤ 1000000 ∧ d.depth ≤ 40
theorem Th.same {K : PySem.W.Frag} {H H' : Hp} {v : V} (h : Th K H v) (s : Same H H') : Th K H' v := by
  obtain ⟨h1, d, h2, h3⟩ := h
  exact ⟨h1.same s, d, h2.same s, h3⟩
def d3 (b1 b2 b3 : Bool) : PyData := .list [.bool b1, .bool b2, .bool b3]
theorem d3_ok (b1 b2 b3 : Bool) : (d3 b1 b2 b3).showable = true ∧ (d3 b1 b2 b3).shown.length ≤ sizeLine ∧ (d3 b1 b2 b3).depth ≤ 50 ∧ (d3 b1 b2 b3).hasDict = false := by
  cases b1 <;> cases b2 <;> cases b3 <;> decide +kernel
theorem dp3 {K : PySem.W.Frag} {H : Hp} {p : Addr} {a b c : Bool} : Dp K (upd H p (.lst [.bl a, .bl b, .bl c])) (.ref p) (d3 a b c) :=
  .lst (.inl (.inl upd_same)) (.cons (.bl _) (.cons (.bl _) (.cons (.bl _) .nil)))
section
variable {P : Program} {w : World} {K : PySem.W.Frag} {mg : Str → Option Value} {base : Heap}
abbrev sRight : Stmt := topS 31
theorem scRight : FnScope ["_law_it", "_law_kept", "_law_due_here", "_law_again"] ["_law_it"] (defScope sRight) := ⟨rfl, rfl, rfl, by decide +kernel, rfl, by decide +kernel, by decide +kernel⟩
/-- all that right calls -/
structure RDefs (K : PySem.W.Frag) (mg : Str → Option Value) : Prop where
  lname : ∃ f fd, Def K mg "_law_is_name" sLName ["_law_it"] f fd
  lwhole : ∃ f fd, Def K mg "_law_is_whole" sLWhole ["_law_it", "_law_last"] f fd
  whole : ∃ f fd, Def K mg "is_whole" sWhole ["thing"] f fd
  upTo : ∃ f fd, Def K mg "is_up_to" sUpTo ["thing", "highest"] f fd
  name : ∃ f fd, Def K mg "is_name" sName ["thing"] f fd ∧ KwOnly K fd ["thing"] ["thing"] (fun {_} l => l)
  number : ∃ f fd, Def K mg "is_number" sNumber ["thing"] f fd ∧ KwOnly K fd ["thing"] ["thing"] (fun {_} l => l)
  depth : ∃ f fd, Def K mg "is_depth" sDepth ["thing"] f fd ∧ KwOnly K fd ["thing"] ["thing"] (fun {_} l => l)
def spRight (K : PySem.W.Frag) : Sp := fun vs H Q _ => ∃ v, vs = [v] ∧ Th K H v ∧ ∀ H', Same H H' → Q (.bl true) H'
theorem ok_right {f pW : Addr} {fd : FuncData} {k : Nat} (F : Fun K "_law_right" "_law_right" sRight f fd) (G : Glob K mg pW) (D : RDefs K mg) : FnG P w K mg base (k + 4) f fd ["_law_it"] (spRight K) := by
  obtain ⟨⟨f1, fd1, D1⟩, ⟨f2, fd2, D2⟩, ⟨f3, fd3, D3⟩, ⟨f4, fd4, D4⟩, ⟨f5, fd5, D5, K5⟩, ⟨f6, fd6, D6, K6⟩, ⟨f7, fd7, D7, K7⟩⟩ := D
  have G1 := ok_lname (P := P) (w := w) (base := base) (k := k) D1.fn G
  have G2 := ok_lwhole (P := P) (w := w) (base := base) (k := k) D2.fn G
  have G5 := ok_name (P := P) (w := w) (base := base) (k := k) D5.fn G
  have G6 := ok_number (P := P) (w := w) (base := base) (k := k) D6.fn G D3 D4
  have G7 := ok_depth (P := P) (w := w) (base := base) (k := k) D7.fn G D3 D4
  refine okG F scRight (fun vs H Q E h => ?_) (fun cdv A outer s H vs Q hgd hr h => ?_)
  · obtain ⟨v, rfl, _⟩ := h
    rfl
  · obtain ⟨v, rfl, hT, q⟩ := h
    have h1 : Room (k + 1) _ := hr.mono (by omega)
    refine ⟨_, pss_cons (ps_par (i := 1) (j := 2) (by rfl) scRight.nd rfl rfl (by decide) rfl rfl (pa_cons (pe_callB (call_reprQ hgd hr) (by rfl) G.repr (by decide +kernel) (pa_cons (pv 0) pa_nil)) (pa_cons
          (pe_callB (call_reprD hgd hr) (by rfl) G.repr (by decide +kernel) (pa_cons (pe_lst (pa_cons (pe_call G1 h1 (by rfl) D1.at_ D1.fn.kp D1.b .nil pass0 (pa_cons (pv 0) pa_nil))
            (pa_cons (pe_call G2 h1 (by rfl) D2.at_ D2.fn.kp D2.b .nil pass0 (pa_cons (pv 0) (pa_cons pe_int pa_nil))) (pa_cons (pe_call G2 h1 (by rfl) D2.at_ D2.fn.kp D2.b .nil pass0 (pa_cons (pv 0) (pa_cons pe_int pa_nil))) pa_nil)))) pa_nil)) pa_nil)) (by rfl))
      (pss_cons (ps_for PassesOwn.never rfl (pi_range1 rfl G.range (pa_cons pe_int pa_nil)) (pg_name (i := 3) scRight.nd rfl (.inl rfl))
        (pss_one (ps_if (pt_cmpR op_ne (pe_callB (call_reprD hgd hr) (by rfl) G.repr (by decide +kernel) (pa_cons (pe_lst (pa_cons (pe_call G5 h1 (by rfl) D5.at_ D5.fn.kp D5.b .nil pass0 (pa_cons (pv 0) pa_nil))
            (pa_cons (pe_call G6 hr (by rfl) D6.at_ D6.fn.kp D6.b .nil pass0 (pa_cons (pv 0) pa_nil)) (pa_cons (pe_call G7 hr (by rfl) D7.at_ D7.fn.kp D7.b .nil pass0 (pa_cons (pv 0) pa_nil)) pa_nil)))) pa_nil)) (pv 2) (nomark _))
          (pss_one (ps_ret pe_bl)) pss_nil)))
      (pss_one (ps_ret (pe_and (pe_cmpR op_eq (pe_callB (call_reprD hgd hr) (by rfl) G.repr (by decide +kernel) (pa_cons (pe_lst (pa_cons (pe_kwG (FnG.of G5) hgd h1 (by rfl) D5.at_ D5.fn.kp K5 (pk_cons (pv 0) pk_nil))
            (pa_cons (pe_kwG (FnG.of G6) hgd hr (by rfl) D6.at_ D6.fn.kp K6 (pk_cons (pv 0) pk_nil)) (pa_cons (pe_kwG (FnG.of G7) hgd hr (by rfl) D7.at_ D7.fn.kp K7 (pk_cons (pv 0) pk_nil)) pa_nil)))) pa_nil)) (pv 2) (nomark _))
          (pe_one (pe_cmpR op_eq (pe_callB (call_reprQ hgd hr) (by rfl) G.repr (by decide +kernel) (pa_cons (pv 0) pa_nil)) (pv 1) (nomark _))))))), ?_⟩
    obtain ⟨ty, d, hD, hs, hz, hdp⟩ := hT
    have hz' : d.shown.length ≤ sizeLine := by rw [sizeLine_eq]; omega
    obtain ⟨o1, o2, o3, o4⟩ := d3_ok (nm v) (upTo 65535 v) (upTo 3 v)
    have three : (3 : Nat) ≤ sizeLine := by decide
    refine ⟨v, rfl, v, d, rfl, hD, hs, hz', by omega, v, rfl, v, rfl, ty, fun H1 s1 => ⟨v, rfl, v, 65535, rfl, ty.same s1, v, rfl, v, 3, rfl, ty.same s1, three, fun p hp => ⟨.ref p, d3 (nm v) (upTo 65535 v) (upTo 3 v), rfl, dp3, o1, o4, o2, o3, _, _, rfl, ?_⟩⟩⟩
    have sm1 : Same H (upd H1 p (.lst [.bl (nm v), .bl (upTo 65535 v), .bl (upTo 3 v)])) := s1.trans (same_upd hp)
    revert sm1
    show _ → tSeq _ _ _ _ (upd H1 p (.lst [.bl (nm v), .bl (upTo 65535 v), .bl (upTo 3 v)]))
    generalize upd H1 p (.lst [.bl (nm v), .bl (upTo 65535 v), .bl (upTo 3 v)]) = H2
    intro sm1
    refine ⟨2, rfl, by decide, by decide, for_range (n := 2) (fun i σ H' => Same H H' ∧ ∃ y, σ = [some v, some (.str d.shown), some (.str (d3 (nm v) (upTo 65535 v) (upTo 3 v)).shown), y]) ⟨sm1, none, rfl⟩ ?_ ?_⟩
    · rintro i σ H3 hi ⟨sm, y, rfl⟩
      refine ⟨v, rfl, v, rfl, ty.same sm, fun H4 s4 => ⟨v, rfl, v, rfl, (ty.same sm).same s4, v, rfl, v, rfl, (ty.same sm).same s4, three, fun p hp => ⟨.ref p, d3 (nm v) (upTo 65535 v) (upTo 3 v), rfl, dp3, o1, o4, o2, o3, _, rfl, rfl, _, rfl, ?_⟩⟩⟩
      exact iteNS rfl ⟨(sm.trans s4).trans (same_upd hp), _, rfl⟩
    · rintro σ H3 ⟨sm, y, rfl⟩
      refine ⟨v, rfl, rfl, v, rfl, ty.same sm, fun H4 s4 => ⟨v, rfl, rfl, v, rfl, (ty.same sm).same s4, v, rfl, rfl, v, rfl, (ty.same sm).same s4, three, fun p hp => ⟨.ref p, d3 (nm v) (upTo 65535 v) (upTo 3 v), rfl, dp3, o1, o4, o2, o3, _, rfl, rfl, _, rfl, ?_⟩⟩⟩
      have sm5 : Same H (upd H4 p (.lst [.bl (nm v), .bl (upTo 65535 v), .bl (upTo 3 v)])) := (sm.trans s4).trans (same_upd hp)
      rw [decide_eq_true rfl]
      refine iteT ⟨v, rfl, v, d, rfl, hD.same sm5, hs, hz', by omega, _, rfl, rfl, ?_⟩
      rw [decide_eq_true rfl]
      exact q _ sm5
end
end K1
set_option Elab.async false
set_option linter.all false
set_option maxRecDepth 100000
set_option maxHeartbeats 4000000
namespace K1
open PySem PySem.Spec PyProof.Rows L2 KG KL LamX NdefX
/-! ### terms -/
inductive Tm where
  | num (k : Int)
  | nam (x : Str)
  | op (w : Str) (t u : Tm)
def Tm.dep : Tm → Nat
  | .num _ => 1
  | .nam _ => 1
  | .op _ t u => max t.dep u.dep + 1
theorem Tm.dep_pos : ∀ t : Tm, 1 ≤ t.dep
  | .num _ => Nat.le_refl _
  | .nam _ => Nat.le_refl _
  | .op _ _ _ => Nat.le_add_left _ _
inductive TmAt (K : PySem.W.Frag) (H : Hp) : V → Tm → Prop
  | num {p : Addr} {k : Int} (h : SqT K H p [.str "num", .int k]) : TmAt K H (.ref p) (.num k)
  | nam {p : Addr} {x : Str} (h : SqT K H p [.str "name", .str x]) : TmAt K H (.ref p) (.nam x)
  | op {p : Addr} {w : Str} {v1 v2 : V} {t u : Tm} (hw : w ∈ six) (h : SqT K H p [.str w, v1, v2]) (h1 : TmAt K H v1 t) (h2 : TmAt K H v2 u) : TmAt K H (.ref p) (.op w t u)
theorem TmAt.same {K : PySem.W.Frag} {H H' : Hp} (s : Same H H') : ∀ {v : V} {t : Tm}, TmAt K H v t → TmAt K H' v t
  | _, _, .num h => .num (Same.sqt s h)
  | _, _, .nam h => .nam (Same.sqt s h)
  | _, _, .op hw h h1 h2 => .op hw (Same.sqt s h) (TmAt.same s h1) (TmAt.same s h2)
/-- what a word tells of two numbers -/
def by2 (w : Str) (a b : Int) : Int :=
  if w = "sum" then (a + b) % 65536 else if w = "less" then (a - b) % 65536 else if w = "times" then a * b % 65536 else
  if w = "over" then (if b ≠ 0 then a / b else 0) else if w = "below" then (if a < b then 1 else 0) else (if a = b then 1 else 0)
def ev (e : Str → Int) : Tm → Int
  | .num k => k
  | .nam x => e x
  | .op w t u => by2 w (ev e t) (ev e u)
def Rng (a : Int) : Prop := 0 ≤ a ∧ a < 65536
/-- numbers in range, names among some -/
def Tm.Ok (ns : List Str) : Tm → Prop
  | .num k => Rng k
  | .nam x => x ∈ ns
  | .op w t u => t.Ok ns ∧ u.Ok ns
theorem by2_rng {w : Str} {a b : Int} (ha : Rng a) (hb : Rng b) : Rng (by2 w a b) := by
  unfold by2 Rng at *
  split
  · omega
  · split
    · omega
    · split
      · exact ⟨Int.emod_nonneg _ (by decide), Int.emod_lt_of_pos _ (by decide)⟩
      · split
        · split
          · refine ⟨Int.ediv_nonneg ha.1 hb.1, Int.lt_of_le_of_lt (Int.ediv_le_self _ ha.1) ha.2⟩
          · decide
        · split
          · split <;> decide
          · split <;> decide
theorem ev_rng {e : Str → Int} {ns : List Str} (he : ∀ x ∈ ns, Rng (e x)) : ∀ t : Tm, t.Ok ns → Rng (ev e t)
  | .num k, h => h
  | .nam x, h => he x h
  | .op w t u, h => by2_rng (ev_rng he t h.1) (ev_rng he u h.2)
section
variable {P : Program} {w : World} {K : PySem.W.Frag} {mg : Str → Option Value} {base : Heap}
/-! ### worth_by -/
abbrev sBy : Stmt := topS 18
theorem scBy : FnScope ["word", "one", "other"] ["word", "one", "other"] (defScope sBy) := ⟨rfl, rfl, rfl, by decide +kernel, rfl, by decide +kernel, by decide +kernel⟩
def spBy : Sp := fun vs H Q _ => ∃ (wd : Str) (a b : Int), vs = [.str wd, .int a, .int b] ∧ Rng a ∧ Rng b ∧ Q (.int (by2 wd a b)) H
theorem strV {a b : Str} : decide (V.str a = V.str b) = decide (a = b) := decide_eq_decide.mpr ⟨V.str.inj, congrArg _⟩
theorem intV {a b : Int} : decide (V.int a = V.int b) = decide (a = b) := decide_eq_decide.mpr ⟨V.int.inj, congrArg _⟩
theorem ok_by {f pW : Addr} {fd : FuncData} {k : Nat} (F : Fun K "worth_by" "worth_by" sBy f fd) (G : Glob K mg pW) : FnOk P w K mg base CX0 (k + 1) f fd ["word", "one", "other"] spBy := by
  obtain ⟨t1, g1⟩ := G.SUM
  obtain ⟨t2, g2⟩ := G.LESS
  obtain ⟨t3, g3⟩ := G.TIMES
  obtain ⟨t4, g4⟩ := G.OVER
  obtain ⟨t5, g5⟩ := G.BELOW
  obtain ⟨t6, g6⟩ := G.ROUND
  refine F.ok scBy (fun vs H Q E h => ?_) (fun cdv A outer s H vs Q E hr h => ?_)
  · obtain ⟨wd, a, b, rfl, _⟩ := h
    rfl
  · obtain ⟨wd, a, b, rfl, ⟨a0, a1⟩, ⟨b0, b1⟩, q⟩ := h
    refine ⟨_, pss_cons (ps_if (pt_cmpR op_eq (pv 0) (pe_glob (v := .str "sum") (by rfl) g1 ⟨_, rfl⟩) (nomark _)) (pss_one (ps_ret (pe_op op_mod (pe_op op_add (pv 1) (pv 2)) (pe_glob (v := .int 65536) (by rfl) g6 ⟨_, rfl⟩)))) pss_nil)
      (pss_cons (ps_if (pt_cmpR op_eq (pv 0) (pe_glob (v := .str "less") (by rfl) g2 ⟨_, rfl⟩) (nomark _)) (pss_one (ps_ret (pe_op op_mod (pe_op op_sub (pv 1) (pv 2)) (pe_glob (v := .int 65536) (by rfl) g6 ⟨_, rfl⟩)))) pss_nil)
      (pss_cons (ps_if (pt_cmpR op_eq (pv 0) (pe_glob (v := .str "times") (by rfl) g3 ⟨_, rfl⟩) (nomark _)) (pss_one (ps_ret (pe_op op_mod (pe_op op_mul (pv 1) (pv 2)) (pe_glob (v := .int 65536) (by rfl) g6 ⟨_, rfl⟩)))) pss_nil)
      (pss_cons (ps_if (pt_cmpR op_eq (pv 0) (pe_glob (v := .str "over") (by rfl) g4 ⟨_, rfl⟩) (nomark _)) (pss_one (ps_ret (pe_ifExp (pt_cmpR op_ne (pv 2) pe_int (nomark _)) (pe_op op_fdiv (pv 1) (pv 2)) pe_int))) pss_nil)
      (pss_one (ps_ret (pe_callTy call_int1 (by rfl) G.int (by decide +kernel) (pa_cons (pe_ifExp (pt_cmpR op_eq (pv 0) (pe_glob (v := .str "below") (by rfl) g5 ⟨_, rfl⟩) (nomark _)) (pe_cmpR op_lt (pv 1) (pv 2) (nomark _)) (pe_cmpR op_eq (pv 1) (pv 2) (nomark _))) pa_nil))))))), ?_⟩
    unfold by2 at q
    have M : (0 : Int) < 65536 := by decide
    refine ⟨_, rfl, rfl, _, rfl, ?_⟩
    rw [strV]
    refine ite2 (fun e => ?_) (fun e => ?_)
    · rw [if_pos (of_decide_eq_true e)] at q
      exact ⟨_, rfl, _, rfl, _, _, rfl, rfl, _, _, rfl, rfl, M, q⟩
    rw [if_neg (fun z => e (decide_eq_true z))] at q
    refine ⟨_, rfl, rfl, _, rfl, ?_⟩
    rw [strV]
    refine ite2 (fun e => ?_) (fun e => ?_)
    · rw [if_pos (of_decide_eq_true e)] at q
      exact ⟨_, rfl, _, rfl, _, _, rfl, rfl, _, _, rfl, rfl, M, q⟩
    rw [if_neg (fun z => e (decide_eq_true z))] at q
    refine ⟨_, rfl, rfl, _, rfl, ?_⟩
    rw [strV]
    refine ite2 (fun e => ?_) (fun e => ?_)
    · rw [if_pos (of_decide_eq_true e)] at q
      exact ⟨_, rfl, _, rfl, _, _, rfl, rfl, .inl ⟨by omega, by omega⟩, _, _, rfl, rfl, M, q⟩
    rw [if_neg (fun z => e (decide_eq_true z))] at q
    refine ⟨_, rfl, rfl, _, rfl, ?_⟩
    rw [strV]
    refine ite2 (fun e => ?_) (fun e => ?_)
    · rw [if_pos (of_decide_eq_true e)] at q
      refine ⟨_, rfl, rfl, _, rfl, ?_⟩
      rw [intV]
      by_cases hb : b = 0
      · rw [if_neg (by simpa using hb)] at q
        rw [decide_eq_true hb]
        exact iteF q
      · rw [if_pos hb] at q
        rw [decide_eq_false hb]
        exact iteT ⟨_, rfl, _, rfl, _, _, rfl, rfl, ⟨by omega, by omega⟩, q⟩
    rw [if_neg (fun z => e (decide_eq_true z))] at q
    refine ⟨_, rfl, rfl, _, rfl, ?_⟩
    rw [strV]
    refine ite2 (fun e => ?_) (fun e => ?_)
    · rw [if_pos (of_decide_eq_true e)] at q
      refine ⟨_, rfl, _, rfl, _, _, rfl, rfl, .inr ⟨_, rfl, ?_⟩⟩
      simpa using q
    · rw [if_neg (fun z => e (decide_eq_true z))] at q
      refine ⟨_, rfl, _, rfl, rfl, .inr ⟨_, rfl, ?_⟩⟩
      rw [intV]
      simpa using q
/-! ### worth_at: its lambda is that of worth_in -/
abbrev sIn : Stmt := topS 20
def lamE : Expr := match defBody sIn with
  | [.Return (some (.Call _ [_, l] _ _)) _] => l
  | _ => .Name "" ⟨0, 0, 0, 0⟩
def lamA : Arguments := match lamE with
  | .Lambda a _ _ _ => a
  | _ => defArgs sIn
def lamB : Expr := match lamE with
  | .Lambda _ b _ _ => b
  | e => e
def lamS : Scope := match lamE with
  | .Lambda _ _ s _ => s
  | _ => defScope sIn
def lamP : Pos := match lamE with
  | .Lambda _ _ _ p => p
  | _ => ⟨0, 0, 0, 0⟩
theorem nsLam : NScope ["leaf", "numbers"] ["leaf"] ["numbers"] lamS := nscope_by (by decide +kernel)
def DictIs (H : Hp) (d : Addr) (ns : List Str) (e : Str → Int) : Prop := ∃ kvs, H d = some (.dK kvs) ∧ ∀ x ∈ ns, valV kvs (Sum.inr x) = some (.int (e x))
theorem DictIs.same {H H' : Hp} {d : Addr} {ns : List Str} {e : Str → Int} (h : DictIs H d ns e) (s : Same H H') : DictIs H' d ns e := by
  obtain ⟨kvs, h1, h2⟩ := h
  exact ⟨kvs, s _ _ h1, h2⟩
abbrev sAt : Stmt := topS 19
theorem scAt : FnScope ["term", "number_of"] ["term", "number_of"] (defScope sAt) := ⟨rfl, rfl, rfl, by decide +kernel, rfl, by decide +kernel, by decide +kernel⟩
def spAt (K : PySem.W.Frag) (d : Nat) (F : NF) (fl : Addr) (ws : List (Option V)) : Sp := fun vs H Q _ => ∃ (v : V) (t : Tm) (dct : Addr) (ns : List Str) (e : Str → Int), vs = [v, .ref fl] ∧ ws = [some (.ref dct)] ∧ TmAt K H v t ∧ t.dep ≤ d ∧
  H F.c = some (CodeO F.c F.qual) ∧ DictIs H dct ns e ∧ t.Ok ns ∧ (∀ x ∈ ns, Rng (e x)) ∧ ∀ H', Same H H' → Q (.int (ev e t)) H'
theorem inV_str {x : Str} {l : List Str} (h : x ∈ l) : inV (.str x) (l.map V.str) = true := by
  unfold inV
  rw [List.any_map, List.any_eq_true]
  exact ⟨x, h, by simp [eqV]⟩
theorem ninV_str {x : Str} {l : List Str} (h : x ∉ l) : inV (.str x) (l.map V.str) = false := by
  unfold inV
  rw [List.any_map, List.any_eq_false]
  intro y hy z
  have z' : (y == x) = true := z
  exact h ((beq_iff_eq.mp z') ▸ hy)
theorem six_ne {w : Str} (h : w ∈ six) : w ≠ "num" := fun e => by
  rw [e] at h
  exact absurd h (by decide +kernel)
theorem ok_at {f pW fB : Addr} {fd fdB : FuncData} (D : Def K mg "worth_at" sAt ["term", "number_of"] f fd) (G : Glob K mg pW) (DB : Def K mg "worth_by" sBy ["word", "one", "other"] fB fdB) (F : NF) (fl : Addr) (ws : List (Option V)) (pm ctv : Value) (hA : F.params = lamA) (hS : F.scope = lamS) :
    ∀ d : Nat, FnL P w K mg base F (lamO F lamB pm ctv) fl ["numbers"] ws (d + 2) f fd ["term", "number_of"] (spAt K d F fl ws)
  | 0 => ⟨fun vs H Q E h => by obtain ⟨v, t, dct, ns, e, rfl, _⟩ := h; rfl, fun A outer s H args us vs Q _ _ _ _ _ h => by
      obtain ⟨v, t, dct, ns, e, _, _, _, hd, _⟩ := h
      exact absurd (Nat.le_trans t.dep_pos hd) (by decide)⟩
  | d + 1 => by
    have IH := ok_at D G DB F fl ws pm ctv hA hS d
    have GB : FnOk P w K mg base CX0 (0 + 1) fB fdB ["word", "one", "other"] spBy := ok_by DB.fn G
    obtain ⟨t1, gN⟩ := G.NUM
    refine okL D.fn scAt (fun vs H Q E h => ?_) (fun cdv A outer s H vs Q hr hL h => ?_)
    · obtain ⟨v, t, dct, ns, e, rfl, _⟩ := h
      rfl
    · obtain ⟨v, t, dct, ns, e, rfl, hws, hv, hd, hc, hD, hok, hrg, q⟩ := h
      subst hws
      obtain ⟨nm, ql, pr, bd, sc, cl, c⟩ := F
      dsimp only at hA hS hc
      subst hA hS
      have h1 : Room (0 + 1) _ := hr.mono (by omega)
      refine ⟨_, pss_cons (ps_if (pt_cmpR op_eq (pe_ix ix_tup (pv 0) pe_int (fun _ _ => rfl)) (pe_glob (v := .str "num") (by rfl) gN ⟨_, rfl⟩) (nomark _)) (pss_one (ps_ret (pe_ix ix_tup (pv 0) pe_int (fun _ _ => rfl)))) pss_nil)
        (pss_cons (ps_if (pt_cmpR op_in_seq (pe_ix ix_tup (pv 0) pe_int (fun _ _ => rfl)) (pe_glob (v := .ref pW) (by rfl) G.WORDS rfl) rfl)
          (pss_one (ps_ret (pe_call GB h1 (by rfl) DB.at_ DB.fn.kp DB.b .nil pass0 (pa_cons (pe_ix ix_tup (pv 0) pe_int (fun _ _ => rfl))
            (pa_cons (pe_callLL IH hL rfl hr (by rfl) D.at_ D.fn.kp D.b (pa_cons (pe_ix ix_tup (pv 0) pe_int (fun _ _ => rfl)) (pa_cons (pv 1) pa_nil)))
            (pa_cons (pe_callLL IH hL rfl hr (by rfl) D.at_ D.fn.kp D.b (pa_cons (pe_ix ix_tup (pv 0) pe_int (fun _ _ => rfl)) (pa_cons (pv 1) pa_nil))) pa_nil)))))) pss_nil)
        (pss_one (ps_ret (pe_lamL (i := 1) (k := 0) (tb := tDGet (tVar 1) (tOp (rIxT K) (tVar 0) (tC (.int 1)))) nsLam hL rfl h1 (fun us hl => match us, hl with | [_], _ => rfl)
          (fun s H hr' => pe_dget (hu_of hr') (pv 1) (pe_ix ix_tup (pv 0) pe_int (fun _ _ => rfl)) (fun _ _ => rfl)) rfl (.inl rfl) (pa_cons (pv 0) pa_nil))))), ?_⟩
      cases hv with
      | @num p kk h0 =>
        refine ⟨_, rfl, p, _, 0, _, rfl, rfl, h0, rfl, rfl, _, rfl, ?_⟩
        rw [decide_eq_true rfl]
        exact iteT ⟨_, rfl, p, _, 1, _, rfl, rfl, h0, rfl, q H (Same.refl H)⟩
      | @nam p x h0 =>
        refine ⟨_, rfl, p, _, 0, _, rfl, rfl, h0, rfl, rfl, _, rfl, ?_⟩
        rw [strV, decide_eq_false (by decide +kernel)]
        refine iteF ⟨_, rfl, p, _, 0, _, rfl, rfl, h0, rfl, pW, _, rfl, .inr (G.words _), rfl, rfl, _, rfl, ?_⟩
        show if inV (.str "name") (six.map V.str) = true then _ else _
        rw [ninV_str (by decide +kernel)]
        refine iteF ?_
        obtain ⟨kvs, hk1, hk2⟩ := hD
        refine ⟨rfl, _, rfl, rfl, hc, .ref dct, rfl, .ref p, rfl, p, _, 1, .str x, rfl, rfl, h0, rfl, dct, .int (e x), rfl, ?_, q H (Same.refl H)⟩
        have z := DGet.k (k := Sum.inr x) hk1
        rw [hk2 x hok] at z
        exact z
      | @op p wd v1 v2 t1 t2 hw h0 ht1 ht2 =>
        have hd1 : t1.dep ≤ d := by
          have : max t1.dep t2.dep + 1 ≤ d + 1 := hd
          omega
        have hd2 : t2.dep ≤ d := by
          have : max t1.dep t2.dep + 1 ≤ d + 1 := hd
          omega
        refine ⟨_, rfl, p, _, 0, _, rfl, rfl, h0, rfl, rfl, _, rfl, ?_⟩
        rw [strV, decide_eq_false (six_ne hw)]
        refine iteF ⟨_, rfl, p, _, 0, _, rfl, rfl, h0, rfl, pW, _, rfl, .inr (G.words _), rfl, rfl, _, rfl, ?_⟩
        show if inV (.str wd) (six.map V.str) = true then _ else _
        rw [inV_str hw]
        refine iteT ⟨_, rfl, p, _, 0, _, rfl, rfl, h0, rfl, _, rfl, p, _, 1, _, rfl, rfl, h0, rfl, _, rfl, v1, t1, dct, ns, e, rfl, rfl, ht1, hd1, hc, hD, hok.1, hrg, fun H1 s1 => ?_⟩
        refine ⟨_, rfl, p, _, 2, _, rfl, rfl, Same.sqt s1 h0, rfl, _, rfl, v2, t2, dct, ns, e, rfl, rfl, ht2.same s1, hd2, s1 _ _ hc, hD.same s1, hok.2, hrg, fun H2 s2 => ?_⟩
        exact ⟨wd, _, _, rfl, ev_rng hrg t1 hok.1, ev_rng hrg t2 hok.2, q _ (s1.trans s2)⟩
end
end K1
set_option Elab.async false
set_option linter.all false
set_option maxRecDepth 100000
set_option maxHeartbeats 4000000
namespace K1
open PySem PySem.Spec PyProof.Rows L2 KG KL LamX NdefX
theorem ExtN.sqt {K : PySem.W.Frag} {H H' : Hp} {a : Addr} {xs : List V} (e : ExtN H H') (h : SqT K H a xs) : SqT K H' a xs := by
  rcases h with (h | ⟨o, h⟩) | h
  · exact .inl (.inl (e _ _ h fun ps z => nomatch z))
  · exact .inl (.inr ⟨o, e _ _ h fun ps z => nomatch z⟩)
  · exact .inr h
theorem TmAt.ext {K : PySem.W.Frag} {H H' : Hp} (s : ExtN H H') : ∀ {v : V} {t : Tm}, TmAt K H v t → TmAt K H' v t
  | _, _, .num h => .num (ExtN.sqt s h)
  | _, _, .nam h => .nam (ExtN.sqt s h)
  | _, _, .op hw h h1 h2 => .op hw (ExtN.sqt s h) (TmAt.ext s h1) (TmAt.ext s h2)
theorem DictIs.ext {H H' : Hp} {d : Addr} {ns : List Str} {e : Str → Int} (h : DictIs H d ns e) (s : ExtN H H') : DictIs H' d ns e := by
  obtain ⟨kvs, h1, h2⟩ := h
  exact ⟨kvs, s _ _ h1 (fun ps z => nomatch z), h2⟩
theorem same_ext {H H' : Hp} (s : Same H H') : ExtN H H' := fun b o h _ => s b o h
/-- a def whose code object is known -/
structure DefC (K : PySem.W.Frag) (mg : Str → Option Value) (x : Str) (st : Stmt) (ps : List Str) (f c : Addr) (fd : FuncData) : Prop where
  ex : ∃ (oc : Value) (od : Option Addr) (kV doc pm : Value) (an : Option Addr) (ct : Value) (osl : Array (Option Value)),
    fd = PySem.W.fnOf x x (defArgs st) (defBody st) (defScope st) .none kV doc pm an (.ref c) ct ∧ K.lookup f = some ⟨oc, od, .func fd, osl⟩ ∧ PySem.W.codeIn K (.ref c) x = true
  kp : PySem.W.keepIn K (.ref f) = true
  at_ : mg x = some (.ref f)
  b : Binds K fd ps []
section
variable {P : Program} {w : World} {K : PySem.W.Frag} {mg : Str → Option Value} {base : Heap}
/-! ### worth_in -/
theorem scIn : FnScope ["term", "numbers"] ["term", "numbers"] (defScope sIn) := ⟨rfl, rfl, rfl, by decide +kernel, rfl, by decide +kernel, by decide +kernel⟩
abbrev lamQ : Str := "worth_in.<locals>.<lambda>"
def spIn (K : PySem.W.Frag) (T : List (Addr × Str)) : Sp := fun vs H Q _ => ∃ (v : V) (dct : Addr) (t : Tm) (ns : List Str) (e : Str → Int), vs = [v, .ref dct] ∧ TmAt K H v t ∧ t.dep ≤ 6 ∧ DictIs H dct ns e ∧ t.Ok ns ∧ (∀ x ∈ ns, Rng (e x)) ∧ Tabs T H ∧
  ∀ H', ExtN H H' → Tabs T H' → Q (.int (ev e t)) H'
theorem ok_in {f c PT pW fA fB : Addr} {fd fdA fdB : FuncData} (D : DefC K mg "worth_in" sIn ["term", "numbers"] f c fd) (G : Glob K mg pW) (DA : Def K mg "worth_at" sAt ["term", "number_of"] fA fdA) (DB : Def K mg "worth_by" sBy ["word", "one", "other"] fB fdB)
    (TB : TabB base mg c PT) : FnOk P w K mg base CX0 9 f fd ["term", "numbers"] (spIn K [(PT, lamQ)]) := by
  obtain ⟨oc, od, kV, doc, pm, an, ct, osl, rfl, lk, hcd⟩ := D.ex
  refine fn_of lk hcd scIn (fun vs H Q E h => ?_) (fun A outer s H vs Q E hr h => ?_)
  · obtain ⟨v, dct, t, ns, e, rfl, _⟩ := h
    rfl
  · obtain ⟨v, dct, t, ns, e, rfl, ht, hd, hD, hok, hrg, hT, q⟩ := h
    have d : ∃ t, PSs (cxOf CX0 P w K mg base ["term", "numbers"] "worth_in" (defScope sIn) f (.ref c) A outer s H E).nox (defBody sIn) t ∧ t { nx := fun _ H' => Q .non H', rt := Q } (start ["term", "numbers"] [v, .ref dct]) H := by
      refine ⟨_, pss_one (ps_ret (pe_makeL (T := [(PT, lamQ)]) (c := c) (P := PT) (lparams := lamA) (body := lamB) (lscope := lamS) (lpos := lamP) (fr := ["numbers"]) (js := [1]) (sp := fun F fl σ => spAt K 6 F fl ([1].map (slotAt σ))) TB rfl ?m1 ?m2 rfl ?m3 ?m4 rfl (fun _ => rfl) rfl
        (fun F fl pm ctv σ _ _ hA hS => ok_at DA G DB F fl _ pm ctv hA hS 6) hr (by rfl) DA.at_ DA.fn.kp DA.b (pv 0))), ?_⟩
      case m1 => exact List.mem_cons_self ..
      case m2 => intro p hp _; cases List.mem_singleton.mp hp; rfl
      case m3 => exact (show ∀ y ∈ lamS.names, y.2 = NameKind.free → (defScope sIn).names.lookup y.1 = some .cell by decide +kernel)
      case m4 => decide +kernel
      refine ⟨_, rfl, hT, fun F fl H2 hE hT2 hc => ⟨v, t, dct, ns, e, rfl, rfl, ht.ext hE, hd, hc, hD.ext hE, hok, hrg, fun H' s' => ?_⟩⟩
      exact q H' (hE.trans (same_ext s')) (hT2.ext s')
    obtain ⟨t, h1, h2⟩ := d
    exact ⟨t, h1.nox, h2⟩
/-! ### worth_of -/
abbrev sOf : Stmt := topS 21
theorem scOf : FnScope ["term", "worths"] ["term", "worths"] (defScope sOf) := ⟨rfl, rfl, rfl, by decide +kernel, rfl, by decide +kernel, by decide +kernel⟩
/-- the pairs of names and numbers at some addresses -/
def PrsAt (K : PySem.W.Frag) (H : Hp) (qs : List Addr) (prs : List (Str × Int)) : Prop := Paired (fun q pr => SqT K H q [.str pr.1, .int pr.2]) qs prs
theorem PrsAt.same {H H' : Hp} (s : Same H H') : ∀ {qs : List Addr} {prs : List (Str × Int)}, PrsAt K H qs prs → PrsAt K H' qs prs
  | _, _, .nil => .nil
  | _, _, .cons h t => .cons (Same.sqt s h) (PrsAt.same s t)
def toKv (prs : List (Str × Int)) : List (Key × V) := prs.map fun pr => (Sum.inr pr.1, .int pr.2)
theorem PrsAt.kv {H : Hp} : ∀ {qs : List Addr} {prs : List (Str × Int)}, PrsAt K H qs prs → Paired (fun p (kv : Key × V) => SqT K H p [kV kv.1, kv.2]) qs (toKv prs)
  | _, _, .nil => .nil
  | _, _, .cons h t => .cons h (PrsAt.kv t)
theorem put_new {kvs : List (Key × V)} {k : Key} {v : V} (h : k ∉ kvs.map (·.1)) : putK kvs k v = kvs ++ [(k, v)] := by
  unfold putK
  rw [if_neg]
  intro z
  obtain ⟨x, h1, h2⟩ := List.any_eq_true.mp z
  exact h (List.mem_map.mpr ⟨x, h1, of_decide_eq_true h2⟩)
theorem merge_new : ∀ (more kvs : List (Key × V)), ((kvs ++ more).map (·.1)).Nodup → mergeK kvs more = kvs ++ more
  | [], kvs, _ => by
    show kvs = kvs ++ []
    rw [List.append_nil]
  | (k, v) :: r, kvs, h => by
    have e : kvs ++ (k, v) :: r = (kvs ++ [(k, v)]) ++ r := by simp
    have hk : k ∉ kvs.map (·.1) := by
      rw [List.map_append, List.map_cons, List.nodup_append] at h
      intro z
      exact h.2.2 k z k (List.mem_cons_self ..) rfl
    show mergeK (putK kvs k v) r = _
    rw [put_new hk, e]
    exact merge_new r _ (by rw [← e]; exact h)
theorem val_of : ∀ (prs : List (Str × Int)) (x : Str) (n : Int), (prs.map (·.1)).Nodup → (x, n) ∈ prs → valV (toKv prs) (Sum.inr x) = some (.int n)
  | [], _, _, _, h => by cases h
  | (y, m) :: r, x, n, hn, h => by
    rw [List.map_cons, List.nodup_cons] at hn
    unfold valV toKv
    rw [List.map_cons, List.find?_cons]
    by_cases e : y = x
    · subst e
      have : m = n := by
        rcases List.mem_cons.mp h with z | z
        · cases z; rfl
        · exact absurd (List.mem_map.mpr ⟨(y, n), z, rfl⟩) hn.1
      subst this
      simp
    · have e' : decide ((Sum.inr y : Key) = Sum.inr x) = false := decide_eq_false fun z => e (Sum.inr.inj z)
      rw [e']
      have h2 : (x, n) ∈ r := by
        rcases List.mem_cons.mp h with z | z
        · cases z; exact absurd rfl e
        · exact z
      exact val_of r x n hn.2 h2
theorem kv_nodup {prs : List (Str × Int)} (h : (prs.map (·.1)).Nodup) : ((toKv prs).map (·.1)).Nodup := by
  have e : (toKv prs).map (·.1) = (prs.map (·.1)).map Sum.inr := by
    unfold toKv
    rw [List.map_map, List.map_map]
    rfl
  rw [e]
  unfold List.Nodup at h ⊢
  rw [List.pairwise_map]
  exact h.imp fun hab z => hab (Sum.inr.inj z)
/-- dict(pairs) holds each name's number -/
theorem dict_is {H : Hp} {d : Addr} {prs : List (Str × Int)} {ns : List Str} {e : Str → Int} (hn : (prs.map (·.1)).Nodup) (he : ∀ x ∈ ns, (x, e x) ∈ prs) : DictIs (upd H d (.dK (mergeK [] (toKv prs)))) d ns e := by
  refine ⟨_, upd_same, fun x hx => ?_⟩
  rw [merge_new _ _ (by simpa using kv_nodup hn), List.nil_append]
  exact val_of prs x _ hn (he x hx)
def spOf (K : PySem.W.Frag) (T : List (Addr × Str)) : Sp := fun vs H Q _ => ∃ (v : V) (p : Addr) (qs : List Addr) (prs : List (Str × Int)) (t : Tm) (ns : List Str) (e : Str → Int), vs = [v, .ref p] ∧ TmAt K H v t ∧ t.dep ≤ 6 ∧ SqT K H p (qs.map V.ref) ∧ PrsAt K H qs prs ∧ (prs.map (·.1)).Nodup ∧ (∀ x ∈ ns, (x, e x) ∈ prs) ∧
  t.Ok ns ∧ (∀ x ∈ ns, Rng (e x)) ∧ Tabs T H ∧ ∀ H', ExtN H H' → Tabs T H' → Q (.int (ev e t)) H'
theorem ok_of {f fI c PT pW fA fB : Addr} {fd fdI fdA fdB : FuncData} (F : Fun K "worth_of" "worth_of" sOf f fd) (DI : DefC K mg "worth_in" sIn ["term", "numbers"] fI c fdI) (G : Glob K mg pW) (DA : Def K mg "worth_at" sAt ["term", "number_of"] fA fdA) (DB : Def K mg "worth_by" sBy ["word", "one", "other"] fB fdB)
    (TB : TabB base mg c PT) : FnOk P w K mg base CX0 10 f fd ["term", "worths"] (spOf K [(PT, lamQ)]) := by
  have GI : FnOk P w K mg base CX0 9 fI fdI ["term", "numbers"] (spIn K [(PT, lamQ)]) := ok_in DI G DA DB TB
  refine F.ok scOf (fun vs H Q E h => ?_) (fun cdv A outer s H vs Q E hr h => ?_)
  · obtain ⟨v, p, qs, prs, t, ns, e, rfl, _⟩ := h
    rfl
  · obtain ⟨v, p, qs, prs, t, ns, e, rfl, ht, hd, hp, hq, hn, he, hok, hrg, hT, q⟩ := h
    refine ⟨_, pss_one (ps_ret (pe_call GI hr (by rfl) DI.at_ DI.kp DI.b .nil pass0 (pa_cons (pv 0) (pa_cons (pe_callTy (call_dictP rfl) (by rfl) G.dict (by decide +kernel) (pa_cons (pe_callTy call_list_of (by rfl) G.list (by decide +kernel) (pa_cons (pv 1) pa_nil)) pa_nil)) pa_nil)))), ?_⟩
    refine ⟨v, rfl, _, rfl, p, _, rfl, .inr hp, fun l hl => ⟨l, qs, toKv prs, rfl, .inl (.inl upd_same), (hq.same (same_upd hl)).kv, fun d hd' => ?_⟩⟩
    have s1 : Same H (upd (upd H l (.lst (qs.map V.ref))) d (.dK (mergeK [] (toKv prs)))) := (same_upd hl).trans (same_upd hd')
    exact ⟨v, d, t, ns, e, rfl, ht.same s1, hd, dict_is hn he, hok, hrg, hT.ext s1, fun H' hE hT' => q H' ((same_ext s1).trans hE) hT'⟩
end
end K1
set_option Elab.async false
set_option linter.all false
set_option maxRecDepth 100000
set_option maxHeartbeats 4000000
namespace K1
open PySem PySem.Spec PyProof.Rows L2 KG KL LamX NdefX
/-! ### the law's own reckoning -/
abbrev sDue : Stmt := topS 28
theorem scDue : FnScope ["_law_own", "_law_numbers", "_law_one", "_law_other", "_law_many", "_law_found", "_law_k", "_law_due_here"] ["_law_own", "_law_numbers"] (defScope sDue) := ⟨rfl, rfl, rfl, by decide +kernel, rfl, by decide +kernel, by decide +kernel⟩
section
variable {P : Program} {w : World} {K : PySem.W.Frag} {mg : Str → Option Value} {base : Heap}
def spDue (K : PySem.W.Frag) (d : Nat) : Sp := fun vs H Q _ => ∃ (v : V) (dct : Addr) (t : Tm) (ns : List Str) (e : Str → Int), vs = [v, .ref dct] ∧ TmAt K H v t ∧ t.dep ≤ d ∧ DictIs H dct ns e ∧ t.Ok ns ∧ (∀ x ∈ ns, Rng (e x)) ∧
  ∀ H', Same H H' → Q (.int (ev e t)) H'
theorem six_two {w : Str} (h : w ∈ six) : w ∉ (["num", "name"] : List Str) := fun z => by
  have : ∀ y ∈ six, y ∉ (["num", "name"] : List Str) := by decide +kernel
  exact this w h z
def slot4 (σ : L2.St) (_ : Hp) : Nat := match σ[4]? with
  | some (some (V.int m)) => 20 - m.toNat
  | _ => 0
theorem pow_lt {m : Nat} (h : (2 : Int) ^ m ≤ 65535) : m ≤ 15 := by
  cases Nat.lt_or_ge 15 m with
  | inl hlt =>
    have h1 : (2 : Int) ^ 16 ≤ 2 ^ m := by
      have h2 : 2 ^ 16 ≤ 2 ^ m := Nat.pow_le_pow_right (by decide) hlt
      exact_mod_cast h2
    have h3 : (2 : Int) ^ 16 = 65536 := by decide
    omega
  | inr h => exact h
theorem quot_of {a b f : Int} (hb : 0 < b) (h1 : b * f ≤ a) (h2 : a < b * (f + 1)) : f = a / b := by
  have h3 : f ≤ a / b := (Int.le_ediv_iff_mul_le hb).mpr (by rw [Int.mul_comm]; exact h1)
  have h4 : a / b < f + 1 := Int.ediv_lt_of_lt_mul hb (by rw [Int.mul_comm]; exact h2)
  omega
theorem ok_due {f pW : Addr} {fd : FuncData} (D : Def K mg "_law_due" sDue ["_law_own", "_law_numbers"] f fd) (G : Glob K mg pW) : ∀ d : Nat, FnOk P w K mg base CX0 (d + 1) f fd ["_law_own", "_law_numbers"] (spDue K d)
  | 0 => ⟨fun vs H Q E h => by obtain ⟨v, dct, t, ns, e, rfl, _⟩ := h; rfl, fun A outer s H args us vs Q E _ _ _ _ h => by
      obtain ⟨v, dct, t, ns, e, _, _, hd, _⟩ := h
      exact absurd (Nat.le_trans t.dep_pos hd) (by decide)⟩
  | d + 1 => by
    have IH := ok_due D G d
    refine D.fn.ok scDue (fun vs H Q E h => ?_) (fun cdv A outer s H vs Q E hr h => ?_)
    · obtain ⟨v, dct, t, ns, e, rfl, _⟩ := h
      rfl
    · obtain ⟨v, dct, t, ns, e, rfl, hv, hd, hD, hok, hrg, q⟩ := h
      -- behind the two parts: own's word wd, the numbers a, b
      have rest : ∃ t, PSs (cxOf CX0 P w K mg base ["_law_own", "_law_numbers", "_law_one", "_law_other", "_law_many", "_law_found", "_law_k", "_law_due_here"] "_law_due" (defScope sDue) f cdv A outer s H E).nox ((defBody sDue).drop 4) t ∧
          ∀ (H2 : Hp) (p : Addr) (wd : Str) (v1 v2 : V) (a b : Int), Same H H2 → SqT K H2 p [.str wd, v1, v2] → wd ∈ six → (wd = "over" → b = 0) → Rng a → Rng b → (∀ H', Same H H' → Q (.int (by2 wd a b)) H') →
            t { nx := fun _ H' => Q .non H', rt := Q } [some (.ref p), some (.ref dct), some (.int a), some (.int b), some (.int 0), none, none, none] H2 := by
        refine ⟨_, pss_cons (ps_if (pt_cmpR op_in_seq (pe_ix ix_tup (pv 0) pe_int (fun _ _ => rfl)) (pe_tup (pa_cons pe_str (pa_cons pe_str pa_nil))) rfl)
            (pss_one (ps_ret (pe_ifExp (pt_cmpR op_eq (pe_ix ix_tup (pv 0) pe_int (fun _ _ => rfl)) pe_str (nomark _)) (pe_callTy call_int1 (by rfl) G.int (by decide +kernel) (pa_cons (pe_cmpR op_lt (pv 2) (pv 3) (nomark _)) pa_nil))
              (pe_callTy call_int1 (by rfl) G.int (by decide +kernel) (pa_cons (pe_and (pe_not (pe_cmpR op_lt (pv 2) (pv 3) (nomark _))) (pe_one (pe_not (pe_cmpR op_lt (pv 3) (pv 2) (nomark _))))) pa_nil))))) pss_nil)
          (pss_cons (ps_set (i := 7) scDue.nd rfl (.inl rfl) (pe_dget (hu_of hr) (pe_disp (pps_cons pe_str (pe_op op_add (pv 2) (pv 3)) (pps_cons pe_str (pe_op op_sub (pe_op op_add (pv 2) pe_int) (pv 3)) (pps_cons pe_str (pe_op op_mul (pv 2) (pv 3)) (pps_cons pe_str pe_int pps_nil)))) (by rfl) (by rfl) (fun z => by cases z) (by decide)) (pe_ix ix_tup (pv 0) pe_int (fun _ _ => rfl)) (fun _ _ => rfl)))
          (pss_one (ps_ret (pe_op op_sub (pv 7) (pe_op op_mul pe_int (pe_op op_fdiv (pv 7) pe_int)))))), fun H2 p wd v1 v2 a b sm hp hw hov ha hb q => ?_⟩
        have two : (2 : Nat) ≤ sizeLine := by decide
        refine ⟨_, rfl, p, _, 0, _, rfl, rfl, hp, rfl, two, fun y hy => ⟨y, _, rfl, .inr (.inl (.inl upd_same)), rfl, rfl, _, rfl, ?_⟩⟩
        show if inV (.str wd) ((["below", "same"] : List Str).map V.str) = true then _ else _
        have s1 := same_upd (o := .tup [.str "below", .str "same"]) hy
        revert s1
        generalize upd H2 y (.tup [.str "below", .str "same"]) = H3
        intro s1
        have hp3 := Same.sqt s1 hp
        have sm3 := sm.trans s1
        by_cases h1 : wd ∈ (["below", "same"] : List Str)
        · rw [inV_str h1]
          refine iteT ⟨_, rfl, p, _, 0, _, rfl, rfl, hp3, rfl, rfl, _, rfl, ?_⟩
          rw [strV]
          by_cases h2 : wd = "below"
          · subst h2
            rw [decide_eq_true rfl]
            refine iteT ⟨_, rfl, _, rfl, _, _, rfl, rfl, .inr ⟨_, rfl, ?_⟩⟩
            have z := q _ sm3
            have e : by2 "below" a b = if decide (a < b) = true then 1 else 0 := by
              unfold by2
              rw [if_neg (by decide +kernel), if_neg (by decide +kernel), if_neg (by decide +kernel), if_neg (by decide +kernel), if_pos rfl]
              simp
            rw [e] at z
            exact z
          · have h3 : wd = "same" := by
              rcases List.mem_cons.mp h1 with z | z
              · exact absurd z h2
              · exact List.mem_singleton.mp z
            subst h3
            rw [decide_eq_false h2]
            have z := q _ sm3
            have e : by2 "same" a b = if a = b then 1 else 0 := by
              unfold by2
              rw [if_neg (by decide +kernel), if_neg (by decide +kernel), if_neg (by decide +kernel), if_neg (by decide +kernel), if_neg (by decide +kernel)]
            rw [e] at z
            refine iteF ⟨_, rfl, _, rfl, _, _, rfl, rfl, _, rfl, _, rfl, ?_⟩
            by_cases c1 : a < b
            · rw [if_neg (by omega)] at z
              rw [decide_eq_true c1]
              exact iteF (.inr ⟨_, rfl, z⟩)
            · rw [decide_eq_false c1]
              refine iteT ⟨_, rfl, _, rfl, _, _, rfl, rfl, _, rfl, .inr ⟨_, rfl, ?_⟩⟩
              by_cases c2 : b < a
              · rw [if_neg (by omega)] at z
                rw [decide_eq_true c2]
                exact z
              · rw [if_pos (by omega)] at z
                rw [decide_eq_false c2]
                exact z
        · rw [ninV_str h1]
          obtain ⟨a0, a1⟩ := ha
          obtain ⟨b0, b1⟩ := hb
          refine iteF fun d hd => ⟨_, rfl, _, rfl, _, _, rfl, rfl, _, rfl, _, _, rfl, rfl, _, rfl, _, _, rfl, rfl, _, rfl, _, rfl, _, _, rfl, rfl, .inl ⟨by omega, by omega⟩, upd_same, [(Sum.inr "sum", .int (a + b)), (Sum.inr "less", .int (a + 65536 - b)), (Sum.inr "times", .int (a * b)), (Sum.inr "over", .int 0)], rfl, (by show 4 ≤ 15; decide), ?_⟩
          rw [upd_upd]
          have s4 := same_upd (o := .dK (mergeK [] [(Sum.inr "sum", .int (a + b)), (Sum.inr "less", .int (a + 65536 - b)), (Sum.inr "times", .int (a * b)), (Sum.inr "over", .int 0)])) hd
          have hd4 : upd H3 d (.dK (mergeK [] [(Sum.inr "sum", .int (a + b)), (Sum.inr "less", .int (a + 65536 - b)), (Sum.inr "times", .int (a * b)), (Sum.inr "over", .int 0)])) d = some (.dK [(Sum.inr "sum", .int (a + b)), (Sum.inr "less", .int (a + 65536 - b)), (Sum.inr "times", .int (a * b)), (Sum.inr "over", .int 0)]) := by
            rw [upd_same, merge_new]
            · rfl
            · show ([Sum.inr "sum", Sum.inr "less", Sum.inr "times", Sum.inr "over"] : List Key).Nodup
              decide +kernel
          revert s4 hd4
          generalize upd H3 d (.dK (mergeK [] [(Sum.inr "sum", .int (a + b)), (Sum.inr "less", .int (a + 65536 - b)), (Sum.inr "times", .int (a * b)), (Sum.inr "over", .int 0)])) = H4
          intro s4 hd4
          have z0 := DGet.k (k := Sum.inr wd) hd4
          obtain ⟨r, hr1, hr2⟩ : ∃ r : Int, valV [((Sum.inr "sum" : Key), V.int (a + b)), (Sum.inr "less", .int (a + 65536 - b)), (Sum.inr "times", .int (a * b)), (Sum.inr "over", .int 0)] (Sum.inr wd) = some (.int r) ∧ r - 65536 * (r / 65536) = by2 wd a b := by
            have h6 : wd = "sum" ∨ wd = "less" ∨ wd = "times" ∨ wd = "over" := by
              have h7 : wd ∈ six := hw
              unfold six at h7
              simp only [List.mem_cons, List.not_mem_nil, or_false] at h7 h1
              rcases h7 with h | h | h | h | h | h
              · exact .inl h
              · exact .inr (.inl h)
              · exact .inr (.inr (.inl h))
              · exact .inr (.inr (.inr h))
              · exact absurd (.inl h) h1
              · exact absurd (.inr h) h1
            rcases h6 with h | h | h | h
            · subst h
              refine ⟨a + b, by rfl, ?_⟩
              unfold by2
              rw [if_pos rfl]
              omega
            · subst h
              refine ⟨a + 65536 - b, by rfl, ?_⟩
              unfold by2
              rw [if_neg (by decide +kernel), if_pos rfl]
              omega
            · subst h
              refine ⟨a * b, by rfl, ?_⟩
              unfold by2
              rw [if_neg (by decide +kernel), if_neg (by decide +kernel), if_pos rfl]
              omega
            · subst h
              refine ⟨0, by rfl, ?_⟩
              unfold by2
              rw [if_neg (by decide +kernel), if_neg (by decide +kernel), if_neg (by decide +kernel), if_pos rfl, if_neg (by simpa using hov rfl)]
              rfl
          rw [hr1] at z0
          refine ⟨_, rfl, p, _, 0, _, rfl, rfl, Same.sqt s4 hp3, rfl, d, _, rfl, z0, _, rfl, _, rfl, _, _, rfl, rfl, ⟨by decide, by decide⟩, _, _, rfl, rfl, .inl ⟨by decide, by decide⟩, _, _, rfl, rfl, ?_⟩
          show Q (.int (r - 65536 * (r / 65536))) H4
          rw [hr2]
          exact q _ (sm3.trans s4)
      obtain ⟨tr, hr0, hr1⟩ := rest
      have tail : ∃ t, PSs (cxOf CX0 P w K mg base ["_law_own", "_law_numbers", "_law_one", "_law_other", "_law_many", "_law_found", "_law_k", "_law_due_here"] "_law_due" (defScope sDue) f cdv A outer s H E).nox ((defBody sDue).drop 2) t ∧
          ∀ (H2 : Hp) (p : Addr) (wd : Str) (v1 v2 : V) (a b : Int), Same H H2 → SqT K H2 p [.str wd, v1, v2] → wd ∈ six → Rng a → Rng b → (∀ H', Same H H' → Q (.int (by2 wd a b)) H') →
            t { nx := fun _ H' => Q .non H', rt := Q } [some (.ref p), some (.ref dct), some (.int a), some (.int b), none, none, none, none] H2 := by
        refine ⟨_, pss_cons (ps_set (i := 4) scDue.nd rfl (.inl rfl) pe_int)
          (pss_cons (ps_if (PW.pt (pw_and (pt_cmpR op_eq (pe_ix ix_tup (pv 0) pe_int (fun _ _ => rfl)) pe_str (nomark _)) (pw_and1 (pt_cmpR op_gt (pv 3) pe_int (nomark _)))))
            (pss_cons (ps_while PassesOwn.never (pt_cmpR op_le (pe_op op_mul (pv 3) (pe_op op_shl pe_int (pv 4))) (pv 2) (nomark _)) (pss_one (ps_set (i := 4) scDue.nd rfl (.inl rfl) (pe_op op_add (pv 4) pe_int))))
            (pss_cons (ps_set (i := 5) scDue.nd rfl (.inl rfl) pe_int)
            (pss_cons (ps_for PassesOwn.never rfl (pi_list (pe_revL (pe_listRg rfl (by rfl) G.list (prg_1 (by rfl) G.range (pv 4))))) (pg_name (i := 6) scDue.nd rfl (.inl rfl))
              (pss_one (ps_if (pt_cmpR op_le (pe_op op_mul (pv 3) (pe_op op_add (pv 5) (pe_op op_shl pe_int (pv 6)))) (pv 2) (nomark _)) (pss_one (ps_set (i := 5) scDue.nd rfl (.inl rfl) (pe_op op_add (pv 5) (pe_op op_shl pe_int (pv 6))))) pss_nil)))
            (pss_one (ps_ret (pv 5)))))) pss_nil) hr0), fun H2 p wd v1 v2 a b sm hp hw ha hb q => ?_⟩
        refine ⟨_, rfl, p, _, 0, _, rfl, rfl, hp, rfl, rfl, _, rfl, ?_⟩
        rw [strV]
        by_cases ho : wd = "over"
        · subst ho
          rw [decide_eq_true rfl]
          refine iteT ⟨_, rfl, _, _, rfl, rfl, _, rfl, ?_⟩
          by_cases hb0 : 0 < b
          · rw [decide_eq_true hb0]
            have ha' := ha
            have hb' := hb
            obtain ⟨a0, a1⟩ := ha'
            obtain ⟨b0, b1⟩ := hb'
            refine iteT (while_by (fun σ H' => ∃ m : Nat, σ = [some (.ref p), some (.ref dct), some (.int a), some (.int b), some (.int m), none, none, none] ∧ H' = H2 ∧ (m = 0 ∨ b * 2 ^ (m - 1) ≤ a) ∧ m ≤ 16)
              slot4 ⟨0, rfl, rfl, .inl rfl, by decide⟩ ?_ ?_)
            · rintro σ H' ⟨m, rfl, rfl, hm, hm16⟩
              refine ⟨_, rfl, _, rfl, _, _, rfl, rfl, ⟨by omega, by omega, by decide⟩, _, _, rfl, rfl, .inl ⟨by omega, by omega⟩, _, rfl, _, _, rfl, rfl, _, rfl, ?_⟩
              rw [Int.one_mul, Int.toNat_natCast]
              refine ite2 (fun h => ?_) (fun h => ?_)
              · have h' : b * 2 ^ m ≤ a := of_decide_eq_true h
                have hp2 : (2 : Int) ^ m ≤ 65535 := by
                  have : (1 : Int) * 2 ^ m ≤ b * 2 ^ m := Int.mul_le_mul_of_nonneg_right (by omega) (Int.le_of_lt (Int.pow_pos (by decide)))
                  omega
                have h15 := pow_lt hp2
                refine ⟨_, rfl, _, _, rfl, rfl, ⟨m + 1, rfl, rfl, .inr ?_, by omega⟩, ?_⟩
                · rw [Nat.add_sub_cancel]
                  exact h'
                · show 20 - ((m : Int) + 1).toNat < 20 - (m : Int).toNat
                  omega
              · have h' : a < b * 2 ^ m := Int.lt_of_not_ge fun z => h (decide_eq_true z)
                -- found = 0, the walk back
                refine ⟨_, rfl, m, rfl, RgOk.of_le (by decide) (by omega) (by decide) (by omega), fun r0 hr2 => ⟨r0, _, rfl, .inl (.inl upd_same), fun l hl => ⟨l, rfl, ⟨_, .inl (.inl upd_same)⟩, ?_⟩⟩⟩
                have sl : Same H (upd (upd H' r0 (.lst (rgV 0 m))) l (.lst (rgV 0 m).reverse)) := sm.trans ((same_upd hr2).trans (same_upd hl))
                have hl2 : upd (upd H' r0 (.lst (rgV 0 m))) l (.lst (rgV 0 m).reverse) l = some (.lst (rgV 0 m).reverse) := upd_same
                revert sl hl2
                generalize upd (upd H' r0 (.lst (rgV 0 m))) l (.lst (rgV 0 m).reverse) = HL
                intro sl hl2
                refine for_list (K := K) (a := l) (xs := (rgV 0 m).reverse) (fun i σ H' => H' = HL ∧ ∃ (g : Int) (y : Option V), σ = [some (.ref p), some (.ref dct), some (.int a), some (.int b), some (.int m), some (.int g), y, none] ∧ 0 ≤ g ∧ g ≤ 65536 * i ∧ b * g ≤ a ∧ a < b * (g + 2 ^ (m - i)))
                  ⟨rfl, 0, none, rfl, by decide, by decide, by omega, ?_⟩ (fun i σ H' _ z => by rw [z.1]; exact .inl (.inl hl2)) ?_ ?_
                · rw [Int.zero_add]
                  exact h'
                · rintro i x σ H' hi ⟨rfl, g, y, rfl, g0, gl, g1, g2⟩
                  have him : i < m := by
                    have := (List.getElem?_eq_some_iff.mp hi).1
                    rw [List.length_reverse, rgV_length] at this
                    omega
                  have hx : x = .int ((m - 1 - i : Nat) : Int) := by
                    rw [List.getElem?_reverse (by rw [rgV_length]; omega), rgV_length] at hi
                    unfold rgV at hi
                    rw [List.getElem?_map, List.getElem?_range (by omega)] at hi
                    have z := Option.some.inj hi
                    rw [← z]
                    show V.int _ = V.int _
                    rw [Int.zero_add]
                    exact congrArg (fun n : Nat => V.int (n : Int)) (by omega)
                  subst hx
                  have e2 : (2 : Int) ^ (m - i) = 2 ^ (m - 1 - i) + 2 ^ (m - 1 - i) := by
                    rw [show m - i = (m - 1 - i) + 1 by omega, Int.pow_succ]
                    omega
                  have pp : (0 : Int) < 2 ^ (m - 1 - i) := Int.pow_pos (by decide)
                  have pl : (2 : Int) ^ (m - 1 - i) ≤ 65536 := by
                    have z : 2 ^ (m - 1 - i) ≤ 2 ^ 16 := Nat.pow_le_pow_right (by decide) (by omega)
                    have z2 : ((2 ^ (m - 1 - i) : Nat) : Int) ≤ ((2 ^ 16 : Nat) : Int) := Int.ofNat_le.mpr z
                    rw [Int.natCast_pow] at z2
                    exact z2
                  refine ⟨_, rfl, _, rfl, _, rfl, _, _, rfl, rfl, ⟨by omega, by omega, by decide⟩, _, _, rfl, rfl, _, _, rfl, rfl, .inl ⟨by omega, by omega⟩, _, rfl, _, _, rfl, rfl, _, rfl, ?_⟩
                  rw [Int.one_mul, Int.toNat_natCast]
                  refine ite2 (fun h => ?_) (fun h => ?_)
                  · have hle : b * (g + 2 ^ (m - 1 - i)) ≤ a := of_decide_eq_true h
                    refine ⟨_, rfl, _, rfl, _, _, rfl, rfl, ⟨by omega, by omega, by decide⟩, _, _, rfl, rfl, rfl, g + 2 ^ (m - 1 - i), some (.int ((m - 1 - i : Nat) : Int)), ?_, by omega, ?_, hle, ?_⟩
                    · rw [Int.one_mul, Int.toNat_natCast]
                      rfl
                    · rw [Int.natCast_add]
                      omega
                    · rw [show m - (i + 1) = m - 1 - i by omega, Int.add_assoc, ← e2]
                      exact g2
                  · have hlt : a < b * (g + 2 ^ (m - 1 - i)) := Int.lt_of_not_ge fun z => h (decide_eq_true z)
                    refine ⟨rfl, g, some (.int ((m - 1 - i : Nat) : Int)), rfl, g0, ?_, g1, ?_⟩
                    · rw [Int.natCast_add]
                      omega
                    · rw [show m - (i + 1) = m - 1 - i by omega]
                      exact hlt
                · rintro σ H' ⟨rfl, g, y, rfl, g0, gl, g1, g2⟩
                  refine ⟨_, rfl, ?_⟩
                  have eq : g = a / b := quot_of hb0 g1 (by
                    rw [List.length_reverse, rgV_length, show m - ((m : Int) - 0).toNat = 0 by omega] at g2
                    simpa using g2)
                  have e : by2 "over" a b = a / b := by
                    unfold by2
                    rw [if_neg (by decide +kernel), if_neg (by decide +kernel), if_neg (by decide +kernel), if_pos rfl, if_pos (by omega)]
                  have z := q _ sl
                  rw [e, ← eq] at z
                  exact z
            · rintro σ H' Q1 Q2 hQ ⟨x3, h3, x4, h4, i1, j1, e1, e2, c1, i2, j2, e3, e4, c2, x2, h2, i3, j3, e5, e6, k, e7, qq⟩
              exact ⟨x3, h3, x4, h4, i1, j1, e1, e2, c1, i2, j2, e3, e4, c2, x2, h2, i3, j3, e5, e6, k, e7, hQ _ _ qq⟩
          · rw [decide_eq_false hb0]
            refine iteF (hr1 H2 p "over" v1 v2 a b sm hp hw (fun _ => ?_) ha hb q)
            have := hb.1
            omega
        · rw [decide_eq_false ho]
          exact iteF (iteF (hr1 H2 p wd v1 v2 a b sm hp hw (fun z => absurd z ho) ha hb q))
      obtain ⟨tt, ht, hq⟩ := tail
      refine ⟨_, pss_cons (ps_if (pt_cmpR op_in_seq (pe_ix ix_tup (pv 0) pe_int (fun _ _ => rfl)) (pe_tup (pa_cons pe_str (pa_cons pe_str pa_nil))) rfl)
          (pss_one (ps_ret (pe_ifExp (pt_cmpR op_eq (pe_ix ix_tup (pv 0) pe_int (fun _ _ => rfl)) pe_str (nomark _)) (pe_ix ix_tup (pv 0) pe_int (fun _ _ => rfl)) (pe_dget (hu_of hr) (pv 1) (pe_ix ix_tup (pv 0) pe_int (fun _ _ => rfl)) (fun _ _ => rfl))))) pss_nil)
        (pss_cons (ps_par (i := 2) (j := 3) (by rfl) scDue.nd rfl rfl (by decide) rfl rfl (pa_cons (pe_call IH hr (by rfl) D.at_ D.fn.kp D.b .nil pass0 (pa_cons (pe_ix ix_tup (pv 0) pe_int (fun _ _ => rfl)) (pa_cons (pv 1) pa_nil)))
          (pa_cons (pe_call IH hr (by rfl) D.at_ D.fn.kp D.b .nil pass0 (pa_cons (pe_ix ix_tup (pv 0) pe_int (fun _ _ => rfl)) (pa_cons (pv 1) pa_nil))) pa_nil)) (by rfl)) ht), ?_⟩
      have two : (2 : Nat) ≤ sizeLine := by decide
      cases hv with
      | @num p kk h0 =>
        refine ⟨_, rfl, p, _, 0, _, rfl, rfl, h0, rfl, two, fun y hy => ⟨y, _, rfl, .inr (.inl (.inl upd_same)), rfl, rfl, _, rfl, ?_⟩⟩
        have s1 := same_upd (o := .tup [.str "num", .str "name"]) hy
        refine iteT ⟨_, rfl, p, _, 0, _, rfl, rfl, Same.sqt s1 h0, rfl, rfl, _, rfl, ?_⟩
        rw [decide_eq_true rfl]
        exact iteT ⟨_, rfl, p, _, 1, _, rfl, rfl, Same.sqt s1 h0, rfl, q _ s1⟩
      | @nam p x h0 =>
        refine ⟨_, rfl, p, _, 0, _, rfl, rfl, h0, rfl, two, fun y hy => ⟨y, _, rfl, .inr (.inl (.inl upd_same)), rfl, rfl, _, rfl, ?_⟩⟩
        have s1 := same_upd (o := .tup [.str "num", .str "name"]) hy
        refine iteT ⟨_, rfl, p, _, 0, _, rfl, rfl, Same.sqt s1 h0, rfl, rfl, _, rfl, ?_⟩
        rw [strV, decide_eq_false (by decide +kernel)]
        obtain ⟨kvs, hk1, hk2⟩ := hD
        refine iteF ⟨.ref dct, rfl, .ref p, rfl, p, _, 1, .str x, rfl, rfl, Same.sqt s1 h0, rfl, dct, .int (e x), rfl, ?_, q _ s1⟩
        have z := DGet.k (k := Sum.inr x) (s1 _ _ hk1)
        rw [hk2 x hok] at z
        exact z
      | @op p wd v1 v2 t1 t2 hw h0 ht1 ht2 =>
        have hd1 : t1.dep ≤ d := by
          have : max t1.dep t2.dep + 1 ≤ d + 1 := hd
          omega
        have hd2 : t2.dep ≤ d := by
          have : max t1.dep t2.dep + 1 ≤ d + 1 := hd
          omega
        refine ⟨_, rfl, p, _, 0, _, rfl, rfl, h0, rfl, two, fun y hy => ⟨y, _, rfl, .inr (.inl (.inl upd_same)), rfl, rfl, _, rfl, ?_⟩⟩
        have s1 := same_upd (o := .tup [.str "num", .str "name"]) hy
        show if inV (.str wd) ((["num", "name"] : List Str).map V.str) = true then _ else _
        rw [ninV_str (six_two hw)]
        refine iteF ⟨_, rfl, p, _, 1, _, rfl, rfl, Same.sqt s1 h0, rfl, _, rfl, v1, dct, t1, ns, e, rfl, ht1.same s1, hd1, hD.same s1, hok.1, hrg, fun H1 s2 => ?_⟩
        have s12 := s1.trans s2
        refine ⟨_, rfl, p, _, 2, _, rfl, rfl, Same.sqt s12 h0, rfl, _, rfl, v2, dct, t2, ns, e, rfl, ht2.same s12, hd2, hD.same s12, hok.2, hrg, fun H2 s3 => ?_⟩
        refine ⟨_, _, rfl, ?_⟩
        exact hq H2 p wd v1 v2 _ _ (s12.trans s3) (Same.sqt (s12.trans s3) h0) hw (ev_rng hrg t1 hok.1) (ev_rng hrg t2 hok.2) q
end
end K1
set_option Elab.async false
set_option linter.all false
set_option maxRecDepth 100000
set_option maxHeartbeats 4000000
namespace K1
open PySem PySem.Spec PyProof.Rows L2 KG
/-! ### list(text) -/
theorem call_list_txt {X : Cx} (hc : X.calm = true) : CallR X (.type "list") (fun xs H Q => ∃ z : Str, xs = [.str z] ∧ z.length ≤ sizeLine ∧ ∀ l, H l = none → Q (.ref l) (upd H l (.lst (z.cps.toList.map fun c => V.str ⟨#[c]⟩)))) := by
  intro pins s σ H xs us Q I r h
  obtain ⟨z, rfl, hz, q⟩ := h
  obtain ⟨u, rfl, t, rfl⟩ := vals1 r
  refine call_list_str (I.ok.hd hc) z t (hn := hz) fun h' tk acc c' hk e hi => ?_
  refine ⟨.ref s.heap.objs.size, _, I.laid (t' := tk) hk (Nat.le_refl _) (show ObjOk X.prog X.w _ h' _ (.lst (z.cps.toList.map fun c => V.str ⟨#[c]⟩)) from ⟨?_, acc.toList, c', ?_, ?_⟩), rfl, q _ (I.hok.fresh (Nat.le_refl _))⟩
  · rw [List.length_map, Array.length_toList]
    exact hz
  · refine vals_of_at ?_ fun j x u h1 h2 => ?_
    · rw [List.length_map, Array.length_toList, Array.length_toList]
      exact hi.1.symm
    · obtain ⟨c, tk', hcj, rfl⟩ := hi.2 j u (by rw [← h2, Array.getElem?_toList])
      rw [List.getElem?_map, Array.getElem?_toList, hcj] at h1
      cases h1
      exact ⟨_, rfl⟩
  · rw [Array.toArray_toList]
    exact e
/-! ### texts by their codes -/
def mkS (l : List Nat) : Str := ⟨l.toArray⟩
theorem mkS_codes (l : List Nat) : (mkS l).cps.toList = l := by simp [mkS]
theorem mkS_len (l : List Nat) : (mkS l).length = l.length := by
  show (mkS l).cps.size = l.length
  simp [mkS]
theorem mkS_inj {a b : List Nat} (h : mkS a = mkS b) : a = b := by
  have z := congrArg (fun x : Str => x.cps.toList) h
  simpa [mkS] using z
theorem str_eta (x : Str) : x = mkS x.cps.toList := by
  cases x
  simp [mkS]
theorem app_mk (a b : List Nat) : mkS a ++ mkS b = mkS (a ++ b) := by
  show (⟨a.toArray ++ b.toArray⟩ : Str) = ⟨(a ++ b).toArray⟩
  simp
theorem sIx_n (n d j : Nat) : HT.sIx n d (some (j : Int)) = min j n := HT.sIx_nat n d j
theorem cut_to (l : List Nat) (j : Nat) (h : j ≤ l.length) : cutS (mkS l) none (some (j : Int)) = mkS (l.take j) := by
  unfold cutS
  rw [HT.sIx_none, sIx_n, mkS_codes, mkS_len, Nat.min_eq_left h, Nat.sub_zero, List.drop_zero]
  rfl
theorem cut_from (l : List Nat) (j : Nat) (h : j ≤ l.length) : cutS (mkS l) (some (j : Int)) none = mkS (l.drop j) := by
  unfold cutS
  rw [HT.sIx_none, sIx_n, mkS_codes, mkS_len, Nat.min_eq_left h, List.take_of_length_le (by simp)]
  rfl
theorem joinL_one : ∀ l : List Nat, TL.joinL [] (l.map fun c => [c]) = l
  | [] => rfl
  | [_] => rfl
  | a :: b :: r => by
    show [a] ++ ([] ++ TL.joinL [] ((b :: r).map fun c => [c])) = _
    rw [joinL_one (b :: r)]
    rfl
theorem join_signs (l : List Nat) : Txt.join "" (l.map fun c => (⟨#[c]⟩ : Str)) = mkS l := by
  rw [TL.join_eq, str_eta (Str.join "" _)]
  refine congrArg mkS ?_
  have e := TL.tl_join "" (l.map fun c => (⟨#[c]⟩ : Str))
  have e2 : TL.tl (Str.join "" (l.map fun c => (⟨#[c]⟩ : Str))) = (Str.join "" (l.map fun c => (⟨#[c]⟩ : Str))).cps.toList := rfl
  rw [← e2, e, List.map_map]
  have e3 : TL.tl "" = [] := by decide +kernel
  rw [e3]
  exact joinL_one l
/-! ### good rows of names -/
structure Good (ns : List Str) : Prop where
  ne : ns ≠ []
  nd : ns.Nodup
  all : ∀ x ∈ ns, 1 ≤ x.length ∧ x.length ≤ 9 ∧ ∀ c ∈ x.cps.toList, low c = true
def goodB (ns : List Str) : Bool := !ns.isEmpty && decide ns.Nodup && ns.all fun x => decide (1 ≤ x.length) && decide (x.length ≤ 9) && x.cps.toList.all low
theorem good_of {ns : List Str} (h : goodB ns = true) : Good ns := by
  unfold goodB at h
  simp only [Bool.and_eq_true, List.all_eq_true, decide_eq_true_eq, Bool.not_eq_true'] at h
  obtain ⟨⟨h1, h2⟩, h3⟩ := h
  exact ⟨(fun e => by rw [e] at h1; cases h1), h2, fun x hx => ⟨(h3 x hx).1.1, (h3 x hx).1.2, (h3 x hx).2⟩⟩
theorem Good.take {ns : List Str} (h : Good ns) {n : Nat} (hn : 1 ≤ n) : Good (ns.take n) := by
  obtain ⟨h1, h2, h3⟩ := h
  refine ⟨fun e => ?_, h2.sublist (List.take_sublist _ _), fun x hx => h3 x (List.mem_of_mem_take hx)⟩
  rw [List.take_eq_nil_iff] at e
  rcases e with e | e
  · omega
  · exact h1 e
def abc : List Nat := (List.range 26).map (· + 97)
theorem abc_str : (("abcdefghijklmnopqrstuvwxyz" : Str)) = mkS abc := by decide +kernel
def rot (l : List α) (f : Nat) : List α := l.drop f ++ l.take f
theorem good0 (f : Nat) (hf : f < 26) : Good ((rot abc f).map fun c => (⟨#[c]⟩ : Str)) := by
  have h : ∀ f ∈ List.range 26, goodB ((rot abc f).map fun c => (⟨#[c]⟩ : Str)) = true := by decide +kernel
  exact good_of (h f (List.mem_range.mpr hf))
def fourteen : List Str := ["sums", "les", "time", "overs", "belo", "num", "name", "let", "set", "go", "if", "to", "names", "catch"]
theorem good3 (f : Nat) (hf : f < 14) : Good (rot fourteen f) := by
  have h : ∀ f ∈ List.range 14, goodB (rot fourteen f) = true := by decide +kernel
  exact good_of (h f (List.mem_range.mpr hf))
theorem nodup_range_map {α : Type} {n : Nat} {g : Nat → α} (h : ∀ i j, i < n → j < n → g i = g j → i = j) : ((List.range n).map g).Nodup := by
  unfold List.Nodup
  rw [List.pairwise_map]
  have hp : (List.range n).Pairwise (fun a b => a ∈ List.range n ∧ b ∈ List.range n ∧ a ≠ b) := by
    have h1 : (List.range n).Pairwise (· ≠ ·) := List.nodup_range
    refine List.Pairwise.imp_of_mem ?_ h1
    intro a b ha hb hab
    exact ⟨ha, hb, hab⟩
  exact hp.imp fun ⟨ha, hb, hab⟩ e => hab (h _ _ (List.mem_range.mp ha) (List.mem_range.mp hb) e)
theorem good1 (l : List Nat) (hl : l.length = 8) (ho : ∀ c ∈ l, low c = true) : Good ((List.range 7).map fun k => mkS (l.take (1 + k) ++ [120])) := by
  refine ⟨by simp, nodup_range_map fun i j hi hj e => ?_, fun x hx => ?_⟩
  · have z := congrArg List.length (mkS_inj e)
    simp only [List.length_append, List.length_take, List.length_cons, List.length_nil] at z
    omega
  · obtain ⟨k, hk, rfl⟩ := List.mem_map.mp hx
    have := List.mem_range.mp hk
    rw [mkS_len, mkS_codes]
    refine ⟨by simp, by simp; omega, fun c hc => ?_⟩
    rcases List.mem_append.mp hc with z | z
    · exact ho c (List.mem_of_mem_take z)
    · rw [List.mem_singleton.mp z]
      decide
theorem good2 (l : List Nat) (hl : l.length = 8) (ho : ∀ c ∈ l, low c = true) (f at_ : Nat) (hf : f < 26) (ha : at_ < 8) :
    Good ((List.range 26).map fun k => mkS (l.take at_ ++ [97 + (f + 7 * k) % 26] ++ l.drop (at_ + 1))) := by
  refine ⟨by simp, nodup_range_map fun i j hi hj e => ?_, fun x hx => ?_⟩
  · have z := mkS_inj e
    rw [List.append_assoc, List.append_assoc] at z
    have z2 := List.append_cancel_left z
    have z3 : 97 + (f + 7 * i) % 26 = 97 + (f + 7 * j) % 26 := by
      injection z2
    omega
  · obtain ⟨k, hk, rfl⟩ := List.mem_map.mp hx
    rw [mkS_len, mkS_codes]
    refine ⟨by simp; omega, by simp; omega, fun c hc => ?_⟩
    rcases List.mem_append.mp hc with z | z
    · rcases List.mem_append.mp z with z | z
      · exact ho c (List.mem_of_mem_take z)
      · rw [List.mem_singleton.mp z]
        unfold low
        rw [decide_eq_true (by omega), decide_eq_true (by omega)]
        rfl
    · exact ho c (List.mem_of_mem_drop z)
end K1
set_option Elab.async false
set_option linter.all false
set_option maxRecDepth 100000
set_option maxHeartbeats 4000000
namespace K1
open PySem PySem.Spec PyProof.Rows L2 KG
theorem cutV_from (xs : List V) (j : Nat) (h : j ≤ xs.length) : cutV xs (some (j : Int)) none = xs.drop j := by
  unfold cutV
  rw [HT.sIx_none, show HT.sIx xs.length 0 (some (j : Int)) = min j xs.length from HT.sIx_nat _ _ j, Nat.min_eq_left h, List.take_of_length_le (by simp)]
theorem cutV_to (xs : List V) (j : Nat) (h : j ≤ xs.length) : cutV xs none (some (j : Int)) = xs.take j := by
  unfold cutV
  rw [HT.sIx_none, show HT.sIx xs.length xs.length (some (j : Int)) = min j xs.length from HT.sIx_nat _ _ j, Nat.min_eq_left h, Nat.sub_zero, List.drop_zero]
abbrev sUnl : Stmt := topS 26
abbrev nUnl : List Str := ["_law_deck_here", "_law_count", "_law_letters", "_law_sort", "_law_first", "_law_at", "_law_word", "_law_words", "_law_some", "_law_k"]
theorem scUnl : FnScope nUnl ["_law_deck_here", "_law_count"] (defScope sUnl) := ⟨rfl, rfl, rfl, by decide +kernel, rfl, by decide +kernel, by decide +kernel⟩
section
variable {P : Program} {w : World} {K : PySem.W.Frag} {mg : Str → Option Value} {base : Heap}
def spUnl : Sp := fun vs H Q _ => ∃ (a c : Addr) (n : Int), vs = [.ref a, .int n] ∧ Deck H a c ∧ 1 ≤ n ∧ n ≤ 8 ∧
  ∀ p ns H', Mv a c H H' → H p = none → H' p = some (.lst (ns.map V.str)) → Good ns → ns.length ≤ 8 → Q (.ref p) H'
theorem ok_unl {f pW fD : Addr} {fd fdD : FuncData} {k : Nat} (F : Fun K "_law_unlike" "_law_unlike" sUnl f fd) (G : Glob K mg pW) (DD : Def K mg "_law_draw" sDraw ["_law_deck_here", "_law_ways"] fD fdD) : FnOk P w K mg base CX0 (k + 2) f fd ["_law_deck_here", "_law_count"] spUnl := by
  have GD : FnOk P w K mg base CX0 (k + 1) fD fdD ["_law_deck_here", "_law_ways"] spDraw := ok_draw DD.fn
  refine F.ok scUnl (fun vs H Q E h => ?_) (fun cdv A outer s H vs Q E hr h => ?_)
  · obtain ⟨a, c, n, rfl, _⟩ := h
    rfl
  · obtain ⟨a, c, n, rfl, dk, n1, n8, q⟩ := h
    refine ⟨_, pss_cons (ps_set (i := 2) scUnl.nd rfl (.inr rfl) pe_str)
      (pss_cons (ps_asg (pe_tup (pa_cons (pe_call GD hr (by rfl) DD.at_ DD.fn.kp DD.b .nil pass0 (pa_cons (pv 0) (pa_cons pe_int pa_nil))) (pa_cons (pe_call GD hr (by rfl) DD.at_ DD.fn.kp DD.b .nil pass0 (pa_cons (pv 0) (pa_cons pe_int pa_nil))) (pa_cons (pe_call GD hr (by rfl) DD.at_ DD.fn.kp DD.b .nil pass0 (pa_cons (pv 0) (pa_cons pe_int pa_nil))) pa_nil))))
        (pg_tup rfl (pgs_cons (pg_name (i := 3) scUnl.nd rfl (.inl rfl)) (pgs_cons (pg_name (i := 4) scUnl.nd rfl (.inr rfl)) (pgs_cons (pg_name (i := 5) scUnl.nd rfl (.inr rfl)) pgs_nil)))))
      (pss_cons (ps_set (i := 6) scUnl.nd rfl (.inr rfl) (pe_join pe_str (pe_lc (own := [("_law_k", 9)]) (g := gName 9) (tt := tYes) rfl scUnl.nd (pi_range1 (by rfl) G.range (pa_cons pe_int pa_nil)) (blkOk_by (own := [("_law_k", 9)]) (N := nUnl) (sc := defScope sUnl) (by decide +kernel))
          (fun _ _ _ _ _ => pg_name (i := 9) scUnl.nd rfl (Or.inl rfl)) (fun _ _ _ _ _ => pts_nil) (fun _ _ _ _ _ => pe_ix ix_str (pv 2) (pe_call GD hr (by rfl) DD.at_ DD.fn.kp DD.b .nil pass0 (pa_cons (pv 0) (pa_cons pe_int pa_nil))) (fun _ _ => rfl)))))
      (pss_cons (ps_set (i := 7) scUnl.nd rfl (.inl rfl) (pe_lst (pa_cons pe_str (pa_cons pe_str (pa_cons pe_str (pa_cons pe_str (pa_cons pe_str (pa_cons pe_str (pa_cons pe_str (pa_cons pe_str (pa_cons pe_str (pa_cons pe_str (pa_cons pe_str (pa_cons pe_str (pa_cons pe_str (pa_cons pe_str pa_nil))))))))))))))))
      (pss_cons (ps_set (i := 8) scUnl.nd rfl (.inl rfl) (pe_lst (pa_cons (pe_op op_add_str (pe_slice sl_str (pv 2) (po_some (pv 4)) po_none) (pe_slice sl_str (pv 2) po_none (po_some (pv 4))))
        (pa_cons (pe_lc (own := [("_law_k", 9)]) (g := gName 9) (tt := tYes) rfl scUnl.nd (pi_range1 (by rfl) G.range (pa_cons pe_int pa_nil)) (blkOk_by (own := [("_law_k", 9)]) (N := nUnl) (sc := defScope sUnl) (by decide +kernel))
          (fun _ _ _ _ _ => pg_name (i := 9) scUnl.nd rfl (Or.inl rfl)) (fun _ _ _ _ _ => pts_nil) (fun _ _ _ _ _ => pe_op op_add_str (pe_slice sl_str (pv 6) po_none (po_some (pe_op op_add pe_int (pv 9)))) pe_str)) pa_nil))))
      (pss_cons (ps_expr (pe_bm PySem.F.plainAttrs_list PySem.F.slot_list_append PySem.F.type_list_append mt_append (pv 8) (pa_cons
        (pe_lc (own := [("_law_k", 9)]) (g := gName 9) (tt := tYes) rfl scUnl.nd (pi_range1 (by rfl) G.range (pa_cons pe_int pa_nil)) (blkOk_by (own := [("_law_k", 9)]) (N := nUnl) (sc := defScope sUnl) (by decide +kernel))
          (fun _ _ _ _ _ => pg_name (i := 9) scUnl.nd rfl (Or.inl rfl)) (fun _ _ _ _ _ => pts_nil) (fun _ _ _ _ _ => pe_op op_add_str (pe_op op_add_str (pe_slice sl_str (pv 6) po_none (po_some (pv 5))) (pe_ix ix_str (pv 2) (pe_op op_mod (pe_op op_add (pv 4) (pe_op op_mul pe_int (pv 9))) pe_int) (fun _ _ => rfl))) (pe_slice sl_str (pv 6) (po_some (pe_op op_add (pv 5) pe_int)) po_none))) pa_nil)))
      (pss_cons (ps_expr (pe_bm PySem.F.plainAttrs_list PySem.F.slot_list_append PySem.F.type_list_append mt_append (pv 8) (pa_cons (pe_op op_cat (pe_slice sl_list (pv 7) (po_some (pe_op op_mod (pv 4) pe_int)) po_none) (pe_slice sl_list (pv 7) po_none (po_some (pe_op op_mod (pv 4) pe_int)))) pa_nil)))
      (pss_one (ps_ret (pe_slice sl_list (pe_callTy (call_list_of.or (call_list_txt rfl)) (by rfl) G.list (by decide +kernel) (pa_cons (pe_ix ix_list (pv 8) (pv 3) (fun _ _ => rfl)) pa_nil)) po_none (po_some (pv 1))))))))))), ?_⟩
    have SL : ∀ {H : Hp} {p : Addr} {xs : List V}, H p = some (.lst xs) → SqL K H p xs := fun h => .inl (.inl h)
    have three : (3 : Nat) ≤ sizeLine := by decide
    have eabc := abc_str
    have lz : (("abcdefghijklmnopqrstuvwxyz" : Str)).length ≤ sizeLine := by decide +kernel
    have at_abc : ∀ r : Nat, r < 26 → atI (("abcdefghijklmnopqrstuvwxyz" : Str)).cps.toList (r : Int) = some (97 + r) := fun r hr => by
      refine atI_nat ?_
      rw [eabc, mkS_codes]
      unfold abc
      rw [List.getElem?_map, List.getElem?_range hr]
      show some (r + 97) = some (97 + r)
      rw [Nat.add_comm]
    refine ⟨.ref a, rfl, a, c, 4, rfl, dk, by decide, by decide, fun so H1 so0 so1 m1 => ⟨.ref a, rfl, a, c, 26, rfl, m1.deck, by decide, by decide, fun fi H2 fi0 fi1 m2 => ⟨.ref a, rfl, a, c, 8, rfl, m2.deck, by decide, by decide, fun at_ H3 at0 at1 m3 => ⟨three, fun t ht => ?_⟩⟩⟩⟩
    refine ⟨t, _, rfl, .inl (.inl upd_same), rfl, _, _, rfl, _, _, rfl, _, _, rfl, rfl, ?_⟩
    have mv : Mv a c H (upd H3 t (.tup [.int so, .int fi, .int at_])) := ((m1.trans m2).trans m3).trans (Mv.same m3.deck (same_upd ht))
    revert mv
    show _ → tSeq _ _ _ _ (upd H3 t (.tup [.int so, .int fi, .int at_]))
    generalize upd H3 t (.tup [.int so, .int fi, .int at_]) = H4
    intro mv
    obtain ⟨fi, rfl⟩ := Int.eq_ofNat_of_zero_le fi0
    obtain ⟨at_, rfl⟩ := Int.eq_ofNat_of_zero_le at0
    obtain ⟨so, rfl⟩ := Int.eq_ofNat_of_zero_le so0
    have fi26 : fi < 26 := by omega
    have at8 : at_ < 8 := by omega
    -- the word
    refine ⟨⟨_, rfl⟩, 8, rfl, by decide, by decide, fun D hD => lc_range (lo := 0) (n := 8) (fun i H' => Mv a c H H' ∧ ∃ cs : List Nat, cs.length = i ∧ (∀ c ∈ cs, low c = true) ∧ H' D = some (.lst (cs.map fun c => V.str ⟨#[c]⟩))) ⟨mv.trans (Mv.same mv.deck (same_upd hD)), [], rfl, (fun _ z => nomatch z), upd_same⟩ ?_ ?_⟩
    · rintro i H' hi ⟨m, cs, hcl, hlow, hDl⟩
      have nDa : D ≠ a := mv.deck.neA hD
      have nDc : D ≠ c := mv.deck.neC hD
      refine ⟨rfl, _, rfl, .ref a, rfl, a, c, 26, rfl, m.deck, by decide, by decide, fun r H5 r0 r1 m5 => ?_⟩
      obtain ⟨r, rfl⟩ := Int.eq_ofNat_of_zero_le r0
      refine ⟨_, _, 97 + r, rfl, rfl, lz, at_abc r (by omega), _, m5.keep _ _ hDl nDa nDc, ?_, ?_⟩
      · rw [List.length_map, sizeLine_eq]
        omega
      · have m6 := m.trans m5
        refine ⟨⟨fun b o e h1 h2 => ?_, ?_⟩, cs ++ [97 + r], by simp [hcl], fun d hd => ?_, ?_⟩
        · rw [upd_ne (ne_of_none (mv.keep _ _ e h1 h2) hD)]
          exact m6.keep b o e h1 h2
        · obtain ⟨⟨ns, sd, nn, e1, e2, e3⟩, ne⟩ := m6.deck
          exact ⟨⟨ns, sd, nn, by rw [upd_ne nDa.symm]; exact e1, by rw [upd_ne nDc.symm]; exact e2, e3⟩, ne⟩
        · rcases List.mem_append.mp hd with z | z
          · exact hlow d z
          · rw [List.mem_singleton.mp z]
            unfold low
            rw [decide_eq_true (by omega), decide_eq_true (by omega)]
            rfl
        · rw [upd_same, List.map_append]
          rfl
    · rintro H5 ⟨m5, cs, hcl, hlow, hDl⟩
      have ej : (cs.map fun c => (⟨#[c]⟩ : Str)).map V.str = cs.map fun c => V.str ⟨#[c]⟩ := by
        rw [List.map_map]
        rfl
      have hsum : ((cs.map fun c => (⟨#[c]⟩ : Str)).map (·.length)).sum + (cs.map fun c => (⟨#[c]⟩ : Str)).length * ("" : Str).length ≤ 16777216 := by
        have e1 : ((cs.map fun c => (⟨#[c]⟩ : Str)).map (·.length)).sum = cs.length := by
          clear hcl hlow hDl ej
          induction cs with
          | nil => rfl
          | cons x r ih =>
            rw [List.map_cons, List.map_cons, List.sum_cons, ih, List.length_cons, Nat.add_comm]
            rfl
        have e2 : ("" : Str).length = 0 := by decide +kernel
        rw [e1, e2, hcl]
        omega
      refine ⟨"", D, cs.map fun c => (⟨#[c]⟩ : Str), rfl, rfl, .inl (SL (by rw [ej]; exact hDl)), hsum, ?_⟩
      rw [join_signs]
      -- words, some
      have d14 : (14 : Nat) ≤ sizeLine := by decide
      refine ⟨d14, fun wl hwl => ?_⟩
      have m6 : Mv a c H (upd H5 wl (.lst (fourteen.map V.str))) := m5.trans (Mv.same m5.deck (same_upd hwl))
      have hw6 : upd H5 wl (.lst (fourteen.map V.str)) wl = some (.lst (fourteen.map V.str)) := upd_same
      revert m6 hw6
      show _ → _ → tSeq _ _ _ _ (upd H5 wl (.lst (fourteen.map V.str)))
      generalize upd H5 wl (.lst (fourteen.map V.str)) = H6
      intro m6 hw6
      have ewl : (mkS cs).length ≤ sizeLine := by
        rw [mkS_len, hcl]
        decide
      have labc : abc.length = 26 := by decide
      have la1 : (mkS (abc.drop fi)).length + (mkS (abc.take fi)).length ≤ sizeLine := by
        rw [mkS_len, mkS_len, List.length_drop, List.length_take, labc, sizeLine_eq]
        omega
      refine ⟨_, rfl, _, rfl, fi, rfl, _, rfl, lz, _, rfl, _, rfl, fi, rfl, _, rfl, lz, _, _, rfl, rfl, ?_, ?_⟩
      · rw [eabc, cut_from _ _ (by rw [labc]; omega), cut_to _ _ (by rw [labc]; omega)]
        exact la1
      · rw [eabc, cut_from _ _ (by rw [labc]; omega), cut_to _ _ (by rw [labc]; omega), app_mk]
        show tLc _ _ _ _ _ _ _ _
        refine ⟨7, rfl, by decide, by decide, fun D1 hD1 => lc_range (lo := 0) (n := 7) (fun i H' => Same H6 H' ∧ H' D1 = some (.lst ((List.range i).map fun k => V.str (mkS (cs.take (1 + k) ++ [120]))))) ⟨same_upd hD1, upd_same⟩ ?_ ?_⟩
        · rintro i H' hi ⟨sm, e⟩
          have ei : (1 : Int) + (0 + (i : Int)) = ((1 + i : Nat) : Int) := by omega
          have ec : cutS (mkS cs) none (some (1 + (0 + (i : Int)))) = mkS (cs.take (1 + i)) := by
            rw [ei]
            exact cut_to _ _ (by omega)
          have ex : (("x" : Str)) = mkS [120] := by decide +kernel
          refine ⟨rfl, _, rfl, _, rfl, _, _, rfl, rfl, _, rfl, _, rfl, ewl, _, _, rfl, rfl, ?_, _, e, ?_, ?_⟩
          · rw [ec, ex, mkS_len, mkS_len, List.length_take, sizeLine_eq]
            simp only [List.length_cons, List.length_nil]
            omega
          · rw [List.length_map, List.length_range, sizeLine_eq]
            omega
          · rw [ec, ex, app_mk]
            refine ⟨fun b o z => ?_, ?_⟩
            · rw [upd_ne (ne_of_none z hD1)]
              exact sm b o z
            · rw [upd_same, List.range_succ, List.map_append]
              rfl
        · rintro H7 ⟨sm7, e7⟩
          refine ⟨(by show 2 ≤ sizeLine; decide), fun so_ hso => ?_⟩
          have sm8 : Same H7 (upd H7 so_ (.lst [.str (mkS (abc.drop fi ++ abc.take fi)), .ref D1])) := same_upd hso
          have e8 : upd H7 so_ (.lst [.str (mkS (abc.drop fi ++ abc.take fi)), .ref D1]) so_ = some (.lst [.str (mkS (abc.drop fi ++ abc.take fi)), .ref D1]) := upd_same
          revert sm8 e8
          show _ → _ → tSeq _ _ _ _ (upd H7 so_ (.lst [.str (mkS (abc.drop fi ++ abc.take fi)), .ref D1]))
          generalize upd H7 so_ (.lst [.str (mkS (abc.drop fi ++ abc.take fi)), .ref D1]) = H8
          intro sm8 e8
          have eD1 := sm8 _ _ e7
          -- some.append(26 of them)
          refine ⟨_, rfl, .inl ⟨rfl, _, SL e8⟩, 26, rfl, by decide, by decide, fun D2 hD2 => lc_range (lo := 0) (n := 26) (fun i H' => Same H8 H' ∧ H' D2 = some (.lst ((List.range i).map fun k => V.str (mkS (cs.take at_ ++ [97 + (fi + 7 * k) % 26] ++ cs.drop (at_ + 1)))))) ⟨same_upd hD2, upd_same⟩ ?_ ?_⟩
          · rintro i H' hi ⟨sm, e⟩
            have ei : ((fi : Int) + 7 * (0 + (i : Int))) % 26 = (((fi + 7 * i) % 26 : Nat) : Int) := by omega
            have ea : ((at_ : Int) + 1) = ((at_ + 1 : Nat) : Int) := by omega
            have ec : cutS (mkS cs) none (some (at_ : Int)) = mkS (cs.take at_) := cut_to _ _ (by omega)
            have ed : cutS (mkS cs) (some ((at_ : Int) + 1)) none = mkS (cs.drop (at_ + 1)) := by
              rw [ea]
              exact cut_from _ _ (by omega)
            have hat : atI (("abcdefghijklmnopqrstuvwxyz" : Str)).cps.toList (((fi : Int) + 7 * (0 + (i : Int))) % 26) = some (97 + (fi + 7 * i) % 26) := by
              rw [ei]
              exact at_abc _ (Nat.mod_lt _ (by decide))
            have e1 : (⟨#[97 + (fi + 7 * i) % 26]⟩ : Str) = mkS [97 + (fi + 7 * i) % 26] := rfl
            refine ⟨rfl, _, rfl, _, rfl, _, rfl, _, rfl, ewl, _, rfl, _, rfl, _, rfl, _, _, rfl, rfl, .inl ⟨by decide, by decide⟩, _, _, rfl, rfl, _, _, rfl, rfl, (by show (0 : Int) < 26; decide), _, _, _, rfl, rfl, lz, hat, _, _, rfl, rfl, ?_, _, rfl, _, rfl, _, _, rfl, rfl, _, rfl, _, rfl, ewl, _, _, rfl, rfl, ?_, _, e, ?_, ?_⟩
            · rw [ec, e1, mkS_len, mkS_len, List.length_take, sizeLine_eq]
              simp only [List.length_cons, List.length_nil]
              omega
            · rw [ec, e1, app_mk, ed, mkS_len, mkS_len, List.length_append, List.length_take, List.length_drop, sizeLine_eq]
              simp only [List.length_cons, List.length_nil]
              omega
            · rw [List.length_map, List.length_range, sizeLine_eq]
              omega
            · rw [ec, e1, app_mk, ed, app_mk]
              refine ⟨fun b o z => ?_, ?_⟩
              · rw [upd_ne (ne_of_none z hD2)]
                exact sm b o z
              · rw [upd_same, List.range_succ, List.map_append]
                rfl
          · rintro H9 ⟨sm9, e9⟩
            have s9 := sm9 _ _ e8
            refine ⟨so_, _, _, rfl, rfl, s9, (by show 2 < sizeLine; decide), ?_⟩
            have nD1 : D1 ≠ so_ := ne_of_none e7 hso
            have nD2 : D2 ≠ so_ := fun z => by
              rw [z, e8] at hD2
              cases hD2
            have nwl : wl ≠ so_ := ne_of_none (sm7 _ _ hw6) hso
            have kp9 : ∀ b o, H6 b = some o → upd H9 so_ (.lst ([.str (mkS (abc.drop fi ++ abc.take fi)), .ref D1] ++ [.ref D2])) b = some o := fun b o z => by
              have z7 := sm7 _ _ z
              rw [upd_ne (ne_of_none z7 hso)]
              exact sm9 _ _ (sm8 _ _ z7)
            have k1 : upd H9 so_ (.lst ([.str (mkS (abc.drop fi ++ abc.take fi)), .ref D1] ++ [.ref D2])) D1 = some (.lst ((List.range 7).map fun k => V.str (mkS (cs.take (1 + k) ++ [120])))) := by
              rw [upd_ne nD1]
              exact sm9 _ _ eD1
            have k2 : upd H9 so_ (.lst ([.str (mkS (abc.drop fi ++ abc.take fi)), .ref D1] ++ [.ref D2])) D2 = some (.lst ((List.range 26).map fun k => V.str (mkS (cs.take at_ ++ [97 + (fi + 7 * k) % 26] ++ cs.drop (at_ + 1))))) := by
              rw [upd_ne nD2]
              exact e9
            have ks : upd H9 so_ (.lst ([.str (mkS (abc.drop fi ++ abc.take fi)), .ref D1] ++ [.ref D2])) so_ = some (.lst [.str (mkS (abc.drop fi ++ abc.take fi)), .ref D1, .ref D2]) := upd_same
            revert kp9 k1 k2 ks
            generalize upd H9 so_ (.lst ([.str (mkS (abc.drop fi ++ abc.take fi)), .ref D1] ++ [.ref D2])) = HA
            intro kp9 k1 k2 ks
            have hwA := kp9 _ _ hw6
            have hso6 : H6 so_ = none := sm7.free hso
            -- some.append(words turned)
            have efi : ((fi : Int) % 14) = ((fi % 14 : Nat) : Int) := by omega
            have l14 : (fourteen.map V.str).length = 14 := by decide
            have cV1 : cutV (fourteen.map V.str) (some ((fi : Int) % 14)) none = (fourteen.map V.str).drop (fi % 14) := by
              rw [efi]
              exact cutV_from _ _ (by rw [l14]; omega)
            have cV2 : cutV (fourteen.map V.str) none (some ((fi : Int) % 14)) = (fourteen.map V.str).take (fi % 14) := by
              rw [efi]
              exact cutV_to _ _ (by rw [l14]; omega)
            refine ⟨_, rfl, .inl ⟨rfl, _, SL ks⟩, _, rfl, _, rfl, _, _, rfl, rfl, (by show (0 : Int) < 14; decide), _, rfl, wl, _, rfl, SL hwA, fun p1 hp1 => ⟨_, rfl, _, rfl, _, _, rfl, rfl, (by show (0 : Int) < 14; decide), _, rfl, wl, _, rfl, SL (same_upd hp1 _ _ hwA), fun p2 hp2 => ?_⟩⟩
            rw [cV1, cV2]
            rw [cV1] at hp2
            refine ⟨p1, p2, _, _, rfl, rfl, same_upd hp2 _ _ upd_same, upd_same, ?_, fun p3 hp3 => ?_⟩
            · rw [List.length_drop, List.length_take, l14, sizeLine_eq]
              omega
            · have sA : Same HA (upd (upd (upd HA p1 (.lst ((fourteen.map V.str).drop (fi % 14)))) p2 (.lst ((fourteen.map V.str).take (fi % 14)))) p3 (.lst ((fourteen.map V.str).drop (fi % 14) ++ (fourteen.map V.str).take (fi % 14)))) := (same_upd hp1).trans ((same_upd hp2).trans (same_upd hp3))
              have e3 : upd (upd (upd HA p1 (.lst ((fourteen.map V.str).drop (fi % 14)))) p2 (.lst ((fourteen.map V.str).take (fi % 14)))) p3 (.lst ((fourteen.map V.str).drop (fi % 14) ++ (fourteen.map V.str).take (fi % 14))) p3 = some (.lst ((fourteen.map V.str).drop (fi % 14) ++ (fourteen.map V.str).take (fi % 14))) := upd_same
              revert sA e3
              generalize upd (upd (upd HA p1 (.lst ((fourteen.map V.str).drop (fi % 14)))) p2 (.lst ((fourteen.map V.str).take (fi % 14)))) p3 (.lst ((fourteen.map V.str).drop (fi % 14) ++ (fourteen.map V.str).take (fi % 14))) = HB
              intro sA e3
              have n3 : p3 ≠ so_ := fun z => by
                have z1 := ((same_upd hp1).trans (same_upd (o := .lst ((fourteen.map V.str).take (fi % 14))) hp2)) _ _ ks
                rw [← z, hp3] at z1
                cases z1
              refine ⟨so_, _, _, rfl, rfl, sA _ _ ks, (by show 3 < sizeLine; decide), ?_⟩
              have kpC : ∀ b o, H6 b = some o → upd HB so_ (.lst ([.str (mkS (abc.drop fi ++ abc.take fi)), .ref D1, .ref D2] ++ [.ref p3])) b = some o := fun b o z => by
                rw [upd_ne (ne_of_none z hso6)]
                exact sA _ _ (kp9 _ _ z)
              have c1 : upd HB so_ (.lst ([.str (mkS (abc.drop fi ++ abc.take fi)), .ref D1, .ref D2] ++ [.ref p3])) D1 = some (.lst (((List.range 7).map fun k => mkS (cs.take (1 + k) ++ [120])).map V.str)) := by
                rw [upd_ne nD1, sA _ _ k1, List.map_map]
                rfl
              have c2 : upd HB so_ (.lst ([.str (mkS (abc.drop fi ++ abc.take fi)), .ref D1, .ref D2] ++ [.ref p3])) D2 = some (.lst (((List.range 26).map fun k => mkS (cs.take at_ ++ [97 + (fi + 7 * k) % 26] ++ cs.drop (at_ + 1))).map V.str)) := by
                rw [upd_ne nD2, sA _ _ k2, List.map_map]
                rfl
              have c3 : upd HB so_ (.lst ([.str (mkS (abc.drop fi ++ abc.take fi)), .ref D1, .ref D2] ++ [.ref p3])) p3 = some (.lst ((rot fourteen (fi % 14)).map V.str)) := by
                rw [upd_ne n3, e3]
                unfold rot
                rw [List.map_append, List.map_drop, List.map_take]
              have cS : upd HB so_ (.lst ([.str (mkS (abc.drop fi ++ abc.take fi)), .ref D1, .ref D2] ++ [.ref p3])) so_ = some (.lst [.str (mkS (abc.drop fi ++ abc.take fi)), .ref D1, .ref D2, .ref p3]) := upd_same
              revert kpC c1 c2 c3 cS
              generalize upd HB so_ (.lst ([.str (mkS (abc.drop fi ++ abc.take fi)), .ref D1, .ref D2] ++ [.ref p3])) = HC
              intro kpC c1 c2 c3 cS
              have mC : Mv a c H HC := by
                refine ⟨fun b o e h1 h2 => kpC _ _ (m6.keep b o e h1 h2), ?_⟩
                obtain ⟨⟨ns, sd, nn, e1, e2, e3⟩, ne⟩ := m6.deck
                exact ⟨⟨ns, sd, nn, kpC _ _ e1, kpC _ _ e2, e3⟩, ne⟩
              obtain ⟨nn, rfl⟩ := Int.eq_ofNat_of_zero_le (show 0 ≤ n by omega)
              -- the end, from the list that was taken
              have fin : ∀ (l : Addr) (ns : List Str), HC l = none → Good ns → ns.length ≤ 26 → ∀ p, upd HC l (.lst (ns.map V.str)) p = none → Q (.ref p) (upd (upd HC l (.lst (ns.map V.str))) p (.lst (cutV (ns.map V.str) none (some (nn : Int))))) := by
                intro l ns hl hg hlen p hp
                have cut : cutV (ns.map V.str) none (some (nn : Int)) = (ns.take nn).map V.str := by
                  unfold cutV
                  rw [HT.sIx_none, show HT.sIx (ns.map V.str).length (ns.map V.str).length (some (nn : Int)) = min nn (ns.map V.str).length from HT.sIx_nat _ _ nn, Nat.sub_zero, List.drop_zero, List.map_take]
                  by_cases hle : nn ≤ (ns.map V.str).length
                  · rw [Nat.min_eq_left hle]
                  · rw [Nat.min_eq_right (by omega), List.take_length, List.take_of_length_le (by omega)]
                rw [cut]
                refine q p (ns.take nn) _ (mC.trans (Mv.same mC.deck ((same_upd hl).trans (same_upd hp)))) (mC.free ((same_upd hl).free hp)) upd_same (hg.take (by omega)) ?_
                rw [List.length_take]
                omega
              have g0 := good0 fi fi26
              refine ⟨_, rfl, _, rfl, ?_⟩
              match so, so1 with
              | 0, _ =>
                refine ⟨so_, _, 0, _, rfl, rfl, SL cS, rfl, .inr ⟨_, rfl, ?_, fun l hl => ⟨_, rfl, _, rfl, l, _, rfl, SL upd_same, fun p hp => ?_⟩⟩⟩
                · rw [mkS_len, List.length_append, List.length_drop, List.length_take, labc, sizeLine_eq]
                  omega
                · have e0 : ((mkS (abc.drop fi ++ abc.take fi)).cps.toList.map fun c => V.str ⟨#[c]⟩) = ((rot abc fi).map fun c => (⟨#[c]⟩ : Str)).map V.str := by
                    rw [mkS_codes, List.map_map]
                    rfl
                  rw [e0] at hp ⊢
                  refine fin l _ hl g0 ?_ p hp
                  unfold rot
                  rw [List.length_map, List.length_append, List.length_drop, List.length_take, labc]
                  omega
              | 1, _ => exact ⟨so_, _, 1, _, rfl, rfl, SL cS, rfl, .inl ⟨D1, _, rfl, .inl (SL c1), fun l hl => ⟨_, rfl, _, rfl, l, _, rfl, SL upd_same, fun p hp => fin l _ hl (good1 cs hcl hlow) (by simp) p hp⟩⟩⟩
              | 2, _ => exact ⟨so_, _, 2, _, rfl, rfl, SL cS, rfl, .inl ⟨D2, _, rfl, .inl (SL c2), fun l hl => ⟨_, rfl, _, rfl, l, _, rfl, SL upd_same, fun p hp => fin l _ hl (good2 cs hcl hlow fi at_ fi26 at8) (by simp) p hp⟩⟩⟩
              | 3, _ =>
                refine ⟨so_, _, 3, _, rfl, rfl, SL cS, rfl, .inl ⟨p3, _, rfl, .inl (SL c3), fun l hl => ⟨_, rfl, _, rfl, l, _, rfl, SL upd_same, fun p hp => fin l _ hl (good3 (fi % 14) (Nat.mod_lt _ (by decide))) ?_ p hp⟩⟩⟩
                unfold rot
                rw [List.length_append, List.length_drop, List.length_take]
                have : fourteen.length = 14 := by decide
                omega
              | so + 4, h => omega
end
end K1
set_option Elab.async false
set_option linter.all false
set_option maxRecDepth 100000
set_option maxHeartbeats 4000000
namespace K1
open PySem PySem.Spec PyProof.Rows L2 KG
/-! ### sum_of -/
/-- all but the deck and the list at l is kept -/
structure Mw (a c l : Addr) (H H' : Hp) : Prop where
  keep : ∀ b o, H b = some o → b ≠ a → b ≠ c → b ≠ l → H' b = some o
  deck : Deck H' a c
  left : ∃ n : Int, H' l = some (.lst [.int n])
theorem Mw.trans {a c l : Addr} {H H1 H2 : Hp} (m : Mw a c l H H1) (n : Mw a c l H1 H2) : Mw a c l H H2 := ⟨fun b o e h1 h2 h3 => n.keep b o (m.keep b o e h1 h2 h3) h1 h2 h3, n.deck, n.left⟩
theorem Mw.of {a c l : Addr} {H H' : Hp} (m : Mv a c H H') (hl : ∃ n : Int, H l = some (.lst [.int n])) (n1 : l ≠ a) (n2 : l ≠ c) : Mw a c l H H' := by
  obtain ⟨n, e⟩ := hl
  exact ⟨fun b o e h1 h2 _ => m.keep b o e h1 h2, m.deck, n, m.keep _ _ e n1 n2⟩
theorem Mw.sql {K : PySem.W.Frag} {a c l p : Addr} {H H' : Hp} {xs : List V} (m : Mw a c l H H') (h : SqL K H p xs) (h1 : p ≠ a) (h2 : p ≠ c) (h3 : p ≠ l) : SqL K H' p xs := by
  rcases h with (h | ⟨o, h⟩) | h
  · exact .inl (.inl (m.keep _ _ h h1 h2 h3))
  · exact .inl (.inr ⟨o, m.keep _ _ h h1 h2 h3⟩)
  · exact .inr h
/-- where the deck and the left one are lists no tuple is touched -/
theorem Mw.sqt {K : PySem.W.Frag} {a c l p : Addr} {H H' : Hp} {xs : List V} (m : Mw a c l H H') (d : Deck H a c) (hl : ∃ n : Int, H l = some (.lst [.int n])) (h : SqT K H p xs) : SqT K H' p xs := by
  obtain ⟨⟨ns, sd, n, e1, e2, _⟩, _⟩ := d
  obtain ⟨n2, e3⟩ := hl
  have no : ∀ {o : HO}, H p = some o → (∀ ys, o ≠ .lst ys) → p ≠ a ∧ p ≠ c ∧ p ≠ l := fun {o} e h => by
    refine ⟨fun z => ?_, fun z => ?_, fun z => ?_⟩
    · rw [z, e1] at e
      exact h _ (Option.some.inj e).symm
    · rw [z, e2] at e
      exact h _ (Option.some.inj e).symm
    · rw [z, e3] at e
      exact h _ (Option.some.inj e).symm
  rcases h with (h | ⟨o, h⟩) | h
  · obtain ⟨h1, h2, h3⟩ := no h fun ys z => nomatch z
    exact .inl (.inl (m.keep _ _ h h1 h2 h3))
  · obtain ⟨h1, h2, h3⟩ := no h fun ys z => nomatch z
    exact .inl (.inr ⟨o, m.keep _ _ h h1 h2 h3⟩)
  · exact .inr h
theorem TmAt.mw {K : PySem.W.Frag} {a c l : Addr} {H H' : Hp} (m : Mw a c l H H') (d : Deck H a c) (hl : ∃ n : Int, H l = some (.lst [.int n])) : ∀ {v : V} {t : Tm}, TmAt K H v t → TmAt K H' v t
  | _, _, .num h => .num (m.sqt d hl h)
  | _, _, .nam h => .nam (m.sqt d hl h)
  | _, _, .op hw h h1 h2 => .op hw (m.sqt d hl h) (TmAt.mw m d hl h1) (TmAt.mw m d hl h2)
abbrev sSum : Stmt := topS 27
abbrev nSum : List Str := ["_law_deck_here", "_law_names", "_law_deep", "_law_left", "_law_way", "_law_number", "_law_one", "_law_other"]
theorem scSum : FnScope nSum ["_law_deck_here", "_law_names", "_law_deep", "_law_left"] (defScope sSum) := ⟨rfl, rfl, rfl, by decide +kernel, rfl, by decide +kernel, by decide +kernel⟩
def eleven : List Int := [0, 1, 2, 7, 255, 256, 257, 32767, 32768, 65534, 65535]
theorem eleven_rng : ∀ x ∈ eleven.map V.int, ∃ k, x = .int k ∧ Rng k := fun x hx => by
  obtain ⟨k, hk, rfl⟩ := List.mem_map.mp hx
  refine ⟨k, rfl, ?_⟩
  have h : ∀ k ∈ eleven, 0 ≤ k ∧ k < 65536 := by decide
  exact h k hk
section
variable {P : Program} {w : World} {K : PySem.W.Frag} {mg : Str → Option Value} {base : Heap}
def spSum (K : PySem.W.Frag) (d : Nat) : Sp := fun vs H Q _ => ∃ (a c p l : Addr) (ns : List Str), vs = [.ref a, .ref p, .int d, .ref l] ∧ 1 ≤ d ∧ Deck H a c ∧ SqL K H p (ns.map V.str) ∧ p ≠ a ∧ p ≠ c ∧ p ≠ l ∧ ns ≠ [] ∧ ns.length ≤ 8 ∧ (∃ n : Int, H l = some (.lst [.int n])) ∧ l ≠ a ∧ l ≠ c ∧
  ∀ v t H', Mw a c l H H' → TmAt K H' v t → t.dep ≤ d → t.Ok ns → Q v H'
theorem ok_sum {f pW fD fP : Addr} {fd fdD fdP : FuncData} (D : Def K mg "_law_sum_of" sSum ["_law_deck_here", "_law_names", "_law_deep", "_law_left"] f fd) (G : Glob K mg pW) (DD : Def K mg "_law_draw" sDraw ["_law_deck_here", "_law_ways"] fD fdD) (DP : Def K mg "_law_pick" sPick ["_law_deck_here", "_law_some"] fP fdP) :
    ∀ d : Nat, FnOk P w K mg base CX0 (d + 3) f fd ["_law_deck_here", "_law_names", "_law_deep", "_law_left"] (spSum K d)
  | 0 => ⟨fun vs H Q E h => by obtain ⟨a, c, p, l, ns, rfl, _⟩ := h; rfl, fun A outer s H args us vs Q E _ _ _ _ h => by
      obtain ⟨a, c, p, l, ns, _, h1, _⟩ := h
      exact absurd h1 (by decide)⟩
  | d + 1 => by
    have IH := ok_sum D G DD DP d
    have GD : FnOk P w K mg base CX0 (0 + 1) fD fdD ["_law_deck_here", "_law_ways"] spDraw := ok_draw DD.fn
    have GP : FnOk P w K mg base CX0 (0 + 2) fP fdP ["_law_deck_here", "_law_some"] (spPick K) := ok_pick DP.fn G.len DD.fn DD.at_ DD.b
    refine D.fn.ok scSum (fun vs H Q E h => ?_) (fun cdv A outer s H vs Q E hr h => ?_)
    · obtain ⟨a, c, p, l, ns, rfl, _⟩ := h
      rfl
    · obtain ⟨a, c, p, l, ns, rfl, _, dk, hp, pa, pc, pl, n0, n8, ⟨n, hl⟩, la, lc, q⟩ := h
      have h1 : Room (0 + 1) _ := hr.mono (by omega)
      have h2 : Room (0 + 2) _ := hr.mono (by omega)
      have SL : ∀ {H : Hp} {p : Addr} {xs : List V}, H p = some (.lst xs) → SqL K H p xs := fun h => .inl (.inl h)
      refine ⟨_, pss_cons (ps_set (i := 4) scSum.nd rfl (.inl rfl) (pe_call GD h1 (by rfl) DD.at_ DD.fn.kp DD.b .nil pass0 (pa_cons (pv 0) (pa_cons pe_int pa_nil))))
        (pss_cons (ps_asg (pe_op op_sub (pe_ix ix_list (pv 3) pe_int (fun _ _ => rfl)) pe_int) (pg_sub (pv 3) pe_int set_list))
        (pss_cons (ps_if (PW.pt (pw_or (pt_cmpR op_lt (pv 2) pe_int (nomark _)) (pw_or (pt_cmpR op_lt (pe_ix ix_list (pv 3) pe_int (fun _ _ => rfl)) pe_int (nomark _)) (pw_or1 (pt_cmpR op_lt (pv 4) pe_int (nomark _))))))
          (pss_cons (ps_set (i := 5) scSum.nd rfl (.inl rfl) (pe_call GP h2 (by rfl) DP.at_ DP.fn.kp DP.b .nil pass0 (pa_cons (pv 0) (pa_cons (pe_lst (pa_cons pe_int (pa_cons pe_int (pa_cons pe_int (pa_cons pe_int (pa_cons pe_int (pa_cons pe_int (pa_cons pe_int (pa_cons pe_int (pa_cons pe_int (pa_cons pe_int (pa_cons pe_int pa_nil)))))))))))) pa_nil))))
          (pss_one (ps_ret (pe_ifExp (pt_cmpR op_eq (pe_call GD h1 (by rfl) DD.at_ DD.fn.kp DD.b .nil pass0 (pa_cons (pv 0) (pa_cons pe_int pa_nil))) pe_int (nomark _)) (pe_tup (pa_cons pe_str (pa_cons (pv 5) pa_nil)))
            (pe_tup (pa_cons pe_str (pa_cons (pe_call GP h2 (by rfl) DP.at_ DP.fn.kp DP.b .nil pass0 (pa_cons (pv 0) (pa_cons (pv 1) pa_nil))) pa_nil))))))) pss_nil)
        (pss_cons (ps_asg (pe_op op_sub (pe_ix ix_list (pv 3) pe_int (fun _ _ => rfl)) pe_int) (pg_sub (pv 3) pe_int set_list))
        (pss_cons (ps_set (i := 6) scSum.nd rfl (.inl rfl) (pe_call IH hr (by rfl) D.at_ D.fn.kp D.b .nil pass0 (pa_cons (pv 0) (pa_cons (pv 1) (pa_cons (pe_op op_sub (pv 2) pe_int) (pa_cons (pv 3) pa_nil))))))
        (pss_cons (ps_asg (pe_op op_add (pe_ix ix_list (pv 3) pe_int (fun _ _ => rfl)) pe_int) (pg_sub (pv 3) pe_int set_list))
        (pss_cons (ps_set (i := 7) scSum.nd rfl (.inl rfl) (pe_call IH hr (by rfl) D.at_ D.fn.kp D.b .nil pass0 (pa_cons (pv 0) (pa_cons (pv 1) (pa_cons (pe_op op_sub (pv 2) pe_int) (pa_cons (pv 3) pa_nil))))))
        (pss_one (ps_ret (pe_tup (pa_cons (pe_ix ix_list (pe_lst (pa_cons pe_str (pa_cons pe_str (pa_cons pe_str (pa_cons pe_str (pa_cons pe_str (pa_cons pe_str pa_nil))))))) (pe_op op_sub (pv 4) pe_int) (fun _ _ => rfl)) (pa_cons (pv 6) (pa_cons (pv 7) pa_nil)))))))))))), ?_⟩
      have set1 : ∀ {H1 : Hp} {m : Int} (k : Int), Mw a c l H H1 → Mw a c l H (upd H1 l (.lst [.int k])) := fun {H1 m} k mw => by
        refine ⟨fun b o e h1 h2 h3 => ?_, ?_, k, upd_same⟩
        · rw [upd_ne h3]
          exact mw.keep b o e h1 h2 h3
        · obtain ⟨⟨ns, sd, nn, e1, e2, e3⟩, ne⟩ := mw.deck
          exact ⟨⟨ns, sd, nn, by rw [upd_ne la.symm]; exact e1, by rw [upd_ne lc.symm]; exact e2, e3⟩, ne⟩
      -- way
      refine ⟨.ref a, rfl, a, c, 8, rfl, dk, by decide, by decide, fun way H1 w0 w1 m1 => ?_⟩
      have mw1 : Mw a c l H H1 := Mw.of m1 ⟨n, hl⟩ la lc
      have e1 : H1 l = some (.lst [.int n]) := m1.keep _ _ hl la lc
      -- left[0] less 1
      refine ⟨_, rfl, l, _, 0, .int n, rfl, rfl, SL e1, rfl, _, _, rfl, rfl, _, rfl, l, _, 0, 0, rfl, rfl, e1, rfl, ?_⟩
      have mw2 := set1 (m := n) (n - 1) mw1
      have e2 : upd H1 l (.lst [.int (n - 1)]) l = some (.lst [.int (n - 1)]) := upd_same
      revert mw2 e2
      show _ → _ → tSeq _ _ _ _ (upd H1 l (.lst [.int (n - 1)]))
      generalize upd H1 l (.lst [.int (n - 1)]) = H2
      intro mw2 e2
      have leaf : ∀ H3, Mw a c l H H3 → ∀ (nx : L2.St → Hp → Prop), (tSeq (tAsg (tCall (spPick K) [] E0 (tCons (tVar 0) (tCons (tLst (tCons (tC (.int 0)) (tCons (tC (.int 1)) (tCons (tC (.int 2)) (tCons (tC (.int 7)) (tCons (tC (.int 255)) (tCons (tC (.int 256)) (tCons (tC (.int 257)) (tCons (tC (.int 32767)) (tCons (tC (.int 32768)) (tCons (tC (.int 65534)) (tCons (tC (.int 65535)) tNil)))))))))))) tNil))) (gName 5))
          (tRet (tIf (tTest (tOp rEq (tCall spDraw [] E0 (tCons (tVar 0) (tCons (tC (.int 3)) tNil))) (tC (.int 0)))) (tTup (tCons (tC (.str "num")) (tCons (tVar 5) tNil))) (tTup (tCons (tC (.str "name")) (tCons (tCall (spPick K) [] E0 (tCons (tVar 0) (tCons (tVar 1) tNil))) tNil)))))) { nx := nx, rt := Q } [some (.ref a), some (.ref p), some (.int (d + 1 : Nat)), some (.ref l), some (.int way), none, none, none] H3 := by
        intro H3 mw3 nx
        refine ⟨.ref a, rfl, (by show 11 ≤ sizeLine; decide), fun y hy => ⟨a, c, y, eleven.map V.int, rfl, mw3.deck.same (same_upd hy), SL upd_same, mw3.deck.neA hy, mw3.deck.neC hy, by decide, by decide, fun x H4 hx m4 => ?_⟩⟩
        obtain ⟨kk, rfl, hk⟩ := eleven_rng x hx
        have mw4 : Mw a c l H H4 := mw3.trans (Mw.of ((Mv.same mw3.deck (same_upd hy)).trans m4) mw3.left la lc)
        refine ⟨.ref a, rfl, a, c, 3, rfl, m4.deck, by decide, by decide, fun r H5 r0 r1 m5 => ?_⟩
        have mw5 : Mw a c l H H5 := mw4.trans (Mw.of m5 mw4.left la lc)
        refine ⟨rfl, _, rfl, ite2 (fun h => ?_) (fun h => ?_)⟩
        · refine ⟨_, rfl, (by show 2 ≤ sizeLine; decide), fun t ht => ?_⟩
          refine q _ (.num kk) _ (mw5.trans (Mw.of (Mv.same mw5.deck (same_upd ht)) mw5.left la lc)) (.num (.inl (.inl upd_same))) (by show 1 ≤ d + 1; omega) hk
        · refine ⟨.ref a, rfl, .ref p, rfl, a, c, p, ns.map V.str, rfl, mw5.deck, mw5.sql hp pa pc pl, pa, pc, by simpa using n0, by simp; omega, fun x H6 hx m6 => ?_⟩
          obtain ⟨nmx, hn, rfl⟩ := List.mem_map.mp hx
          have mw6 : Mw a c l H H6 := mw5.trans (Mw.of m6 mw5.left la lc)
          refine ⟨(by show 2 ≤ sizeLine; decide), fun t ht => ?_⟩
          exact q _ (.nam nmx) _ (mw6.trans (Mw.of (Mv.same mw6.deck (same_upd ht)) mw6.left la lc)) (.nam (.inl (.inl upd_same))) (by show 1 ≤ d + 1; omega) hn
      refine ⟨_, rfl, _, _, rfl, rfl, _, rfl, ?_⟩
      by_cases c1 : ((d + 1 : Nat) : Int) < 2
      · rw [decide_eq_true c1]
        exact iteT (leaf H2 mw2 _)
      rw [decide_eq_false c1]
      refine iteF ⟨_, rfl, l, _, 0, .int (n - 1), rfl, rfl, SL e2, rfl, _, _, rfl, rfl, _, rfl, ?_⟩
      by_cases c2 : n - 1 < 2
      · rw [decide_eq_true c2]
        exact iteT (leaf H2 mw2 _)
      rw [decide_eq_false c2]
      refine iteF ⟨_, rfl, _, _, rfl, rfl, _, rfl, ?_⟩
      by_cases c3 : way < 2
      · rw [decide_eq_true c3]
        exact iteT (leaf H2 mw2 _)
      rw [decide_eq_false c3]
      -- left[0] less 2
      refine iteF ⟨_, rfl, l, _, 0, .int (n - 1), rfl, rfl, SL e2, rfl, _, _, rfl, rfl, _, rfl, l, _, 0, 0, rfl, rfl, e2, rfl, ?_⟩
      have mw3 := set1 (m := n) (n - 1 - 2) mw2
      have e3 : upd H2 l (.lst [.int (n - 1 - 2)]) l = some (.lst [.int (n - 1 - 2)]) := upd_same
      revert mw3 e3
      show _ → _ → tSeq _ _ _ _ (upd H2 l (.lst [.int (n - 1 - 2)]))
      generalize upd H2 l (.lst [.int (n - 1 - 2)]) = H3
      intro mw3 e3
      have ed : ((d + 1 : Nat) : Int) - 1 = (d : Nat) := by omega
      refine ⟨_, rfl, _, rfl, _, rfl, _, _, rfl, rfl, _, rfl, a, c, p, l, ns, ?_, by omega, mw3.deck, mw3.sql hp pa pc pl, pa, pc, pl, n0, n8, ⟨_, e3⟩, la, lc, fun v1 t1 H4 mw4 ht1 hd1 ho1 => ?_⟩
      · show [V.ref a, V.ref p, V.int (((d + 1 : Nat) : Int) - 1), V.ref l] = _
        rw [ed]
      have mwA := mw3.trans mw4
      obtain ⟨n4, e4⟩ := mw4.left
      refine ⟨_, rfl, l, _, 0, .int n4, rfl, rfl, SL e4, rfl, _, _, rfl, rfl, _, rfl, l, _, 0, 0, rfl, rfl, e4, rfl, ?_⟩
      have mw5 := set1 (m := n) (n4 + 1) mwA
      have mw45 : Mw a c l H4 (upd H4 l (.lst [.int (n4 + 1)])) := by
        refine ⟨fun b o e h1 h2 h3 => by rw [upd_ne h3]; exact e, mw5.deck, mw5.left⟩
      have e5 : upd H4 l (.lst [.int (n4 + 1)]) l = some (.lst [.int (n4 + 1)]) := upd_same
      revert mw5 mw45 e5
      show _ → _ → _ → tSeq _ _ _ _ (upd H4 l (.lst [.int (n4 + 1)]))
      generalize upd H4 l (.lst [.int (n4 + 1)]) = H5
      intro mw5 mw45 e5
      have ht1' := ht1.mw mw45 mw4.deck ⟨_, e4⟩
      refine ⟨_, rfl, _, rfl, _, rfl, _, _, rfl, rfl, _, rfl, a, c, p, l, ns, ?_, by omega, mw5.deck, mw5.sql hp pa pc pl, pa, pc, pl, n0, n8, ⟨_, e5⟩, la, lc, fun v2 t2 H6 mw6 ht2 hd2 ho2 => ?_⟩
      · show [V.ref a, V.ref p, V.int (((d + 1 : Nat) : Int) - 1), V.ref l] = _
        rw [ed]
      have mwB := mw5.trans mw6
      have ht1'' := ht1'.mw mw6 mw5.deck ⟨_, e5⟩
      obtain ⟨j, hj⟩ := Int.eq_ofNat_of_zero_le (show 0 ≤ way - 2 by omega)
      have j6 : j < six.length := by
        show j < 6
        omega
      have hat : atI (six.map V.str) (way - 2) = some (.str six[j]) := by
        rw [hj]
        refine atI_nat ?_
        rw [List.getElem?_map, List.getElem?_eq_getElem j6]
        rfl
      refine ⟨(by show 6 ≤ sizeLine; decide), fun y hy => ⟨_, rfl, _, _, rfl, rfl, y, six.map V.str, _, _, rfl, rfl, SL upd_same, hat, _, rfl, _, rfl, (by show 3 ≤ sizeLine; decide), fun t ht => ?_⟩⟩
      have s6 : Same H6 (upd (upd H6 y (.lst (six.map V.str))) t (.tup [.str six[j], v1, v2])) := (same_upd hy).trans (same_upd ht)
      refine q _ (.op six[j] t1 t2) _ (mwB.trans (Mw.of (Mv.same mwB.deck s6) mwB.left la lc)) (.op (List.getElem_mem j6) (.inl (.inl upd_same)) (ht1''.same s6) (ht2.same s6)) ?_ ⟨ho1, ho2⟩
      show max t1.dep t2.dep + 1 ≤ d + 1
      omega
end
end K1
set_option Elab.async false
set_option linter.all false
set_option maxRecDepth 100000
set_option maxHeartbeats 4000000
namespace K1
open PySem PySem.Spec PyProof.Rows L2 KG
/-! ### texts twice -/
theorem op_mul_txt {X : Cx} : OpR X (binaryOp .Mult) (fun x y H Q => ∃ z, x = .str z ∧ y = .int 2 ∧ z.length ≤ 16 ∧ Q (.str (Txt.mul z 2)) H) := by
  intro pins s σ H x y v u Q I rx ry h
  obtain ⟨z, rfl, rfl, hz, q⟩ := h
  obtain ⟨t, rfl⟩ := rx
  obtain ⟨t', rfl⟩ := ry
  exact SB.mul (mulOk_of 16 1048576 (by omega) (by decide) (by decide) (by decide) (by decide)) fun t' k => ⟨.str _, H, I.tok k, ⟨_, rfl⟩, q⟩
theorem mul_two (z : Str) : Txt.mul z 2 = mkS (z.cps.toList ++ z.cps.toList) := by
  unfold Txt.mul
  rw [if_neg (by decide)]
  by_cases h : z.length = 0
  · rw [if_pos (by simp [h])]
    have e : z.cps = #[] := Array.eq_empty_of_size_eq_zero h
    obtain ⟨c⟩ := z
    dsimp only at e
    subst e
    rfl
  · rw [if_neg (by simp [h])]
    unfold mkS
    congr 1
    apply Array.toList_inj.mp
    simp [List.replicate]
/-! ### things -/
/-- a text of few plain signs -/
structure Tx (x : Str) : Prop where
  len : x.length ≤ 1000
  low : ∀ c ∈ x.cps.toList, c < 1114112
theorem Tx.text {x : Str} (h : Tx x) : (reprText x).length ≤ 10002 := by
  have z := StrLaws.reprText_len x fun c hc => Nat.lt_trans (h.low c hc) (by decide)
  have := h.len
  omega
section
variable {K : PySem.W.Frag} {H : Hp}
theorem th_str {x : Str} (h : Tx x) : Th K H (.str x) := by
  have z := h.text
  refine ⟨.str x (Nat.le_trans h.len (by decide)) h.low, .str x, .inl ⟨.str x, rfl⟩, rfl, ?_, by rw [PyData.depth]; decide⟩
  rw [PyData.shown]
  omega
theorem th_bl (b : Bool) : Th K H (.bl b) := by
  refine ⟨.bl b, .bool b, .inl ⟨.bl b, rfl⟩, rfl, ?_, by rw [PyData.depth]; decide⟩
  cases b <;> decide +kernel
def fit (i : Int) : Bool := (PyData.int i).showable && decide ((PyData.int i).shown.length ≤ 5000)
theorem th_int {i : Int} (h : fit i = true) : Th K H (.int i) := by
  obtain ⟨h1, h2⟩ := Bool.and_eq_true_iff.mp h
  have := of_decide_eq_true h2
  exact ⟨.int i, .int i, .inl ⟨.int i, rfl⟩, h1, by omega, by rw [PyData.depth]; decide⟩
theorem lt1 (t : Str) : (listText [t]).length = t.length + 2 := by
  show (textFrom 0 "[" [t] ++ ("]" : Str)).length = _
  have e1 : textFrom 0 "[" [t] = textFrom 1 (("[" : Str) ++ t) [] := rfl
  have e2 : textFrom 1 (("[" : Str) ++ t) [] = ("[" : Str) ++ t := rfl
  rw [e1, e2, strLen_append, strLen_append]
  have e3 : (("[" : Str)).length = 1 := by decide +kernel
  have e4 : (("]" : Str)).length = 1 := by decide +kernel
  rw [e3, e4]
  omega
theorem tt1 (t : Str) : (tupleText [t]).length = t.length + 3 := by
  have e : tupleText [t] = ("(" : Str) ++ t ++ (",)" : Str) := rfl
  rw [e, strLen_append, strLen_append]
  have e3 : (("(" : Str)).length = 1 := by decide +kernel
  have e4 : ((",)" : Str)).length = 2 := by decide +kernel
  rw [e3, e4]
  omega
theorem th_tup1 {p : Addr} {v : V} {d : PyData} (h : SqT K H p [v]) (hd : Dp K H v d) (h1 : d.showable = true) (h2 : d.shown.length ≤ 50000) (h3 : d.depth = 0) (h4 : d.hasDict = false) : Th K H (.ref p) := by
  refine ⟨.tup h, .tuple [d], .inl ⟨.tup h (.cons hd .nil), ?_⟩, ?_, ?_, ?_⟩
  · rw [PyData.hasDict, PyData.hasDictAll, h4]
    rfl
  · rw [PyData.showable, PyData.showableAll, h1]
    rfl
  · rw [PyData.shown, PyData.shownAll, PyData.shownAll, tt1]
    omega
  · rw [PyData.depth, PyData.depthAll, h3]
    decide
theorem th_lst1 {p : Addr} {v : V} {d : PyData} (h : SqL K H p [v]) (hd : Dp K H v d) (h1 : d.showable = true) (h2 : d.shown.length ≤ 50000) (h3 : d.depth = 0) (h4 : d.hasDict = false) : Th K H (.ref p) := by
  refine ⟨.lst h, .list [d], .inl ⟨.lst h (.cons hd .nil), ?_⟩, ?_, ?_, ?_⟩
  · rw [PyData.hasDict, PyData.hasDictAll, h4]
    rfl
  · rw [PyData.showable, PyData.showableAll, h1]
    rfl
  · rw [PyData.shown, PyData.shownAll, PyData.shownAll, lt1]
    omega
  · rw [PyData.depth, PyData.depthAll, h3]
    decide
end
/-! ### what the names and words give -/
/-- a name as they are drawn: low signs, one to nine -/
structure Nm (x : Str) : Prop where
  one : 1 ≤ x.length
  nine : x.length ≤ 9
  low : ∀ c ∈ x.cps.toList, low c = true
theorem low_lt {c : Nat} (h : low c = true) : c < 128 := by
  unfold low at h
  have := (Bool.and_eq_true_iff.mp h).2
  have := of_decide_eq_true this
  omega
theorem tx_mk {l : List Nat} (h1 : l.length ≤ 1000) (h2 : ∀ c ∈ l, c < 128) : Tx (mkS l) := ⟨by rw [mkS_len]; exact h1, fun c hc => by rw [mkS_codes] at hc; exact Nat.lt_trans (h2 c hc) (by decide)⟩
theorem len_codes (x : Str) : x.cps.toList.length = x.length := by
  rw [Array.length_toList]
  rfl
section
variable {x : Str} (h : Nm x)
include h
theorem Nm.codes : ∀ c ∈ x.cps.toList, c < 128 := fun c hc => low_lt (h.low c hc)
theorem Nm.tx : Tx x := ⟨Nat.le_trans h.nine (by decide), fun c hc => Nat.lt_trans (h.codes c hc) (by decide)⟩
theorem Nm.add {y : Str} (h1 : y.length ≤ 100) (h2 : ∀ c ∈ y.cps.toList, c < 128) : Tx (x ++ y) := by
  rw [str_eta x, str_eta y, app_mk]
  refine tx_mk ?_ fun c hc => ?_
  · rw [List.length_append, len_codes, len_codes]
    have := h.nine
    omega
  · rcases List.mem_append.mp hc with z | z
    · exact h.codes c z
    · exact h2 c z
theorem Nm.add' {y : Str} (h1 : y.length ≤ 100) (h2 : ∀ c ∈ y.cps.toList, c < 128) : Tx (y ++ x) := by
  rw [str_eta x, str_eta y, app_mk]
  refine tx_mk ?_ fun c hc => ?_
  · rw [List.length_append, len_codes, len_codes]
    have := h.nine
    omega
  · rcases List.mem_append.mp hc with z | z
    · exact h2 c z
    · exact h.codes c z
theorem Nm.cutc (lo hi : Option Int) : ∀ c ∈ (cutS x lo hi).cps.toList, c < 128 := fun c hc => by
  unfold cutS at hc
  simp only [] at hc
  exact h.codes c (List.mem_of_mem_drop (List.mem_of_mem_take hc))
theorem Nm.cut (lo hi : Option Int) : Tx (cutS x lo hi) := by
  refine ⟨Nat.le_trans (cutS_length x lo hi) (Nat.le_trans h.nine (by decide)), fun c hc => Nat.lt_trans (h.cutc lo hi c hc) (by decide)⟩
theorem Nm.up : Tx (Txt.upper x) := by
  rw [upper_ascii h.codes]
  have e : (⟨x.cps.map up1⟩ : Str) = mkS (x.cps.toList.map up1) := by
    unfold mkS
    congr 1
    apply Array.toList_inj.mp
    simp
  rw [e]
  refine tx_mk ?_ fun c hc => ?_
  · rw [List.length_map, len_codes]
    exact Nat.le_trans h.nine (by decide)
  · obtain ⟨d, hd, rfl⟩ := List.mem_map.mp hc
    have := h.codes d hd
    unfold up1
    split <;> omega
theorem Nm.twice : Tx (Txt.mul x 2) := by
  rw [mul_two]
  refine tx_mk ?_ fun c hc => ?_
  · rw [List.length_append, len_codes]
    have := h.nine
    omega
  · rcases List.mem_append.mp hc with z | z <;> exact h.codes c z
end
theorem six_nm : ∀ x ∈ six, Nm x := fun x hx => by
  have h : ∀ x ∈ six, 1 ≤ x.length ∧ x.length ≤ 9 ∧ ∀ c ∈ x.cps.toList, low c = true := by decide +kernel
  exact ⟨(h x hx).1, (h x hx).2.1, (h x hx).2.2⟩
theorem Good.nm {ns : List Str} (h : Good ns) : ∀ x ∈ ns, Nm x := fun x hx => ⟨(h.all x hx).1, (h.all x hx).2.1, (h.all x hx).2.2⟩
def ten : List Int := [0, 3, 4, 65535, 65536, 1, 2, 255, 10 ^ 39, 32768]
/-- all that a drawn number gives -/
theorem ten_ok : ∀ k ∈ ten, fit k = true ∧ fit (k + 1) = true ∧ fit (k - 1) = true ∧ fit (0 - k) = true ∧ k.natAbs.log2 < 1920 ∧ ((toString k : String) : Str).length ≤ 100 ∧ ∀ c ∈ ((toString k : String) : Str).cps.toList, c < 128 := by decide +kernel
def odds : List Nat := [97, 122, 48, 32, 95, 46, 45, 10, 123, 96, 65, 90]
theorem odds_str : (("az0 _.-\n{`AZ" : Str)) = mkS odds := by decide +kernel
section
variable {P : Program} {w : World} {K : PySem.W.Frag} {mg : Str → Option Value} {base : Heap}
abbrev sThg : Stmt := topS 32
abbrev nThg : List Str := ["_law_deck_here", "_law_name", "_law_word", "_law_at", "_law_sign", "_law_some", "_law_number"]
theorem scThg : FnScope nThg ["_law_deck_here"] (defScope sThg) := ⟨rfl, rfl, rfl, by decide +kernel, rfl, by decide +kernel, by decide +kernel⟩
def spThg (K : PySem.W.Frag) : Sp := fun vs H Q _ => ∃ (a c : Addr), vs = [.ref a] ∧ Deck H a c ∧ ∀ p xs H', Mv a c H H' → H p = none → H' p = some (.lst xs) → xs.length ≤ 100 → (∀ v ∈ xs, Th K H' v) → Q (.ref p) H'
theorem ok_thg {f pW fD fP fU : Addr} {fd fdD fdP fdU : FuncData} (F : Fun K "_law_things" "_law_things" sThg f fd) (G : Glob K mg pW) (DD : Def K mg "_law_draw" sDraw ["_law_deck_here", "_law_ways"] fD fdD) (DP : Def K mg "_law_pick" sPick ["_law_deck_here", "_law_some"] fP fdP) (DU : Def K mg "_law_unlike" sUnl ["_law_deck_here", "_law_count"] fU fdU) :
    FnOk P w K mg base CX0 3 f fd ["_law_deck_here"] (spThg K) := by
  have GD : FnOk P w K mg base CX0 (0 + 1) fD fdD ["_law_deck_here", "_law_ways"] spDraw := ok_draw DD.fn
  have GP : FnOk P w K mg base CX0 (0 + 2) fP fdP ["_law_deck_here", "_law_some"] (spPick K) := ok_pick DP.fn G.len DD.fn DD.at_ DD.b
  have GU : FnOk P w K mg base CX0 (0 + 2) fU fdU ["_law_deck_here", "_law_count"] spUnl := ok_unl DU.fn G DD
  refine F.ok scThg (fun vs H Q E h => ?_) (fun cdv A outer s H vs Q E hr h => ?_)
  · obtain ⟨a, c, rfl, _⟩ := h
    rfl
  · obtain ⟨a, c, rfl, dk, q⟩ := h
    have h1 : Room (0 + 1) _ := hr.mono (by omega)
    have h2 : Room (0 + 2) _ := hr.mono (by omega)
    have SL : ∀ {H : Hp} {p : Addr} {xs : List V}, H p = some (.lst xs) → SqL K H p xs := fun h => .inl (.inl h)
    refine ⟨_, pss_cons (ps_set (i := 1) scThg.nd rfl (.inl rfl) (pe_call GP h2 (by rfl) DP.at_ DP.fn.kp DP.b .nil pass0 (pa_cons (pv 0) (pa_cons (pe_call GU h2 (by rfl) DU.at_ DU.fn.kp DU.b .nil pass0 (pa_cons (pv 0) (pa_cons pe_int pa_nil))) pa_nil))))
      (pss_cons (ps_set (i := 2) scThg.nd rfl (.inl rfl) (pe_call GP h2 (by rfl) DP.at_ DP.fn.kp DP.b .nil pass0 (pa_cons (pv 0) (pa_cons (pe_lst (pa_cons pe_str (pa_cons pe_str (pa_cons pe_str (pa_cons pe_str (pa_cons pe_str (pa_cons pe_str pa_nil))))))) pa_nil))))
      (pss_cons (ps_par (i := 3) (j := 4) (by rfl) scThg.nd rfl rfl (by decide) rfl rfl (pa_cons (pe_call GD h1 (by rfl) DD.at_ DD.fn.kp DD.b .nil pass0 (pa_cons (pv 0) (pa_cons (pe_op op_add (pe_callB call_len_str (by rfl) G.len PySem.boot_len (pa_cons (pv 1) pa_nil)) pe_int) pa_nil)))
        (pa_cons (pe_call GP h2 (by rfl) DP.at_ DP.fn.kp DP.b .nil pass0 (pa_cons (pv 0) (pa_cons (pe_callTy (call_list_txt rfl) (by rfl) G.list (by decide +kernel) (pa_cons pe_str pa_nil)) pa_nil))) pa_nil)) (by rfl))
      (pss_cons (ps_set (i := 5) scThg.nd rfl (.inl rfl) (pe_lst (pa_cons (pv 1) (pa_cons (pe_op op_add_str (pv 1) pe_str) (pa_cons (pe_slice sl_str (pv 1) po_none (po_some (pe_un un_neg pe_int))) (pa_cons (pe_upper (pv 1)) (pa_cons (pe_op op_add_str (pe_op op_add_str (pe_slice sl_str (pv 1) po_none (po_some (pv 3))) (pv 4)) (pe_slice sl_str (pv 1) (po_some (pv 3)) po_none))
        (pa_cons (pe_tup (pa_cons (pv 1) pa_nil)) (pa_cons (pe_lst (pa_cons (pv 1) pa_nil)) (pa_cons (pe_op op_mul_txt (pv 1) pe_int) pa_nil))))))))))
      (pss_cons (ps_set (i := 5) scThg.nd rfl (.inl rfl) (pe_op op_cat (pv 5) (pe_lst (pa_cons (pv 2) (pa_cons (pe_op op_add_str (pv 2) pe_str) (pa_cons (pe_slice sl_str (pv 2) po_none (po_some (pe_un un_neg pe_int))) (pa_cons (pe_op op_add_str pe_str (pv 2)) (pa_cons (pe_upper (pv 2)) (pa_cons (pe_op op_mul_txt (pv 2) pe_int) (pa_cons (pe_tup (pa_cons (pv 2) pa_nil)) pa_nil))))))))))
      (pss_cons (ps_set (i := 6) scThg.nd rfl (.inl rfl) (pe_call GP h2 (by rfl) DP.at_ DP.fn.kp DP.b .nil pass0 (pa_cons (pv 0) (pa_cons (pe_lst (pa_cons pe_int (pa_cons pe_int (pa_cons pe_int (pa_cons pe_int (pa_cons pe_int (pa_cons pe_int (pa_cons pe_int (pa_cons pe_int (pa_cons (pe_op op_pow pe_int pe_int) (pa_cons pe_int pa_nil))))))))))) pa_nil))))
      (pss_one (ps_ret (pe_op op_cat (pv 5) (pe_lst (pa_cons (pv 6) (pa_cons (pe_op op_add (pv 6) pe_int) (pa_cons (pe_op op_sub (pv 6) pe_int) (pa_cons (pe_op op_sub pe_int (pv 6)) (pa_cons (pe_callTy call_str_int (by rfl) G.str (by decide +kernel) (pa_cons (pv 6) pa_nil)) (pa_cons (pe_cmpR op_gt (pv 6) pe_int (nomark _)) (pa_cons (pe_tup (pa_cons (pv 6) pa_nil)) pa_nil)))))))))))))))), ?_⟩
    -- name
    refine ⟨.ref a, rfl, .ref a, rfl, a, c, 8, rfl, dk, by decide, by decide, fun p0 ns H1 m1 hp0 e0 g0 l0 => ⟨a, c, p0, ns.map V.str, rfl, m1.deck, SL e0, dk.neA hp0, dk.neC hp0, by simpa using g0.ne, by simp; omega, fun x H2 hx m2 => ?_⟩⟩
    obtain ⟨nmx, hn, rfl⟩ := List.mem_map.mp hx
    have N1 : Nm nmx := g0.nm _ hn
    have m12 := m1.trans m2
    -- word
    refine ⟨.ref a, rfl, (by show 6 ≤ sizeLine; decide), fun y hy => ⟨a, c, y, six.map V.str, rfl, m12.deck.same (same_upd hy), SL upd_same, m12.deck.neA hy, m12.deck.neC hy, by decide, by decide, fun x H3 hx m3 => ?_⟩⟩
    obtain ⟨wd, hw, rfl⟩ := List.mem_map.mp hx
    have N2 : Nm wd := six_nm _ hw
    have m13 : Mv a c H H3 := m12.trans ((Mv.same m12.deck (same_upd hy)).trans m3)
    have n1 := N1.nine
    have n2 := N2.nine
    have S16 : sizeLine = 16777216 := sizeLine_eq
    -- at, sign
    refine ⟨.ref a, rfl, _, rfl, nmx, rfl, by omega, _, _, rfl, rfl, a, c, _, rfl, m13.deck, by omega, by omega, fun at_ H4 at0 at1 m4 => ?_⟩
    have m14 := m13.trans m4
    have lo : odds.length = 12 := by decide
    refine ⟨.ref a, rfl, _, rfl, by rw [odds_str, mkS_len]; omega, fun l hl => ⟨a, c, l, _, rfl, m14.deck.same (same_upd hl), SL upd_same, m14.deck.neA hl, m14.deck.neC hl, ?_, ?_, fun x H5 hx m5 => ⟨_, _, rfl, ?_⟩⟩⟩
    · rw [odds_str, mkS_codes]
      decide
    · rw [odds_str, mkS_codes, List.length_map]
      decide
    rw [odds_str, mkS_codes] at hx
    obtain ⟨cc, hcc, rfl⟩ := List.mem_map.mp hx
    have hc128 : cc < 128 := by
      have z : ∀ c ∈ odds, c < 128 := by decide
      exact z cc hcc
    have m15 : Mv a c H H5 := m14.trans ((Mv.same m14.deck (same_upd hl)).trans m5)
    -- the eight of the name
    have la : (("a" : Str)).length = 1 := by decide +kernel
    have ca : ∀ c ∈ (("a" : Str)).cps.toList, c < 128 := by decide +kernel
    have c1 : ∀ lo hi, (cutS nmx lo hi).length ≤ 9 := fun lo hi => Nat.le_trans (cutS_length nmx lo hi) n1
    have l1 : (⟨#[cc]⟩ : Str).length = 1 := rfl
    refine ⟨_, rfl, _, rfl, _, _, rfl, rfl, by omega, _, rfl, _, rfl, _, rfl, _, rfl, by omega, _, rfl, ⟨_, rfl⟩, nmx, rfl, rfl, by omega, _, rfl, _, rfl, _, rfl, _, rfl, by omega, _, rfl, _, _, rfl, rfl, ?_, _, rfl, _, rfl, _, rfl, _, rfl, by omega, _, _, rfl, rfl, ?_, _, rfl, (by show 1 ≤ sizeLine; decide), fun t1 ht1 => ?_⟩
    · have := c1 none (some at_)
      omega
    · have := c1 none (some at_)
      have := c1 (some at_) none
      rw [strLen_append]
      omega
    have T5 : Tx (cutS nmx none (some at_) ++ ⟨#[cc]⟩ ++ cutS nmx (some at_) none) := by
      rw [str_eta (cutS nmx none (some at_)), str_eta (cutS nmx (some at_) none), show (⟨#[cc]⟩ : Str) = mkS [cc] from rfl, app_mk, app_mk]
      refine tx_mk ?_ fun d hd => ?_
      · have := c1 none (some at_)
        have := c1 (some at_) none
        rw [List.length_append, List.length_append, len_codes, len_codes]
        simp only [List.length_cons, List.length_nil]
        omega
      · rcases List.mem_append.mp hd with z | z
        · rcases List.mem_append.mp z with z | z
          · exact N1.cutc _ _ d z
          · rw [List.mem_singleton.mp z]
            exact hc128
        · exact N1.cutc _ _ d z
    refine ⟨_, rfl, (by show 1 ≤ sizeLine; decide), fun t2 ht2 => ⟨_, rfl, nmx, rfl, rfl, by omega, (by show 8 ≤ sizeLine; decide), fun s1 hs1 => ?_⟩⟩
    -- what stands then
    obtain ⟨L8, eL8⟩ : ∃ L8 : List V, L8 = [.str nmx, .str (nmx ++ "a"), .str (cutS nmx none (some (-1))), .str (Txt.upper nmx), .str (cutS nmx none (some at_) ++ ⟨#[cc]⟩ ++ cutS nmx (some at_) none), .ref t1, .ref t2, .str (Txt.mul nmx 2)] := ⟨_, rfl⟩
    have sm6 : Same H5 (upd (upd (upd H5 t1 (.tup [.str nmx])) t2 (.lst [.str nmx])) s1 (.lst L8)) := (same_upd ht1).trans ((same_upd ht2).trans (same_upd (by rw [eL8] at *; exact hs1)))
    have k1 : upd (upd (upd H5 t1 (.tup [.str nmx])) t2 (.lst [.str nmx])) s1 (.lst L8) t1 = some (.tup [.str nmx]) := ((same_upd ht2).trans (same_upd (o := .lst L8) hs1)) _ _ upd_same
    have k2 : upd (upd (upd H5 t1 (.tup [.str nmx])) t2 (.lst [.str nmx])) s1 (.lst L8) t2 = some (.lst [.str nmx]) := (same_upd (o := .lst L8) hs1) _ _ upd_same
    have k3 : upd (upd (upd H5 t1 (.tup [.str nmx])) t2 (.lst [.str nmx])) s1 (.lst L8) s1 = some (.lst L8) := upd_same
    have nt1 : t1 ≠ a ∧ t1 ≠ c := ⟨m15.deck.neA ht1, m15.deck.neC ht1⟩
    have nt2 : t2 ≠ a ∧ t2 ≠ c := ⟨m15.deck.neA ((same_upd ht1).free ht2), m15.deck.neC ((same_upd ht1).free ht2)⟩
    have ns1 : s1 ≠ a ∧ s1 ≠ c := ⟨m15.deck.neA (((same_upd ht1).trans (same_upd ht2)).free hs1), m15.deck.neC (((same_upd ht1).trans (same_upd ht2)).free hs1)⟩
    revert sm6 k1 k2 k3
    rw [← eL8]
    show _ → _ → _ → _ → tSeq _ _ _ _ (upd (upd (upd H5 t1 (.tup [.str nmx])) t2 (.lst [.str nmx])) s1 (.lst L8))
    generalize upd (upd (upd H5 t1 (.tup [.str nmx])) t2 (.lst [.str nmx])) s1 (.lst L8) = H6
    intro sm6 k1 k2 k3
    have m16 : Mv a c H H6 := m15.trans (Mv.same m15.deck sm6)
    have th8 : ∀ H', H' t1 = some (.tup [.str nmx]) → H' t2 = some (.lst [.str nmx]) → ∀ v ∈ L8, Th K H' v := fun H' e1 e2 v hv => by
      have z := N1.tx.text
      have hD : (PyData.str nmx).shown.length ≤ 50000 := by
        rw [PyData.shown]
        omega
      rw [eL8] at hv
      simp only [List.mem_cons, List.not_mem_nil, or_false] at hv
      rcases hv with rfl | rfl | rfl | rfl | rfl | rfl | rfl | rfl
      · exact th_str N1.tx
      · exact th_str (N1.add (by omega) ca)
      · exact th_str (N1.cut _ _)
      · exact th_str N1.up
      · exact th_str T5
      · exact th_tup1 (.inl (.inl e1)) (.str nmx) rfl hD (by rw [PyData.depth]) rfl
      · exact th_lst1 (.inl (.inl e2)) (.str nmx) rfl hD (by rw [PyData.depth]) rfl
      · exact th_str N1.twice
    -- the seven of the word
    have c2 : ∀ lo hi, (cutS wd lo hi).length ≤ 9 := fun lo hi => Nat.le_trans (cutS_length wd lo hi) n2
    refine ⟨_, rfl, _, rfl, _, rfl, _, _, rfl, rfl, by omega, _, rfl, _, rfl, _, rfl, _, rfl, by omega, _, rfl, _, _, rfl, rfl, by omega, _, rfl, ⟨_, rfl⟩, wd, rfl, rfl, by omega, _, rfl, wd, rfl, rfl, by omega, _, rfl, (by show 1 ≤ sizeLine; decide), fun t3 ht3 => ⟨(by show 7 ≤ sizeLine; decide), fun s2 hs2 => ?_⟩⟩
    obtain ⟨L7, eL7⟩ : ∃ L7 : List V, L7 = [.str wd, .str (wd ++ "a"), .str (cutS wd none (some (-1))), .str ("a" ++ wd), .str (Txt.upper wd), .str (Txt.mul wd 2), .ref t3] := ⟨_, rfl⟩
    have sm7 : Same H6 (upd (upd H6 t3 (.tup [.str wd])) s2 (.lst L7)) := (same_upd ht3).trans (same_upd hs2)
    have k4 : upd (upd H6 t3 (.tup [.str wd])) s2 (.lst L7) t3 = some (.tup [.str wd]) := (same_upd (o := .lst L7) hs2) _ _ upd_same
    have k5 : upd (upd H6 t3 (.tup [.str wd])) s2 (.lst L7) s2 = some (.lst L7) := upd_same
    have nt3 : t3 ≠ a ∧ t3 ≠ c := ⟨m16.deck.neA ht3, m16.deck.neC ht3⟩
    revert sm7 k4 k5
    rw [← eL7]
    generalize upd (upd H6 t3 (.tup [.str wd])) s2 (.lst L7) = H7
    intro sm7 k4 k5
    have e8 : L8.length = 8 := by rw [eL8]; rfl
    have e7 : L7.length = 7 := by rw [eL7]; rfl
    have th7 : ∀ H', H' t3 = some (.tup [.str wd]) → ∀ v ∈ L7, Th K H' v := fun H' e1 v hv => by
      have z := N2.tx.text
      have hD : (PyData.str wd).shown.length ≤ 50000 := by
        rw [PyData.shown]
        omega
      rw [eL7] at hv
      simp only [List.mem_cons, List.not_mem_nil, or_false] at hv
      rcases hv with rfl | rfl | rfl | rfl | rfl | rfl | rfl
      · exact th_str N2.tx
      · exact th_str (N2.add (by omega) ca)
      · exact th_str (N2.cut _ _)
      · exact th_str (N2.add' (by omega) ca)
      · exact th_str N2.up
      · exact th_str N2.twice
      · exact th_tup1 (.inl (.inl e1)) (.str wd) rfl hD (by rw [PyData.depth]) rfl
    refine ⟨s1, s2, L8, L7, rfl, rfl, sm7 _ _ k3, k5, by omega, fun s3 hs3 => ?_⟩
    have sm8 : Same H7 (upd H7 s3 (.lst (L8 ++ L7))) := same_upd hs3
    have k6 : upd H7 s3 (.lst (L8 ++ L7)) s3 = some (.lst (L8 ++ L7)) := upd_same
    have m17 : Mv a c H H7 := m16.trans (Mv.same m16.deck sm7)
    have ns3 : s3 ≠ a ∧ s3 ≠ c := ⟨m17.deck.neA hs3, m17.deck.neC hs3⟩
    revert sm8 k6
    show _ → _ → tSeq _ _ _ _ (upd H7 s3 (.lst (L8 ++ L7)))
    generalize upd H7 s3 (.lst (L8 ++ L7)) = H8
    intro sm8 k6
    have m18 : Mv a c H H8 := m17.trans (Mv.same m17.deck sm8)
    -- number
    refine ⟨.ref a, rfl, _, _, rfl, rfl, ⟨by decide, by decide, by decide⟩, (by show 10 ≤ sizeLine; decide), fun y hy => ⟨a, c, y, ten.map V.int, rfl, m18.deck.same (same_upd hy), SL upd_same, m18.deck.neA hy, m18.deck.neC hy, by decide, by decide, fun x H9 hx m9 => ?_⟩⟩
    obtain ⟨kk, hk, rfl⟩ := List.mem_map.mp hx
    obtain ⟨f0, f1, f2, f3, f4, f5, f6⟩ := ten_ok kk hk
    have m89 : Mv a c H8 H9 := (Mv.same m18.deck (same_upd hy)).trans m9
    have m19 := m18.trans m89
    have q1 := m89.keep _ _ (sm8 _ _ (sm7 _ _ k1)) nt1.1 nt1.2
    have q2 := m89.keep _ _ (sm8 _ _ (sm7 _ _ k2)) nt2.1 nt2.2
    have q3 := m89.keep _ _ (sm8 _ _ k4) nt3.1 nt3.2
    have q4 := m89.keep _ _ k6 ns3.1 ns3.2
    refine ⟨_, rfl, _, rfl, _, rfl, _, _, rfl, rfl, _, rfl, _, _, rfl, rfl, _, rfl, _, _, rfl, rfl, _, rfl, kk, rfl, f4, _, rfl, _, _, rfl, rfl, _, rfl, (by show 1 ≤ sizeLine; decide), fun t4 ht4 => ⟨(by show 7 ≤ sizeLine; decide), fun s4 hs4 => ?_⟩⟩
    obtain ⟨L6, eL6⟩ : ∃ L6 : List V, L6 = [.int kk, .int (kk + 1), .int (kk - 1), .int (0 - kk), .str ((toString kk : String) : Str), .bl (decide (0 < kk)), .ref t4] := ⟨_, rfl⟩
    have sm9 : Same H9 (upd (upd H9 t4 (.tup [.int kk])) s4 (.lst L6)) := (same_upd ht4).trans (same_upd hs4)
    have k7 : upd (upd H9 t4 (.tup [.int kk])) s4 (.lst L6) t4 = some (.tup [.int kk]) := (same_upd (o := .lst L6) hs4) _ _ upd_same
    have k8 : upd (upd H9 t4 (.tup [.int kk])) s4 (.lst L6) s4 = some (.lst L6) := upd_same
    revert sm9 k7 k8
    rw [← eL6]
    generalize upd (upd H9 t4 (.tup [.int kk])) s4 (.lst L6) = HA
    intro sm9 k7 k8
    have e6 : L6.length = 7 := by rw [eL6]; rfl
    refine ⟨s3, s4, L8 ++ L7, L6, rfl, rfl, sm9 _ _ q4, k8, by rw [List.length_append]; omega, fun s5 hs5 => ?_⟩
    have sA : Same HA (upd HA s5 (.lst (L8 ++ L7 ++ L6))) := same_upd hs5
    refine q s5 _ _ (m19.trans (Mv.same m19.deck (sm9.trans sA))) (m19.free (sm9.free hs5)) upd_same (by rw [List.length_append, List.length_append]; omega) fun v hv => ?_
    rcases List.mem_append.mp hv with hv | hv
    · rcases List.mem_append.mp hv with hv | hv
      · exact th8 _ (sA _ _ (sm9 _ _ q1)) (sA _ _ (sm9 _ _ q2)) v hv
      · exact th7 _ (sA _ _ (sm9 _ _ q3)) v hv
    · have hD : (PyData.int kk).showable = true ∧ (PyData.int kk).shown.length ≤ 50000 := by
        obtain ⟨z1, z2⟩ := Bool.and_eq_true_iff.mp f0
        have := of_decide_eq_true z2
        exact ⟨z1, by omega⟩
      rw [eL6] at hv
      simp only [List.mem_cons, List.not_mem_nil, or_false] at hv
      rcases hv with rfl | rfl | rfl | rfl | rfl | rfl | rfl
      · exact th_int f0
      · exact th_int f1
      · exact th_int f2
      · exact th_int f3
      · exact th_str ⟨by omega, fun c hc => Nat.lt_trans (f6 c hc) (by decide)⟩
      · exact th_bl _
      · exact th_tup1 (.inl (.inl (sA _ _ k7))) (.int kk) hD.1 hD.2 (by rw [PyData.depth]) rfl
end
end K1
set_option Elab.async false
set_option linter.all false
set_option maxRecDepth 100000
set_option maxHeartbeats 4000000
namespace K1
open PySem PySem.Spec PyProof.Rows L2 KG KL LamX NdefX
/-! ### lengths of texts -/
theorem lt_len (ts : List Str) : (listText ts).length ≤ piled ts + 2 := by
  cases ts with
  | nil => decide +kernel
  | cons t r =>
    show (textFrom 0 "[" (t :: r) ++ ("]" : Str)).length ≤ _
    have e1 : textFrom 0 "[" (t :: r) = textFrom 1 (("[" : Str) ++ ("" : Str) ++ t) r := rfl
    have e3 : (("[" : Str)).length = 1 := by decide +kernel
    have e4 : (("]" : Str)).length = 1 := by decide +kernel
    have e5 : (("" : Str)).length = 0 := by decide +kernel
    rw [e1, strLen_append, textFrom_length_pos r 1 _ (by decide), strLen_append, strLen_append, e3, e4, e5, piled_cons]
    omega
theorem tt_len (ts : List Str) : (tupleText ts).length ≤ piled ts + 3 := by
  have e3 : (((if ts.length == 1 then ",)" else ")" : String) : Str)).length ≤ 2 := by split <;> decide +kernel
  have e1 : ((("(" : String) : Str)).length = 1 := by decide +kernel
  unfold tupleText
  rw [strLen_append, strLen_append, e1]
  by_cases h : ts = []
  · subst h
    have : (Str.join ", " []).length = 0 := by decide +kernel
    omega
  · have := join_length_add ts h
    omega
theorem int_len {k : Int} (h : Rng k) : (Str.ofString (toString k)).length ≤ 6 := by
  have h1 : k.natAbs < 10 ^ 5 := by
    have := h.1
    have := h.2
    omega
  have e := int_text_length_le10 (k := 5) (by decide) h1
  rw [PySem.ofString_length]
  omega
theorem rng_show {k : Int} (h : Rng k) : (PyData.int k).showable = true := by
  have h1 : k.natAbs < 65536 := by
    have := h.1
    have := h.2
    omega
  rw [PyData.showable]
  refine decide_eq_true ?_
  by_cases h0 : k.natAbs = 0
  · rw [h0]
    decide
  · exact Nat.lt_trans ((Nat.log2_lt h0).mpr (Nat.lt_of_lt_of_le h1 (by decide : 65536 ≤ 2 ^ 16))) (by decide)
/-! ### the data of a term -/
def Tm.data : Tm → PyData
  | .num k => .tuple [.str "num", .int k]
  | .nam x => .tuple [.str "name", .str x]
  | .op w t u => .tuple [.str w, t.data, u.data]
theorem TmAt.dp {K : PySem.W.Frag} {H : Hp} : ∀ {v : V} {t : Tm}, TmAt K H v t → Dp K H v t.data
  | _, _, .num h => .tup h (.cons (.str _) (.cons (.int _) .nil))
  | _, _, .nam h => .tup h (.cons (.str _) (.cons (.str _) .nil))
  | _, _, .op hw h h1 h2 => .tup h (.cons (.str _) (.cons (TmAt.dp h1) (.cons (TmAt.dp h2) .nil)))
/-- its words are the six -/
def Tm.Six : Tm → Prop
  | .num _ => True
  | .nam _ => True
  | .op w t u => w ∈ six ∧ t.Six ∧ u.Six
theorem TmAt.six {K : PySem.W.Frag} {H : Hp} : ∀ {v : V} {t : Tm}, TmAt K H v t → t.Six
  | _, _, .num _ => True.intro
  | _, _, .nam _ => True.intro
  | _, _, .op hw _ h1 h2 => ⟨hw, TmAt.six h1, TmAt.six h2⟩
theorem nm_text {x : Str} (h : Nm x) : (reprText x).length ≤ 92 := by
  have z := StrLaws.reprText_len x fun c hc => Nat.lt_trans (h.codes c hc) (by decide)
  have := h.nine
  omega
theorem six_text : ∀ w ∈ six, (reprText w).length ≤ 10 := by decide +kernel
theorem data_ok {ns : List Str} (hn : ∀ x ∈ ns, Nm x) : ∀ t : Tm, t.Ok ns → t.Six → t.data.showable = true ∧ t.data.hasDict = false ∧ t.data.depth ≤ t.dep ∧ t.data.shown.length + 100 ≤ 300 * 2 ^ t.dep
  | .num k, h, _ => by
    refine ⟨?_, ?_, ?_, ?_⟩
    · simp only [Tm.data, PyData.showable, PyData.showableAll]
      have := rng_show h
      rw [PyData.showable] at this
      rw [this]
      rfl
    · simp only [Tm.data, PyData.hasDict, PyData.hasDictAll]
      rfl
    · simp only [Tm.data, PyData.depth, PyData.depthAll, Tm.dep]
      decide
    · simp only [Tm.data, PyData.shown, PyData.shownAll, Tm.dep]
      have h1 := tt_len [reprText "num", Str.ofString (toString k)]
      have h2 : (reprText "num").length ≤ 10 := by decide +kernel
      have h3 := int_len h
      rw [piled_cons, piled_cons, piled_nil] at h1
      have e : ((toString k : String) : Str) = Str.ofString (toString k) := rfl
      omega
  | .nam x, h, _ => by
    refine ⟨?_, ?_, ?_, ?_⟩
    · simp only [Tm.data, PyData.showable, PyData.showableAll]
      rfl
    · simp only [Tm.data, PyData.hasDict, PyData.hasDictAll]
      rfl
    · simp only [Tm.data, PyData.depth, PyData.depthAll, Tm.dep]
      decide
    · simp only [Tm.data, PyData.shown, PyData.shownAll, Tm.dep]
      have h1 := tt_len [reprText "name", reprText x]
      have h2 : (reprText "name").length ≤ 10 := by decide +kernel
      have h3 := nm_text (hn x h)
      rw [piled_cons, piled_cons, piled_nil] at h1
      omega
  | .op w t u, h, h6 => by
    obtain ⟨a1, a2, a3, a4⟩ := data_ok hn t h.1 h6.2.1
    obtain ⟨b1, b2, b3, b4⟩ := data_ok hn u h.2 h6.2.2
    refine ⟨?_, ?_, ?_, ?_⟩
    · simp only [Tm.data, PyData.showable, PyData.showableAll, a1, b1]
      rfl
    · simp only [Tm.data, PyData.hasDict, PyData.hasDictAll, a2, b2]
      rfl
    · simp only [Tm.data, PyData.depth, PyData.depthAll, Tm.dep]
      omega
    · simp only [Tm.data, PyData.shown, PyData.shownAll, Tm.dep]
      have h1 := tt_len [reprText w, t.data.shown, u.data.shown]
      have h3 : (reprText w).length ≤ 10 := six_text w h6.1
      rw [piled_cons, piled_cons, piled_cons, piled_nil] at h1
      have p1 : 2 ^ t.dep ≤ 2 ^ max t.dep u.dep := Nat.pow_le_pow_right (by decide) (Nat.le_max_left _ _)
      have p2 : 2 ^ u.dep ≤ 2 ^ max t.dep u.dep := Nat.pow_le_pow_right (by decide) (Nat.le_max_right _ _)
      rw [Nat.pow_succ]
      omega
/-! ### what is kept by all that a turn does -/
structure Kp (a c : Addr) (H H' : Hp) : Prop where
  keep : ∀ b o, H b = some o → b ≠ a → b ≠ c → (∀ ps, o ≠ .tbl ps) → H' b = some o
theorem Kp.trans {a c : Addr} {H H1 H2 : Hp} (m : Kp a c H H1) (n : Kp a c H1 H2) : Kp a c H H2 := ⟨fun b o e h1 h2 h3 => n.keep b o (m.keep b o e h1 h2 h3) h1 h2 h3⟩
theorem Kp.mv {a c : Addr} {H H' : Hp} (m : Mv a c H H') : Kp a c H H' := ⟨fun b o e h1 h2 _ => m.keep b o e h1 h2⟩
theorem Kp.same {a c : Addr} {H H' : Hp} (m : Same H H') : Kp a c H H' := ⟨fun b o e _ _ _ => m b o e⟩
theorem Kp.ext {a c : Addr} {H H' : Hp} (m : ExtN H H') : Kp a c H H' := ⟨fun b o e _ _ h => m b o e h⟩
theorem Deck.ext {a c : Addr} {H H' : Hp} (d : Deck H a c) (m : ExtN H H') : Deck H' a c := by
  obtain ⟨⟨ns, sd, n, h1, h2, h3⟩, ne⟩ := d
  exact ⟨⟨ns, sd, n, m _ _ h1 (fun _ z => nomatch z), m _ _ h2 (fun _ z => nomatch z), h3⟩, ne⟩
theorem Kp.lst {a c p : Addr} {H H' : Hp} {xs : List V} (m : Kp a c H H') (h : H p = some (.lst xs)) (h1 : p ≠ a) (h2 : p ≠ c) : H' p = some (.lst xs) := m.keep _ _ h h1 h2 fun _ z => nomatch z
/-- where the deck stands nothing but lists is touched -/
theorem Kp.sqt {K : PySem.W.Frag} {a c p : Addr} {H H' : Hp} {xs : List V} (m : Kp a c H H') (d : Deck H a c) (h : SqT K H p xs) : SqT K H' p xs := by
  obtain ⟨⟨ns, sd, n, e1, e2, _⟩, _⟩ := d
  have no : ∀ {o : HO}, H p = some o → (∀ ys, o ≠ .lst ys) → p ≠ a ∧ p ≠ c := fun {o} e h => by
    refine ⟨fun z => ?_, fun z => ?_⟩
    · rw [z, e1] at e
      exact h _ (Option.some.inj e).symm
    · rw [z, e2] at e
      exact h _ (Option.some.inj e).symm
  rcases h with (h | ⟨o, h⟩) | h
  · obtain ⟨h1, h2⟩ := no h fun ys z => nomatch z
    exact .inl (.inl (m.keep _ _ h h1 h2 fun _ z => nomatch z))
  · obtain ⟨h1, h2⟩ := no h fun ys z => nomatch z
    exact .inl (.inr ⟨o, m.keep _ _ h h1 h2 fun _ z => nomatch z⟩)
  · exact .inr h
theorem TmAt.kp {K : PySem.W.Frag} {a c : Addr} {H H' : Hp} (m : Kp a c H H') (d : Deck H a c) : ∀ {v : V} {t : Tm}, TmAt K H v t → TmAt K H' v t
  | _, _, .num h => .num (m.sqt d h)
  | _, _, .nam h => .nam (m.sqt d h)
  | _, _, .op hw h h1 h2 => .op hw (m.sqt d h) (TmAt.kp m d h1) (TmAt.kp m d h2)
theorem PrsAt.kp {K : PySem.W.Frag} {a c : Addr} {H H' : Hp} (m : Kp a c H H') (d : Deck H a c) : ∀ {qs : List Addr} {prs : List (Str × Int)}, PrsAt K H qs prs → PrsAt K H' qs prs
  | _, _, .nil => .nil
  | _, _, .cons h t => .cons (m.sqt d h) (PrsAt.kp m d t)
/-- a table and its code objects are neither the deck nor a list -/
theorem tabs_mv {T : List (Addr × Str)} {a c : Addr} {H H' : Hp} (d : Deck H a c) (h : ∀ b o, H b = some o → (∀ ys, o ≠ .lst ys) → H' b = some o) (t : Tabs T H) : Tabs T H' := fun p hp => by
  obtain ⟨ps, h1, h2, h3⟩ := t p hp
  refine ⟨ps, h _ _ h1 (fun _ z => nomatch z), h2, fun pos cv hc => ?_⟩
  obtain ⟨cc, e1, e2⟩ := h3 pos cv hc
  refine ⟨cc, e1, h _ _ e2 fun ys z => ?_⟩
  unfold CodeO at z
  cases z
theorem Tabs.mv {T : List (Addr × Str)} {a c : Addr} {H H' : Hp} (t : Tabs T H) (d : Deck H a c) (m : Mv a c H H') : Tabs T H' := by
  refine tabs_mv d (fun b o e h => ?_) t
  obtain ⟨⟨ns, sd, n, e1, e2, _⟩, _⟩ := d
  refine m.keep b o e (fun z => ?_) fun z => ?_
  · rw [z, e1] at e
    exact h _ (Option.some.inj e).symm
  · rw [z, e2] at e
    exact h _ (Option.some.inj e).symm
theorem Tabs.mw {T : List (Addr × Str)} {a c l : Addr} {H H' : Hp} (t : Tabs T H) (d : Deck H a c) (hl : ∃ n : Int, H l = some (.lst [.int n])) (m : Mw a c l H H') : Tabs T H' := by
  refine tabs_mv d (fun b o e h => ?_) t
  obtain ⟨⟨ns, sd, n, e1, e2, _⟩, _⟩ := d
  obtain ⟨n2, e3⟩ := hl
  refine m.keep b o e (fun z => ?_) (fun z => ?_) fun z => ?_
  · rw [z, e1] at e
    exact h _ (Option.some.inj e).symm
  · rw [z, e2] at e
    exact h _ (Option.some.inj e).symm
  · rw [z, e3] at e
    exact h _ (Option.some.inj e).symm
end K1
set_option Elab.async false
set_option linter.all false
set_option maxRecDepth 100000
set_option maxHeartbeats 4000000
namespace K1
open PySem PySem.Spec PyProof.Rows L2 KG KL LamX NdefX
theorem prs_map {K : PySem.W.Frag} {H H' : Hp} (f : ∀ {q : Addr} {xs : List V}, SqT K H q xs → SqT K H' q xs) : ∀ {qs : List Addr} {prs : List (Str × Int)}, PrsAt K H qs prs → PrsAt K H' qs prs
  | _, _, .nil => .nil
  | _, _, .cons h t => .cons (f h) (prs_map f t)
theorem prs_app {K : PySem.W.Frag} {H : Hp} : ∀ {qs qs' : List Addr} {prs prs' : List (Str × Int)}, PrsAt K H qs prs → PrsAt K H qs' prs' → PrsAt K H (qs ++ qs') (prs ++ prs')
  | _, _, _, _, .nil, h => h
  | _, _, _, _, .cons h t, h' => .cons h (prs_app t h')
theorem prs_rev {K : PySem.W.Frag} {H : Hp} : ∀ {qs : List Addr} {prs : List (Str × Int)}, PrsAt K H qs prs → PrsAt K H qs.reverse prs.reverse
  | _, _, .nil => .nil
  | q :: qs, pr :: prs, .cons h t => by
    rw [List.reverse_cons, List.reverse_cons]
    exact prs_app (prs_rev t) (.cons h .nil)
theorem two_ok {x : Int} (h : Rng x) : (PyData.list [.int x, .int x]).showable = true ∧ (PyData.list [.int x, .int x]).hasDict = false ∧ (PyData.list [.int x, .int x]).shown.length ≤ sizeLine ∧ (PyData.list [.int x, .int x]).depth ≤ 50 := by
  refine ⟨?_, ?_, ?_, ?_⟩
  · have := rng_show h
    simp only [PyData.showable, PyData.showableAll] at this ⊢
    rw [this]
    rfl
  · simp only [PyData.hasDict, PyData.hasDictAll]
    rfl
  · simp only [PyData.shown, PyData.shownAll]
    have h1 := lt_len [Str.ofString (toString x), Str.ofString (toString x)]
    have h3 := int_len h
    rw [piled_cons, piled_cons, piled_nil] at h1
    rw [sizeLine_eq]
    omega
  · simp only [PyData.depth, PyData.depthAll]
    decide
section
variable {K : PySem.W.Frag} {H : Hp}
theorem th_non : Th K H .non := ⟨.non, .none, .inl ⟨.non, rfl⟩, rfl, by decide +kernel, by decide +kernel⟩
theorem th_tup0 {p : Addr} (h : SqT K H p []) : Th K H (.ref p) := ⟨.tup h, .tuple [], .inl ⟨.tup h .nil, by decide +kernel⟩, by decide +kernel, by decide +kernel, by decide +kernel⟩
theorem th_lst0 {p : Addr} (h : SqL K H p []) : Th K H (.ref p) := ⟨.lst h, .list [], .inl ⟨.lst h .nil, by decide +kernel⟩, by decide +kernel, by decide +kernel, by decide +kernel⟩
theorem th_dct {p : Addr} (h : H p = some (.dK [])) : Th K H (.ref p) := ⟨.dct h, .dict [], .inr ⟨p, rfl, rfl, h⟩, by decide +kernel, by decide +kernel, by decide +kernel⟩
end
abbrev sLaw : Stmt := topS 33
abbrev nLaw : List Str := ["_law_script", "_law_deck_here", "_law_turn", "_law_names", "_law_great", "_law_lots", "_law_pairs", "_law_own", "_law_due_here", "_law_kept", "_law_told", "_law_odd", "_law_x", "_law_it"]
theorem scLaw : FnScope nLaw ["_law_script"] (defScope sLaw) := ⟨rfl, rfl, rfl, by decide +kernel, rfl, by decide +kernel, by decide +kernel⟩
section
variable {P : Program} {w : World} {K : PySem.W.Frag} {mg : Str → Option Value} {base : Heap}
/-- the defs of the text, where they stand -/
structure Defs (K : PySem.W.Frag) (mg : Str → Option Value) (cI : Addr) : Prop where
  right : RDefs K mg
  deck : ∃ f fd, Def K mg "_law_deck" sDeck ["_law_script"] f fd
  draw : ∃ f fd, Def K mg "_law_draw" sDraw ["_law_deck_here", "_law_ways"] f fd
  pick : ∃ f fd, Def K mg "_law_pick" sPick ["_law_deck_here", "_law_some"] f fd
  unl : ∃ f fd, Def K mg "_law_unlike" sUnl ["_law_deck_here", "_law_count"] f fd
  sum : ∃ f fd, Def K mg "_law_sum_of" sSum ["_law_deck_here", "_law_names", "_law_deep", "_law_left"] f fd
  due : ∃ f fd, Def K mg "_law_due" sDue ["_law_own", "_law_numbers"] f fd
  lright : ∃ f fd, Def K mg "_law_right" sRight ["_law_it"] f fd
  thg : ∃ f fd, Def K mg "_law_things" sThg ["_law_deck_here"] f fd
  by_ : ∃ f fd, Def K mg "worth_by" sBy ["word", "one", "other"] f fd
  at_ : ∃ f fd, Def K mg "worth_at" sAt ["term", "number_of"] f fd
  in_ : ∃ f fd, DefC K mg "worth_in" sIn ["term", "numbers"] f cI fd
  of_ : ∃ f fd, Def K mg "worth_of" sOf ["term", "worths"] f fd ∧ KwOnly K fd ["term", "worths"] ["worths", "term"] (fun {_} l => l.reverse)
def spLaw (K : PySem.W.Frag) (T : List (Addr × Str)) : Sp := fun vs H Q _ => ∃ (b : Addr) (ns : List Int), vs = [.ref b] ∧ SqL K H b (ns.map V.int) ∧ ns.length ≤ 63 ∧ Tabs T H ∧ ∀ H', Q (.bl true) H'
theorem ok_law {f pW cI PT : Addr} {fd : FuncData} (F : Fun K "law" "law" sLaw f fd) (G : Glob K mg pW) (D : Defs K mg cI) (TB : TabB base mg cI PT) : FnG P w K mg base 12 f fd ["_law_script"] (spLaw K [(PT, lamQ)]) := by
  obtain ⟨RD, ⟨f1, fd1, D1⟩, ⟨f2, fd2, D2⟩, ⟨f3, fd3, D3⟩, ⟨f4, fd4, D4⟩, ⟨f5, fd5, D5⟩, ⟨f6, fd6, D6⟩, ⟨f7, fd7, D7⟩, ⟨f8, fd8, D8⟩, ⟨f9, fd9, D9⟩, ⟨fA, fdA, DA⟩, ⟨fB, fdB, DB⟩, ⟨fC, fdC, DC, KC⟩⟩ := D
  have G1 := ok_deck (P := P) (w := w) (base := base) (k := 0) D1.fn G.list
  have G2 := ok_draw (P := P) (w := w) (mg := mg) (base := base) (k := 0) D2.fn
  have G3 := ok_pick (P := P) (w := w) (base := base) (k := 0) D3.fn G.len D2.fn D2.at_ D2.b
  have G4 := ok_unl (P := P) (w := w) (base := base) (k := 0) D4.fn G D2
  have G5 := ok_sum (P := P) (w := w) (base := base) D5 G D2 D3 6
  have G6 := ok_due (P := P) (w := w) (base := base) D6 G 6
  have G7 := ok_right (P := P) (w := w) (base := base) (k := 0) D7.fn G RD
  have G8 := ok_thg (P := P) (w := w) (base := base) D8.fn G D2 D3 D4
  have GC := ok_of (P := P) (w := w) (base := base) DC.fn DB G DA D9 TB
  obtain ⟨fn, fdn, DN, KN⟩ := RD.number
  obtain ⟨fw, fdw, DW⟩ := RD.whole
  obtain ⟨fu, fdu, DU⟩ := RD.upTo
  have GN := ok_number (P := P) (w := w) (base := base) (k := 0) DN.fn G DW DU
  refine okG F scLaw (fun vs H Q E h => ?_) (fun cdv A outer s H vs Q hgd hr h => ?_)
  · obtain ⟨b, ns, rfl, _⟩ := h
    rfl
  · obtain ⟨b, ns, rfl, hb, hl, hT, q⟩ := h
    have r1 : Room (0 + 1) _ := hr.mono (by decide)
    have r2 : Room (0 + 2) _ := hr.mono (by decide)
    have r3 : Room 3 _ := hr.mono (by decide)
    have r3' : Room (0 + 3) _ := hr.mono (by decide)
    have r4 : Room (0 + 4) _ := hr.mono (by decide)
    have r7 : Room (6 + 1) _ := hr.mono (by decide)
    have r9 : Room (6 + 3) _ := hr.mono (by decide)
    have r10 : Room 10 _ := hr.mono (by decide)
    have SL : ∀ {H : Hp} {p : Addr} {xs : List V}, H p = some (.lst xs) → SqL K H p xs := fun h => .inl (.inl h)
    have S16 : sizeLine = 16777216 := sizeLine_eq
    have tail : ∃ t, PSs (cxOf CX0 P w K mg base nLaw "law" (defScope sLaw) f cdv A outer s H E0).nox ((match (defBody sLaw).getD 1 (.Pass ⟨0, 0, 0, 0⟩) with | .For _ _ b _ _ => b | _ => []).drop 3) t ∧
        ∀ (a c p y : Addr) (H' : Hp) (Dn : Ends) (tn : Option V) (z4 y6 y7 y8 y9 y10 : Option V) (ns : List Str) (lots : List Int), Deck H' a c → Tabs [(PT, lamQ)] H' → H' p = some (.lst (ns.map V.str)) → p ≠ a → p ≠ c → Good ns → ns.length ≤ 8 →
          H' y = some (.lst (lots.map V.int)) → y ≠ a → y ≠ c → lots ≠ [] → lots.length < 1000 → (∀ k ∈ lots, Rng k) →
          (∀ H2 z3 z4 z5 z6 z7 z8 z9 z10, Deck H2 a c → Tabs [(PT, lamQ)] H2 → Dn.nx [some (.ref b), some (.ref a), tn, z3, z4, z5, z6, z7, z8, z9, z10, none, none, none] H2) →
          t Dn [some (.ref b), some (.ref a), tn, some (.ref p), z4, some (.ref y), y6, y7, y8, y9, y10, none, none, none] H' := by
      refine ⟨_, pss_cons (ps_setLc (i := 6) (own := [("_law_x", 12)]) (g := gName 12) (tt := tYes) (by rfl) scLaw.nd rfl rfl (sw_true rfl rfl rfl (by decide +kernel)) (pi_list (pv 3)) (blkOk_by (own := [("_law_x", 12)]) (N := nLaw) (sc := defScope sLaw) (by decide +kernel))
          (fun _ _ _ _ _ => pg_name (i := 12) scLaw.nd rfl (Or.inl rfl)) (fun _ _ _ _ _ => pts_nil) (fun _ _ _ _ _ => pe_tup (pa_cons (pv 12) (pa_cons (pe_ifExp (pt_cmpR op_eq (pe_call G2 r1 (by rfl) D2.at_ D2.fn.kp D2.b .nil pass0 (pa_cons (pv 1) (pa_cons pe_int pa_nil))) pe_int (nomark _))
            (pe_call G3 r2 (by rfl) D3.at_ D3.fn.kp D3.b .nil pass0 (pa_cons (pv 1) (pa_cons (pv 5) pa_nil))) (pe_call G2 r1 (by rfl) D2.at_ D2.fn.kp D2.b .nil pass0 (pa_cons (pv 1) (pa_cons pe_int pa_nil)))) pa_nil))))
        (pss_cons (ps_set (i := 7) scLaw.nd rfl (.inl rfl) (pe_call G5 r9 (by rfl) D5.at_ D5.fn.kp D5.b .nil pass0 (pa_cons (pv 1) (pa_cons (pv 3) (pa_cons pe_int (pa_cons (pe_lst (pa_cons pe_int pa_nil)) pa_nil))))))
        (pss_cons (ps_par (i := 8) (j := 9) (by rfl) scLaw.nd rfl rfl (by decide) rfl rfl (pa_cons (pe_call G6 r7 (by rfl) D6.at_ D6.fn.kp D6.b .nil pass0 (pa_cons (pv 7) (pa_cons (pe_callTy (call_dictP rfl) (by rfl) G.dict (by decide +kernel) (pa_cons (pv 6) pa_nil)) pa_nil)))
          (pa_cons (pe_callB (call_reprD hgd hr) (by rfl) G.repr (by decide +kernel) (pa_cons (pv 7) pa_nil)) pa_nil)) (by rfl))
        (pss_cons (ps_set (i := 10) scLaw.nd rfl (.inl rfl) (pe_lst (pa_cons (pe_call GC r10 (by rfl) DC.at_ DC.fn.kp DC.b .nil pass0 (pa_cons (pv 7) (pa_cons (pe_callTy call_tuple_of (by rfl) G.tuple (by decide +kernel) (pa_cons (pv 6) pa_nil)) pa_nil)))
          (pa_cons (pe_kwG (FnG.of GC) hgd r10 (by rfl) DC.at_ DC.fn.kp KC (pk_cons (pe_callTy call_tuple_of (by rfl) G.tuple (by decide +kernel) (pa_cons (pe_revL (pv 6)) pa_nil)) (pk_cons (pv 7) pk_nil))) pa_nil))))
        (pss_cons (ps_if (PW.pt (pw_or (pt_cmpR op_ne (pe_callB (call_reprD hgd hr) (by rfl) G.repr (by decide +kernel) (pa_cons (pv 10) pa_nil)) (pe_callB (call_reprD hgd hr) (by rfl) G.repr (by decide +kernel) (pa_cons (pe_lst (pa_cons (pv 8) (pa_cons (pv 8) pa_nil))) pa_nil)) (nomark _))
            (pw_or (pt_cmpR op_ne (pe_callB (call_reprD hgd hr) (by rfl) G.repr (by decide +kernel) (pa_cons (pv 7) pa_nil)) (pv 9) (nomark _)) (pw_or1 (pt_not (pt_val (pe_call GN r3' (by rfl) DN.at_ DN.fn.kp DN.b .nil pass0 (pa_cons (pv 8) pa_nil))))))))
          (pss_one (ps_ret pe_bl)) pss_nil)
        (pss_one (ps_if (pt_cmpR (op_neD hr.units) (pe_lc (own := [("_law_it", 13)]) (g := gName 13) (by rfl) scLaw.nd (pi_list (pe_call G8 r3 (by rfl) D8.at_ D8.fn.kp D8.b .nil pass0 (pa_cons (pv 1) pa_nil))) (blkOk_by (own := [("_law_it", 13)]) (N := nLaw) (sc := defScope sLaw) (by decide +kernel))
          (fun _ _ _ _ _ => pg_name (i := 13) scLaw.nd rfl (Or.inl rfl)) (fun _ _ _ _ _ => pts_one (pt_not (pt_val (pe_callG G7 hgd r4 (by rfl) D7.at_ D7.fn.kp D7.b (pa_cons (pv 13) pa_nil))))) (fun _ _ _ _ _ => pv 13)) (pe_lst pa_nil) (nomark _))
          (pss_one (ps_ret pe_bl)) pss_nil)))))), fun a c p y H4 Dn tn z4 y6 y7 y8 y9 y10 ns lots dk tb ep pa pc gd n8 ey ya yc lne llen lrg nx => ?_⟩
      -- pairs
      refine ⟨.ref p, rfl, p, rfl, ⟨_, SL ep⟩, fun Dp hDp => lc_list (K := K) (a := p) (xs := ns.map V.str) (fun i H' => Mv a c H4 H' ∧ ∃ (qs : List Addr) (prs : List (Str × Int)), prs.map (·.1) = ns.take i ∧ (∀ pr ∈ prs, Rng pr.2) ∧ qs.length = i ∧ PrsAt K H' qs prs ∧ H' Dp = some (.lst (qs.map V.ref)))
        ⟨Mv.same dk (same_upd hDp), [], [], rfl, (fun _ z => nomatch z), rfl, .nil, upd_same⟩ (fun i H' _ z => z.1.sql (SL ep) pa pc) ?_ ?_⟩
      · rintro i x H5 hi ⟨m5, qs, prs, hpr, hrg, hql, hPA, hD5⟩
        have nDa : Dp ≠ a := dk.neA hDp
        have nDc : Dp ≠ c := dk.neC hDp
        obtain ⟨nx_, hnx, rfl⟩ : ∃ z, ns[i]? = some z ∧ x = V.str z := by
          rw [List.getElem?_map] at hi
          cases e : ns[i]? with
          | none => rw [e] at hi; cases hi
          | some z => rw [e] at hi; exact ⟨z, rfl, (Option.some.inj hi).symm⟩
        have hi8 : i < 8 := Nat.lt_of_lt_of_le (List.getElem?_eq_some_iff.mp hnx).1 n8
        have fin : ∀ (H6 : Hp) (n : Int), Mv a c H5 H6 → Rng n → ∀ t, H6 t = none → ∃ acc, upd H6 t (.tup [.str nx_, .int n]) Dp = some (.lst acc) ∧ acc.length < sizeLine ∧
            (Mv a c H4 (upd (upd H6 t (.tup [.str nx_, .int n])) Dp (.lst (acc ++ [.ref t]))) ∧ ∃ (qs : List Addr) (prs : List (Str × Int)), prs.map (·.1) = ns.take (i + 1) ∧ (∀ pr ∈ prs, Rng pr.2) ∧ qs.length = i + 1 ∧ PrsAt K (upd (upd H6 t (.tup [.str nx_, .int n])) Dp (.lst (acc ++ [.ref t]))) qs prs ∧
              upd (upd H6 t (.tup [.str nx_, .int n])) Dp (.lst (acc ++ [.ref t])) Dp = some (.lst (qs.map V.ref))) := by
          intro H6 n m6 hn t ht
          have e6 := m6.keep _ _ hD5 nDa nDc
          have eD := same_upd (o := .tup [.str nx_, .int n]) ht _ _ e6
          refine ⟨qs.map V.ref, eD, by rw [List.length_map]; omega, ?_⟩
          have m7 : Mv a c H4 (upd H6 t (.tup [.str nx_, .int n])) := (m5.trans m6).trans (Mv.same m6.deck (same_upd ht))
          have k7 : Kp a c H5 (upd H6 t (.tup [.str nx_, .int n])) := (Kp.mv m6).trans (Kp.same (same_upd ht))
          have P7 := PrsAt.kp k7 m5.deck hPA
          have t7 : upd H6 t (.tup [.str nx_, .int n]) t = some (.tup [.str nx_, .int n]) := upd_same
          revert eD m7 P7 t7
          generalize upd H6 t (.tup [.str nx_, .int n]) = H7
          intro eD m7 P7 t7
          have w7 : ∀ b o, H7 b = some o → (∀ ys, o ≠ .lst ys) → upd H7 Dp (.lst (qs.map V.ref ++ [.ref t])) b = some o := fun b o e h => by
            rw [upd_ne (fun z => by rw [z, eD] at e; exact h _ (Option.some.inj e).symm)]
            exact e
          have sq7 : ∀ {q : Addr} {xs : List V}, SqT K H7 q xs → SqT K (upd H7 Dp (.lst (qs.map V.ref ++ [.ref t]))) q xs := fun {q xs} h => by
            rcases h with (h | ⟨o, h⟩) | h
            · exact .inl (.inl (w7 _ _ h fun _ z => nomatch z))
            · exact .inl (.inr ⟨o, w7 _ _ h fun _ z => nomatch z⟩)
            · exact .inr h
          refine ⟨⟨fun b o e h1 h2 => ?_, ?_⟩, qs ++ [t], prs ++ [(nx_, n)], ?_, fun pr hp' => ?_, by simp [hql], ?_, ?_⟩
          · rw [upd_ne (ne_of_none e hDp)]
            exact m7.keep b o e h1 h2
          · obtain ⟨⟨ms, sd, nn, e1, e2, e3⟩, ne⟩ := m7.deck
            exact ⟨⟨ms, sd, nn, by rw [upd_ne nDa.symm]; exact e1, by rw [upd_ne nDc.symm]; exact e2, e3⟩, ne⟩
          · rw [List.map_append, hpr, List.take_add_one, hnx]
            rfl
          · rcases List.mem_append.mp hp' with z | z
            · exact hrg pr z
            · rw [List.mem_singleton.mp z]
              exact hn
          · exact prs_app (prs_map sq7 P7) (.cons (sq7 (.inl (.inl t7))) .nil)
          · rw [upd_same, List.map_append]
            rfl
        refine ⟨rfl, _, rfl, .ref a, rfl, a, c, 2, rfl, m5.deck, by decide, by decide, fun r H6 r0 r1 m6 => ⟨rfl, _, rfl, ite2 (fun h => ?_) (fun h => ?_)⟩⟩
        · have m56 := m5.trans m6
          refine ⟨.ref a, rfl, .ref y, rfl, a, c, y, lots.map V.int, rfl, m6.deck, m56.sql (SL ey) ya yc, ya, yc, by simpa using lne, by simpa using llen, fun v H7 hv m7 => ⟨(by show 2 ≤ sizeLine; decide), fun t ht => ?_⟩⟩
          obtain ⟨n, hn, rfl⟩ := List.mem_map.mp hv
          exact fin H7 n (m6.trans m7) (lrg n hn) t ht
        · refine ⟨.ref a, rfl, a, c, 65536, rfl, m6.deck, by decide, by decide, fun n H7 n0 n1 m7 => ⟨(by show 2 ≤ sizeLine; decide), fun t ht => ?_⟩⟩
          exact fin H7 n (m6.trans m7) ⟨n0, n1⟩ t ht
      · rintro H7 ⟨m7, qs, prs, hpr, hrg, hql, hPA, hD7⟩
        rw [List.length_map] at hpr hql
        rw [List.take_length] at hpr
        have nDa : Dp ≠ a := dk.neA hDp
        have nDc : Dp ≠ c := dk.neC hDp
        have hnd : (prs.map (·.1)).Nodup := by rw [hpr]; exact gd.nd
        obtain ⟨e, he⟩ : ∃ e : Str → Int, ∀ x ∈ ns, (x, e x) ∈ prs := by
          refine ⟨fun x => ((prs.find? fun pr => pr.1 == x).map (·.2)).getD 0, fun x hx => ?_⟩
          rw [← hpr] at hx
          obtain ⟨⟨x', n⟩, h1, rfl⟩ := List.mem_map.mp hx
          cases hf : prs.find? fun pr => pr.1 == x' with
          | none =>
            have := List.find?_eq_none.mp hf _ h1
            simp at this
          | some pr =>
            have h2 := List.find?_some hf
            have h3 := List.mem_of_find?_eq_some hf
            simp only [beq_iff_eq] at h2
            obtain ⟨k1, k2⟩ := pr
            dsimp only at h2
            subst h2
            show (k1, ((prs.find? fun pr => pr.1 == k1).map (·.2)).getD 0) ∈ prs
            rw [hf]
            exact h3
        have herg : ∀ x ∈ ns, Rng (e x) := fun x hx => hrg _ (he x hx)
        have tb7 : Tabs [(PT, lamQ)] H7 := K1.Tabs.mv tb dk m7
        have hnm := gd.nm
        -- own
        refine ⟨.ref a, rfl, .ref p, rfl, (by show 1 ≤ sizeLine; decide), fun l hl => ?_⟩
        have ep7 := m7.keep _ _ ep pa pc
        have pl : p ≠ l := ne_of_none ep7 hl
        have la : l ≠ a := m7.deck.neA hl
        have lc : l ≠ c := m7.deck.neC hl
        refine ⟨a, c, p, l, ns, rfl, by decide, m7.deck.same (same_upd hl), (SL (same_upd hl _ _ ep7)), pa, pc, pl, gd.ne, n8, ⟨12, upd_same⟩, la, lc, fun v t H8 mw ht hdep hok => ?_⟩
        have k78 : Kp a c H7 H8 := ⟨fun b o e h1 h2 _ => mw.keep b o (same_upd hl _ _ e) h1 h2 (ne_of_none e hl)⟩
        have dk8 := mw.deck
        have tb8 : Tabs [(PT, lamQ)] H8 := Tabs.mw (tb7.ext (same_upd hl)) (m7.deck.same (same_upd hl)) ⟨12, upd_same⟩ mw
        have eD8 := k78.lst hD7 nDa nDc
        have P8 := PrsAt.kp k78 m7.deck hPA
        obtain ⟨o1, o2, o3, o4⟩ := data_ok hnm t hok ht.six
        have o5 : t.data.shown.length ≤ sizeLine := by
          have : 2 ^ t.dep ≤ 2 ^ 6 := Nat.pow_le_pow_right (by decide) hdep
          omega
        have xr : Rng (ev e t) := ev_rng herg t hok
        -- due, kept
        refine ⟨v, rfl, .ref Dp, rfl, Dp, qs, toKv prs, rfl, SL eD8, P8.kv, fun d hd => ⟨v, d, t, ns, e, rfl, ht.same (same_upd hd), hdep, dict_is hnd he, hok, herg, fun H9 s9 => ?_⟩⟩
        have s89 : Same H8 H9 := (same_upd hd).trans s9
        refine ⟨v, rfl, v, t.data, rfl, (ht.same s89).dp, o1, o2, o5, by omega, _, _, rfl, ?_⟩
        -- told
        have eD9 := s89 _ _ eD8
        refine ⟨v, rfl, .ref Dp, rfl, Dp, _, rfl, .inl ⟨SL eD9, fun tp htp => ⟨v, tp, qs, prs, t, ns, e, rfl, (ht.same s89).same (same_upd htp), hdep, .inl (.inl upd_same), (P8.same s89).same (same_upd htp), hnd, he, hok, herg, tb8.ext (s89.trans (same_upd htp)), fun HA hE hTA => ?_⟩⟩⟩
        have kA : ExtN H8 HA := (same_ext (s89.trans (same_upd htp))).trans hE
        have eDA := kA _ _ eD8 (fun _ z => nomatch z)
        have PA' := prs_map (fun {q xs} h => ExtN.sqt kA h) P8
        refine ⟨.ref Dp, rfl, Dp, _, rfl, SL eDA, fun rl hrl => ⟨rl, _, rfl, .inl ⟨SL upd_same, fun t2 ht2 => ⟨v, rfl, rfl, ?_⟩⟩⟩⟩
        have sA : Same HA (upd (upd HA rl (.lst (qs.map V.ref).reverse)) t2 (.tup (qs.map V.ref).reverse)) := (same_upd hrl).trans (same_upd ht2)
        have eT2 : upd (upd HA rl (.lst (qs.map V.ref).reverse)) t2 (.tup (qs.map V.ref).reverse) t2 = some (.tup (qs.reverse.map V.ref)) := by
          rw [upd_same, List.map_reverse]
        revert sA eT2
        generalize upd (upd HA rl (.lst (qs.map V.ref).reverse)) t2 (.tup (qs.map V.ref).reverse) = HB0
        intro sA eT2
        refine ⟨v, t2, qs.reverse, prs.reverse, t, ns, e, rfl, (TmAt.ext kA ht).same sA, hdep, .inl (.inl eT2), prs_rev (prs_map (fun {q xs} h => Same.sqt sA h) PA'), ?_, fun x hx => List.mem_reverse.mpr (he x hx), hok, herg, hTA.ext sA, fun HB hEB hTB => ⟨(by show 2 ≤ sizeLine; decide), fun tl htl => ?_⟩⟩
        · rw [List.map_reverse]
          exact (List.reverse_perm _).nodup_iff.mpr hnd
        have kB : ExtN H8 HB := (kA.trans (same_ext sA)).trans hEB
        have dkB : Deck HB a c := dk8.ext kB
        have htB := TmAt.ext kB ht
        have sC : Same HB (upd HB tl (.lst [.int (ev e t), .int (ev e t)])) := same_upd htl
        have eC : upd HB tl (.lst [.int (ev e t), .int (ev e t)]) tl = some (.lst [.int (ev e t), .int (ev e t)]) := upd_same
        revert sC eC
        show _ → _ → tSeq _ _ _ _ (upd HB tl (.lst [.int (ev e t), .int (ev e t)]))
        generalize upd HB tl (.lst [.int (ev e t), .int (ev e t)]) = HC
        intro sC eC
        -- the tests
        obtain ⟨w1, w2, w3, w4⟩ := two_ok xr
        have dp2 : ∀ {H : Hp} {z : Addr}, H z = some (.lst [.int (ev e t), .int (ev e t)]) → L2.Dp K H (.ref z) (.list [.int (ev e t), .int (ev e t)]) := fun h => .lst (.inl (.inl h)) (.cons (.int _) (.cons (.int _) .nil))
        refine ⟨_, rfl, .ref tl, _, rfl, dp2 eC, w1, w2, w3, w4, _, rfl, _, rfl, (by show 2 ≤ sizeLine; decide), fun z hz => ⟨.ref z, _, rfl, dp2 upd_same, w1, w2, w3, w4, rfl, _, rfl, ?_⟩⟩
        have sE : Same HB (upd HC z (.lst [.int (ev e t), .int (ev e t)])) := sC.trans (same_upd hz)
        revert sE
        generalize upd HC z (.lst [.int (ev e t), .int (ev e t)]) = HE
        intro sE
        refine iteNS rfl ⟨v, rfl, v, t.data, rfl, (htB.same sE).dp, o1, o2, o5, by omega, _, rfl, rfl, _, rfl, ?_⟩
        refine iteNS rfl ⟨_, rfl, _, rfl, .int _, _, rfl, ?_⟩
        have hup : upTo 65535 (.int (ev e t)) = true := by
          show (decide (0 ≤ ev e t) && decide (ev e t ≤ 65535)) = true
          rw [decide_eq_true xr.1, decide_eq_true (by have := xr.2; omega)]
          rfl
        rw [hup]
        have dkE := dkB.same sE
        have tbE := hTB.ext sE
        -- things
        refine iteF ⟨.ref a, rfl, a, c, rfl, dkE, fun pt xs HF mF hpt eF lF thF => ⟨pt, rfl, ⟨_, SL eF⟩, fun D2 hD2 => lc_list (K := K) (a := pt) (xs := xs) (fun i H' => Same (upd HF D2 (.lst [])) H') (Same.refl _) (fun i H' _ z => SL (z _ _ (same_upd hD2 _ _ eF))) ?_ ?_⟩⟩
        · rintro i x HG hi sG
          have hx := thF x (List.mem_of_getElem? hi)
          refine ⟨rfl, x, rfl, x, rfl, hx.same ((same_upd hD2).trans sG), fun HH sH => ⟨_, rfl, ?_⟩⟩
          exact iteF (sG.trans sH)
        · rintro HG sG
          refine ⟨Nat.zero_le _, fun z hz => ⟨.list [], .list [], .lst (.inl (.inl (same_upd hz _ _ (sG _ _ upd_same)))) .nil, .lst (.inl (.inl upd_same)) .nil, rfl, rfl, _, rfl, ?_⟩⟩
          have sZ : Same HF (upd HG z (.lst [])) := (same_upd hD2).trans (sG.trans (same_upd hz))
          exact iteF (nx _ _ _ _ _ _ _ _ _ (mF.deck.same sZ) ((K1.Tabs.mv tbE dkE mF).ext sZ))
    obtain ⟨tt, ht, hq⟩ := tail
    refine ⟨_, pss_cons (ps_set (i := 1) scLaw.nd rfl (.inr rfl) (pe_call G1 r1 (by rfl) D1.at_ D1.fn.kp D1.b .nil pass0 (pa_cons (pv 0) pa_nil)))
      (pss_cons (ps_for PassesOwn.never rfl (pi_range1 (by rfl) G.range (pa_cons pe_int pa_nil)) (pg_name (i := 2) scLaw.nd rfl (.inl rfl))
        (pss_cons (ps_set (i := 3) scLaw.nd rfl (.inl rfl) (pe_call G4 r2 (by rfl) D4.at_ D4.fn.kp D4.b .nil pass0 (pa_cons (pv 1) (pa_cons (pe_op op_add pe_int (pe_call G2 r1 (by rfl) D2.at_ D2.fn.kp D2.b .nil pass0 (pa_cons (pv 1) (pa_cons pe_int pa_nil)))) pa_nil))))
        (pss_cons (ps_set (i := 4) scLaw.nd rfl (.inl rfl) (pe_cmpR op_eq (pe_call G2 r1 (by rfl) D2.at_ D2.fn.kp D2.b .nil pass0 (pa_cons (pv 1) (pa_cons pe_int pa_nil))) pe_int (nomark _)))
        (pss_cons (ps_set (i := 5) scLaw.nd rfl (.inr rfl) (pe_ifExp (pt_val (pv 4)) (pe_lst (pa_cons pe_int (pa_cons pe_int (pa_cons pe_int (pa_cons pe_int (pa_cons pe_int (pa_cons pe_int pa_nil))))))) (pe_lst (pa_cons pe_int (pa_cons pe_int (pa_cons pe_int (pa_cons pe_int (pa_cons pe_int (pa_cons pe_int pa_nil)))))))))
        ht))))
      (pss_cons (ps_set (i := 11) scLaw.nd rfl (.inl rfl) (pe_lst (pa_cons pe_non (pa_cons pe_bl (pa_cons pe_bl (pa_cons pe_str (pa_cons pe_str (pa_cons (pe_tup pa_nil) (pa_cons (pe_lst pa_nil) (pa_cons pe_dnewK (pa_cons (pe_tup (pa_cons pe_str pa_nil)) (pa_cons pe_str (pa_cons pe_str (pa_cons (pe_un un_neg pe_int) (pa_cons (pe_op op_pow pe_int pe_int) (pa_cons pe_str (pa_cons pe_str pa_nil)))))))))))))))))
      (pss_one (ps_ret (pe_cmpR (op_eqD hr.units) (pe_lc (own := [("_law_it", 13)]) (g := gName 13) (by rfl) scLaw.nd (pi_list (pv 11)) (blkOk_by (own := [("_law_it", 13)]) (N := nLaw) (sc := defScope sLaw) (by decide +kernel))
          (fun _ _ _ _ _ => pg_name (i := 13) scLaw.nd rfl (Or.inl rfl)) (fun _ _ _ _ _ => pts_one (pt_not (pt_val (pe_callG G7 hgd r4 (by rfl) D7.at_ D7.fn.kp D7.b (pa_cons (pv 13) pa_nil))))) (fun _ _ _ _ _ => pv 13)) (pe_lst pa_nil) (nomark _)))))), ?_⟩
    refine ⟨.ref b, rfl, b, ns, rfl, hb, hl, fun a c H1 s1 ha hc dk => ?_⟩
    refine ⟨12, rfl, by decide, by decide, for_range (n := 12) (fun i σ H' => (∃ tn z3 z4 z5 z6 z7 z8 z9 z10, σ = [some (.ref b), some (.ref a), tn, z3, z4, z5, z6, z7, z8, z9, z10, none, none, none]) ∧ Deck H' a c ∧ Tabs [(PT, lamQ)] H') ⟨⟨none, none, none, none, none, none, none, none, none, rfl⟩, dk, hT.ext s1⟩ ?_ ?_⟩
    · rintro i σ H2 hi ⟨⟨tn, z3, z4, z5, z6, z7, z8, z9, z10, rfl⟩, dk2, tb2⟩
      refine ⟨.ref a, rfl, .ref a, rfl, a, c, 6, rfl, dk2, by decide, by decide, fun r H3 r0 r1 m3 => ⟨_, _, rfl, rfl, a, c, 1 + r, rfl, m3.deck, by omega, by omega, fun p ns' H4 m4 hp e4 g4 l4 => ?_⟩⟩
      refine ⟨.ref a, rfl, a, c, 2, rfl, m4.deck, by decide, by decide, fun g H5 g0 g1 m5 => ⟨rfl, ?_⟩⟩
      have pa := m3.deck.neA hp
      have pc := m3.deck.neC hp
      have e5 := m5.keep _ _ e4 pa pc
      have m25 := (m3.trans m4).trans m5
      have tb5 := K1.Tabs.mv tb2 dk2 m25
      refine ⟨_, rfl, _, rfl, ite2 (fun h => ?_) (fun h => ?_)⟩
      · refine ⟨(by show 6 ≤ sizeLine; decide), fun y hy => ?_⟩
        exact hq a c p y _ _ _ _ _ _ _ _ _ ns' [65535, 65534, 32768, 65280, 256, 1] (m25.deck.same (same_upd hy)) (tb5.ext (same_upd hy)) (same_upd hy _ _ e5) pa pc g4 l4 upd_same (m25.deck.neA hy) (m25.deck.neC hy) (by decide) (by decide) (fun k hk => (by decide : ∀ k ∈ ([65535, 65534, 32768, 65280, 256, 1] : List Int), 0 ≤ k ∧ k < 65536) k hk) (fun H' _ _ _ _ _ _ _ _ d' t' => ⟨⟨_, _, _, _, _, _, _, _, _, rfl⟩, d', t'⟩)
      · refine ⟨(by show 6 ≤ sizeLine; decide), fun y hy => ?_⟩
        exact hq a c p y _ _ _ _ _ _ _ _ _ ns' [0, 1, 2, 3, 5, 10] (m25.deck.same (same_upd hy)) (tb5.ext (same_upd hy)) (same_upd hy _ _ e5) pa pc g4 l4 upd_same (m25.deck.neA hy) (m25.deck.neC hy) (by decide) (by decide) (fun k hk => (by decide : ∀ k ∈ ([0, 1, 2, 3, 5, 10] : List Int), 0 ≤ k ∧ k < 65536) k hk) (fun H' _ _ _ _ _ _ _ _ d' t' => ⟨⟨_, _, _, _, _, _, _, _, _, rfl⟩, d', t'⟩)
    · rintro σ H2 ⟨⟨tn, z3, z4, z5, z6, z7, z8, z9, z10, rfl⟩, dk2, tb2⟩
      refine ⟨Nat.zero_le _, fun t1 h1 => ⟨Nat.zero_le _, fun t2 h2 => fun t3 h3 => ⟨(by show 1 ≤ sizeLine; decide), fun t4 h4 => ⟨_, rfl, _, _, rfl, rfl, ⟨by decide, by decide, by decide⟩, (by show 15 ≤ sizeLine; decide), fun lo hlo => ?_⟩⟩⟩⟩
      obtain ⟨L15, eL⟩ : ∃ L15 : List V, L15 = [.non, .bl true, .bl false, .str "", .str " ", .ref t1, .ref t2, .ref t3, .ref t4, .str "abcdefgh", .str "abcdefghi", .int (-1), .int (10 ^ 39), .str "sumsum", .str "sam"] := ⟨_, rfl⟩
      have k4 : Same (upd (upd (upd (upd H2 t1 (.tup [])) t2 (.lst [])) t3 (.dK [])) t4 (.tup [.str "a"])) (upd (upd (upd (upd (upd H2 t1 (.tup [])) t2 (.lst [])) t3 (.dK [])) t4 (.tup [.str "a"])) lo (.lst L15)) := same_upd (by rw [eL] at *; exact hlo)
      have q4 := k4 t4 _ upd_same
      have q3 := k4 t3 _ (same_upd h4 _ _ upd_same)
      have q2 := k4 t2 _ (same_upd h4 _ _ (same_upd h3 _ _ upd_same))
      have q1 := k4 t1 _ (same_upd h4 _ _ (same_upd h3 _ _ (same_upd h2 _ _ upd_same)))
      have q5 : upd (upd (upd (upd (upd H2 t1 (.tup [])) t2 (.lst [])) t3 (.dK [])) t4 (.tup [.str "a"])) lo (.lst L15) lo = some (.lst L15) := upd_same
      revert q1 q2 q3 q4 q5
      show _ → _ → _ → _ → _ → gName 11 (V.ref lo) _ (upd (upd (upd (upd (upd H2 t1 (.tup [])) t2 (.lst [])) t3 (.dK [])) t4 (.tup [.str "a"])) lo (.lst [.non, .bl true, .bl false, .str "", .str " ", .ref t1, .ref t2, .ref t3, .ref t4, .str "abcdefgh", .str "abcdefghi", .int (-1), .int (10 ^ 39), .str "sumsum", .str "sam"])) _
      clear k4
      rw [← eL]
      generalize upd (upd (upd (upd (upd H2 t1 (.tup [])) t2 (.lst [])) t3 (.dK [])) t4 (.tup [.str "a"])) lo (.lst L15) = H3
      intro q4 q3 q2 q1 q5
      have th15 : ∀ v ∈ L15, Th K H3 v := fun v hv => by
        rw [eL] at hv
        simp only [List.mem_cons, List.not_mem_nil, or_false] at hv
        rcases hv with rfl | rfl | rfl | rfl | rfl | rfl | rfl | rfl | rfl | rfl | rfl | rfl | rfl | rfl | rfl
        · exact th_non
        · exact th_bl _
        · exact th_bl _
        · exact th_str ⟨by decide +kernel, by decide +kernel⟩
        · exact th_str ⟨by decide +kernel, by decide +kernel⟩
        · exact th_tup0 (.inl (.inl q1))
        · exact th_lst0 (.inl (.inl q2))
        · exact th_dct q3
        · exact th_tup1 (.inl (.inl q4)) (.str "a") rfl (by decide +kernel) (by decide +kernel) rfl
        · exact th_str ⟨by decide +kernel, by decide +kernel⟩
        · exact th_str ⟨by decide +kernel, by decide +kernel⟩
        · exact th_int (by decide +kernel)
        · exact th_int (by decide +kernel)
        · exact th_str ⟨by decide +kernel, by decide +kernel⟩
        · exact th_str ⟨by decide +kernel, by decide +kernel⟩
      refine ⟨.ref lo, rfl, lo, rfl, ⟨_, SL q5⟩, fun D2 hD2 => lc_list (K := K) (a := lo) (xs := L15) (fun i H' => Same (upd H3 D2 (.lst [])) H') (Same.refl _) (fun i H' _ z => SL (z _ _ (same_upd hD2 _ _ q5))) ?_ ?_⟩
      · rintro i x HG hi sG
        have hx := th15 x (List.mem_of_getElem? hi)
        refine ⟨rfl, x, rfl, x, rfl, hx.same ((same_upd hD2).trans sG), fun HH sH => ⟨_, rfl, ?_⟩⟩
        exact iteF (sG.trans sH)
      · rintro HG sG
        exact ⟨Nat.zero_le _, fun z hz => ⟨.list [], .list [], .lst (.inl (.inl (same_upd hz _ _ (sG _ _ upd_same)))) .nil, .lst (.inl (.inl upd_same)) .nil, rfl, rfl, q _⟩⟩
end
end K1
set_option Elab.async false
set_option linter.all false
set_option maxRecDepth 100000
set_option maxHeartbeats 4000000
namespace K1
open PySem PySem.Spec PyProof.Rows L2 KG KL LamX NdefX
structure DefIn (K : PySem.W.Frag) (x : Str) (st : Stmt) : Prop where
  ex : ∃ (f : Addr) (oc : Value) (od : Option Addr) (kV dc pm : Value) (an : Option Addr) (cd ct : Value) (sl : Array (Option Value)), PySem.W.nsIn K mainGlobals x = some (some (.ref f)) ∧
    K.lookup f = some ⟨oc, od, .func (PySem.W.fnOf x x (defArgs st) (defBody st) (defScope st) .none kV dc pm an cd ct), sl⟩ ∧ PySem.W.codeIn K cd x = true ∧ PySem.W.keepIn K (.ref f) = true
structure DefInC (K : PySem.W.Frag) (x : Str) (st : Stmt) (c : Addr) : Prop where
  ex : ∃ (f : Addr) (oc : Value) (od : Option Addr) (kV dc pm : Value) (an : Option Addr) (ct : Value) (sl : Array (Option Value)), PySem.W.nsIn K mainGlobals x = some (some (.ref f)) ∧
    K.lookup f = some ⟨oc, od, .func (PySem.W.fnOf x x (defArgs st) (defBody st) (defScope st) .none kV dc pm an (.ref c) ct), sl⟩ ∧ PySem.W.codeIn K (.ref c) x = true ∧ PySem.W.keepIn K (.ref f) = true
theorem DefIn.of {K : PySem.W.Frag} {x : Str} {st : Stmt} {f : Addr} {oc : Value} {od : Option Addr} {kV dc pm : Value} {an : Option Addr} {cd ct : Value} {sl : Array (Option Value)} (h1 : PySem.W.nsIn K mainGlobals x = some (some (.ref f)))
    (h2 : K.lookup f = some ⟨oc, od, .func (PySem.W.fnOf x x (defArgs st) (defBody st) (defScope st) .none kV dc pm an cd ct), sl⟩) (h3 : PySem.W.codeIn K cd x = true) (h4 : PySem.W.keepIn K (.ref f) = true) : DefIn K x st :=
  ⟨⟨f, oc, od, kV, dc, pm, an, cd, ct, sl, h1, h2, h3, h4⟩⟩
theorem DefInC.of {K : PySem.W.Frag} {x : Str} {st : Stmt} {c f : Addr} {oc : Value} {od : Option Addr} {kV dc pm : Value} {an : Option Addr} {ct : Value} {sl : Array (Option Value)} (h1 : PySem.W.nsIn K mainGlobals x = some (some (.ref f)))
    (h2 : K.lookup f = some ⟨oc, od, .func (PySem.W.fnOf x x (defArgs st) (defBody st) (defScope st) .none kV dc pm an (.ref c) ct), sl⟩) (h3 : PySem.W.codeIn K (.ref c) x = true) (h4 : PySem.W.keepIn K (.ref f) = true) : DefInC K x st c :=
  ⟨⟨f, oc, od, kV, dc, pm, an, ct, sl, h1, h2, h3, h4⟩⟩
def BindsAll (x : Str) (st : Stmt) (ps : List Str) : Prop := ∀ (kV doc pm : Value) (an : Option Addr) (cdv ct : Value) (us : List Value), us.length = ps.length →
  bindArgs (PySem.W.fnOf x x (defArgs st) (defBody st) (defScope st) .none kV doc pm an cdv ct) ⟨us, []⟩ = pure (ps.zip us)
theorem DefIn.def_ {K : PySem.W.Frag} {h : Heap} {mg : Str → Option Value} {x : Str} {st : Stmt} {ps : List Str} (X : K.In h) (G : h.Ns mainGlobals mg) (hb : BindsAll x st ps) (d : DefIn K x st) : ∃ f fd, Def K mg x st ps f fd := by
  obtain ⟨f, oc, od, kV, dc, pm, an, cd, ct, sl, h1, h2, h3, h4⟩ := d.ex
  have F := fun_mk (st := st) h2 h3 h4
  exact ⟨f, _, F, PySem.W.mg_of X G h1, F.binds hb⟩
/-- by the one name -/
theorem kw1 {K : PySem.W.Frag} {h : Heap} {mg : Str → Option Value} {x y : Str} {st : Stmt} (X : K.In h) (G : h.Ns mainGlobals mg) (hb : BindsAll x st [y])
    (hk : ∀ (kV doc pm : Value) (an : Option Addr) (cdv ct : Value) (u : Value), bindArgs (PySem.W.fnOf x x (defArgs st) (defBody st) (defScope st) .none kV doc pm an cdv ct) ⟨[], [(y, u)]⟩ = pure [(y, u)]) (d : DefIn K x st) :
    ∃ f fd, Def K mg x st [y] f fd ∧ KwOnly K fd [y] [y] (fun {_} l => l) := by
  obtain ⟨f, oc, od, kV, dc, pm, an, cd, ct, sl, h1, h2, h3, h4⟩ := d.ex
  have F := fun_mk (st := st) h2 h3 h4
  refine ⟨f, _, ⟨F, PySem.W.mg_of X G h1, F.binds hb⟩, ⟨fun s ws _ hl => ?_, fun r _ => r⟩⟩
  match ws, hl with
  | [u], _ => exact .of_eq (hk _ _ _ _ _ _ u)
theorem kw2 {K : PySem.W.Frag} {h : Heap} {mg : Str → Option Value} {x y z : Str} {st : Stmt} (X : K.In h) (G : h.Ns mainGlobals mg) (hb : BindsAll x st [y, z])
    (hk : ∀ (kV doc pm : Value) (an : Option Addr) (cdv ct : Value) (u v : Value), bindArgs (PySem.W.fnOf x x (defArgs st) (defBody st) (defScope st) .none kV doc pm an cdv ct) ⟨[], [(z, u), (y, v)]⟩ = pure [(y, v), (z, u)]) (d : DefIn K x st) :
    ∃ f fd, Def K mg x st [y, z] f fd ∧ KwOnly K fd [y, z] [z, y] (fun {_} l => l.reverse) := by
  obtain ⟨f, oc, od, kV, dc, pm, an, cd, ct, sl, h1, h2, h3, h4⟩ := d.ex
  have F := fun_mk (st := st) h2 h3 h4
  refine ⟨f, _, ⟨F, PySem.W.mg_of X G h1, F.binds hb⟩, ⟨fun s ws _ hl => ?_, fun r hl => ?_⟩⟩
  · match ws, hl with
    | [u, v], _ => exact .of_eq (hk _ _ _ _ _ _ u v)
  · rename_i zs ws
    match zs, ws, r with
    | [_, _], _, .cons r1 (.cons r2 .nil) => exact .cons r2 (.cons r1 .nil)
    | [], _, _ => exact absurd hl (fun z => by simp at z)
    | [_], _, _ => exact absurd hl (fun z => by simp at z)
    | _ :: _ :: _ :: _, _, _ => exact absurd hl (fun z => by simp at z)
theorem bi_sLName : BindsAll "_law_is_name" sLName ["_law_it"] := fun _ _ _ _ _ _ us hl => match us, hl with | [_], _ => rfl
theorem bi_sLWhole : BindsAll "_law_is_whole" sLWhole ["_law_it", "_law_last"] := fun _ _ _ _ _ _ us hl => match us, hl with | [_, _], _ => rfl
theorem bi_sWhole : BindsAll "is_whole" sWhole ["thing"] := fun _ _ _ _ _ _ us hl => match us, hl with | [_], _ => rfl
theorem bi_sUpTo : BindsAll "is_up_to" sUpTo ["thing", "highest"] := fun _ _ _ _ _ _ us hl => match us, hl with | [_, _], _ => rfl
theorem bi_sName : BindsAll "is_name" sName ["thing"] := fun _ _ _ _ _ _ us hl => match us, hl with | [_], _ => rfl
theorem bi_sNumber : BindsAll "is_number" sNumber ["thing"] := fun _ _ _ _ _ _ us hl => match us, hl with | [_], _ => rfl
theorem bi_sDepth : BindsAll "is_depth" sDepth ["thing"] := fun _ _ _ _ _ _ us hl => match us, hl with | [_], _ => rfl
theorem bi_sDeck : BindsAll "_law_deck" sDeck ["_law_script"] := fun _ _ _ _ _ _ us hl => match us, hl with | [_], _ => rfl
theorem bi_sDraw : BindsAll "_law_draw" sDraw ["_law_deck_here", "_law_ways"] := fun _ _ _ _ _ _ us hl => match us, hl with | [_, _], _ => rfl
theorem bi_sPick : BindsAll "_law_pick" sPick ["_law_deck_here", "_law_some"] := fun _ _ _ _ _ _ us hl => match us, hl with | [_, _], _ => rfl
theorem bi_sUnl : BindsAll "_law_unlike" sUnl ["_law_deck_here", "_law_count"] := fun _ _ _ _ _ _ us hl => match us, hl with | [_, _], _ => rfl
theorem bi_sSum : BindsAll "_law_sum_of" sSum ["_law_deck_here", "_law_names", "_law_deep", "_law_left"] := fun _ _ _ _ _ _ us hl => match us, hl with | [_, _, _, _], _ => rfl
theorem bi_sDue : BindsAll "_law_due" sDue ["_law_own", "_law_numbers"] := fun _ _ _ _ _ _ us hl => match us, hl with | [_, _], _ => rfl
theorem bi_sRight : BindsAll "_law_right" sRight ["_law_it"] := fun _ _ _ _ _ _ us hl => match us, hl with | [_], _ => rfl
theorem bi_sThg : BindsAll "_law_things" sThg ["_law_deck_here"] := fun _ _ _ _ _ _ us hl => match us, hl with | [_], _ => rfl
theorem bi_sBy : BindsAll "worth_by" sBy ["word", "one", "other"] := fun _ _ _ _ _ _ us hl => match us, hl with | [_, _, _], _ => rfl
theorem bi_sAt : BindsAll "worth_at" sAt ["term", "number_of"] := fun _ _ _ _ _ _ us hl => match us, hl with | [_, _], _ => rfl
theorem bi_sIn : BindsAll "worth_in" sIn ["term", "numbers"] := fun _ _ _ _ _ _ us hl => match us, hl with | [_, _], _ => rfl
theorem bi_sOf : BindsAll "worth_of" sOf ["term", "worths"] := fun _ _ _ _ _ _ us hl => match us, hl with | [_, _], _ => rfl
theorem bi_sLaw : BindsAll "law" sLaw ["_law_script"] := fun _ _ _ _ _ _ us hl => match us, hl with | [_], _ => rfl
theorem all_mk {l : PySem.W.OpenLaw} {w : World} {K : PySem.W.Frag} {q : Program} {loose : List Str} {XP : (Str → Option Value) → Heap → Prop} {s₀ : Shared} {h : Heap} {mg mb : Str → Option Value} {fa pW cI PT : Addr} {dI : DefRec} {t_ROUND t_LONGEST t_DEEPEST t_LETTERS t_NUM t_SUM t_LESS t_TIMES t_OVER t_BELOW w1 w2 w3 w4 w5 w6 : Tok} {dW odC : Option Addr} {nW : Nat} {sW slC : Array (Option Value)} {oC : Value} {vC : Array Value}
    (GG : PySem.W.Ground q loose [] XP w s₀ mg mb h) (X : K.In h) (hfa : mg "law" = some (.ref fa)) (rI : (recsOf q).find? (fun e => e.name == ("worth_in" : Str)) = some dI)
    (d0 : DefIn K "_law_is_name" sLName)
    (d1 : DefIn K "_law_is_whole" sLWhole)
    (d2 : DefIn K "is_whole" sWhole)
    (d3 : DefIn K "is_up_to" sUpTo)
    (d4 : DefIn K "is_name" sName)
    (d5 : DefIn K "is_number" sNumber)
    (d6 : DefIn K "is_depth" sDepth)
    (d7 : DefIn K "_law_deck" sDeck)
    (d8 : DefIn K "_law_draw" sDraw)
    (d9 : DefIn K "_law_pick" sPick)
    (d10 : DefIn K "_law_unlike" sUnl)
    (d11 : DefIn K "_law_sum_of" sSum)
    (d12 : DefIn K "_law_due" sDue)
    (d13 : DefIn K "_law_right" sRight)
    (d14 : DefIn K "_law_things" sThg)
    (d15 : DefIn K "worth_by" sBy)
    (d16 : DefIn K "worth_at" sAt)
    (d17 : DefInC K "worth_in" sIn cI)
    (d18 : DefIn K "worth_of" sOf)
    (d19 : DefIn K "law" sLaw)
    (z_isinstance : PySem.W.nsIn K mainGlobals "isinstance" = some none)
    (z_int : PySem.W.nsIn K mainGlobals "int" = some none)
    (z_bool : PySem.W.nsIn K mainGlobals "bool" = some none)
    (z_str : PySem.W.nsIn K mainGlobals "str" = some none)
    (z_len : PySem.W.nsIn K mainGlobals "len" = some none)
    (z_all : PySem.W.nsIn K mainGlobals "all" = some none)
    (z_list : PySem.W.nsIn K mainGlobals "list" = some none)
    (z_tuple : PySem.W.nsIn K mainGlobals "tuple" = some none)
    (z_dict : PySem.W.nsIn K mainGlobals "dict" = some none)
    (z_range : PySem.W.nsIn K mainGlobals "range" = some none)
    (z_repr : PySem.W.nsIn K mainGlobals "repr" = some none)
    (g_ROUND : PySem.W.nsIn K mainGlobals "ROUND" = some (some (.int 65536 t_ROUND)))
    (g_LONGEST : PySem.W.nsIn K mainGlobals "LONGEST" = some (some (.int 8 t_LONGEST)))
    (g_DEEPEST : PySem.W.nsIn K mainGlobals "DEEPEST" = some (some (.int 3 t_DEEPEST)))
    (g_LETTERS : PySem.W.nsIn K mainGlobals "LETTERS" = some (some (.str "abcdefghijklmnopqrstuvwxyz" t_LETTERS)))
    (g_NUM : PySem.W.nsIn K mainGlobals "NUM" = some (some (.str "num" t_NUM)))
    (g_SUM : PySem.W.nsIn K mainGlobals "SUM" = some (some (.str "sum" t_SUM)))
    (g_LESS : PySem.W.nsIn K mainGlobals "LESS" = some (some (.str "less" t_LESS)))
    (g_TIMES : PySem.W.nsIn K mainGlobals "TIMES" = some (some (.str "times" t_TIMES)))
    (g_OVER : PySem.W.nsIn K mainGlobals "OVER" = some (some (.str "over" t_OVER)))
    (g_BELOW : PySem.W.nsIn K mainGlobals "BELOW" = some (some (.str "below" t_BELOW)))
    (gW : PySem.W.nsIn K mainGlobals "WORDS" = some (some (.ref pW)))
    (lW : K.lookup pW = some ⟨.type "tuple", dW, .seq #[.str "sum" w1, .str "less" w2, .str "times" w3, .str "over" w4, .str "below" w5, .str "same" w6] nW, sW⟩)
    (lC : K.lookup cI = some ⟨oC, odC, .fields vC, slC⟩)
    (vP : (vC[11]? : Option Value) = some (.ref PT))
    (nP : K.lookup PT = none) :
    LawG l w K 12 63 "_law_script" mg fa h := by
  have G := GG.T.g
  have tI : PySem.W.tabIn K "worth_in" = some (cI, PT) := by
    obtain ⟨f, oc, od, kV, dc, pm, an, ct, sl, h1, h2, h3, h4⟩ := d17.ex
    unfold PySem.W.tabIn
    rw [h1]
    simp only [h2, lC, vP]
  obtain ⟨hcd, htab⟩ := PySem.W.tab_of GG.T X rI tI
  have GB : Glob K mg pW := {
    isi := PySem.W.mg_none_of X G z_isinstance
    int := PySem.W.mg_none_of X G z_int
    bool := PySem.W.mg_none_of X G z_bool
    str := PySem.W.mg_none_of X G z_str
    len := PySem.W.mg_none_of X G z_len
    all := PySem.W.mg_none_of X G z_all
    list := PySem.W.mg_none_of X G z_list
    tuple := PySem.W.mg_none_of X G z_tuple
    dict := PySem.W.mg_none_of X G z_dict
    range := PySem.W.mg_none_of X G z_range
    repr := PySem.W.mg_none_of X G z_repr
    ROUND := ⟨_, PySem.W.mg_of X G g_ROUND⟩
    LONGEST := ⟨_, PySem.W.mg_of X G g_LONGEST⟩
    DEEPEST := ⟨_, PySem.W.mg_of X G g_DEEPEST⟩
    LETTERS := ⟨_, PySem.W.mg_of X G g_LETTERS⟩
    NUM := ⟨_, PySem.W.mg_of X G g_NUM⟩
    SUM := ⟨_, PySem.W.mg_of X G g_SUM⟩
    LESS := ⟨_, PySem.W.mg_of X G g_LESS⟩
    TIMES := ⟨_, PySem.W.mg_of X G g_TIMES⟩
    OVER := ⟨_, PySem.W.mg_of X G g_OVER⟩
    BELOW := ⟨_, PySem.W.mg_of X G g_BELOW⟩
    WORDS := PySem.W.mg_of X G gW
    words := fun H => .inr ⟨_, _, _, lW, rfl, rfl, (by show 6 ≤ sizeLine; decide), .cons ⟨_, rfl⟩ (.cons ⟨_, rfl⟩ (.cons ⟨_, rfl⟩ (.cons ⟨_, rfl⟩ (.cons ⟨_, rfl⟩ (.cons ⟨_, rfl⟩ .nil)))))⟩ }
  have DI : ∃ f fd, DefC K mg "worth_in" sIn ["term", "numbers"] f cI fd := by
    obtain ⟨f, oc, od, kV, dc, pm, an, ct, sl, h1, h2, h3, h4⟩ := d17.ex
    have F := fun_mk (st := sIn) h2 h3 h4
    exact ⟨f, _, ⟨oc, od, kV, dc, pm, an, ct, sl, rfl, h2, h3⟩, h4, PySem.W.mg_of X G h1, F.binds bi_sIn⟩
  have RD : RDefs K mg := {
    lname := d0.def_ X G bi_sLName
    lwhole := d1.def_ X G bi_sLWhole
    whole := d2.def_ X G bi_sWhole
    upTo := d3.def_ X G bi_sUpTo
    name := kw1 X G bi_sName (fun _ _ _ _ _ _ _ => rfl) d4
    number := kw1 X G bi_sNumber (fun _ _ _ _ _ _ _ => rfl) d5
    depth := kw1 X G bi_sDepth (fun _ _ _ _ _ _ _ => rfl) d6 }
  have DD : Defs K mg cI := {
    right := RD
    deck := d7.def_ X G bi_sDeck
    draw := d8.def_ X G bi_sDraw
    pick := d9.def_ X G bi_sPick
    unl := d10.def_ X G bi_sUnl
    sum := d11.def_ X G bi_sSum
    due := d12.def_ X G bi_sDue
    lright := d13.def_ X G bi_sRight
    thg := d14.def_ X G bi_sThg
    by_ := d15.def_ X G bi_sBy
    at_ := d16.def_ X G bi_sAt
    in_ := DI
    of_ := kw2 X G bi_sOf (fun _ _ _ _ _ _ _ _ => rfl) d18 }
  obtain ⟨f, oc, od, kV, dc, pm, an, cd, ct, sl, h1, h2, h3, h4⟩ := d19.ex
  have e := hfa.symm.trans (PySem.W.mg_of X G h1)
  cases e
  have F := fun_mk (st := sLaw) h2 h3 h4
  refine ⟨_, cI, PT, spLaw K [(PT, lamQ)], htab, nP, hcd, fun s v => .of_eq rfl, fun H a ns hl ht hS => ⟨a, ns, rfl, hS, hl, fun p hp => ?_, fun _ => rfl⟩, fun base _ _ TB => ok_law F GB DD TB⟩
  cases List.mem_singleton.mp hp
  exact TabS.nil ht
end K1
set_option Elab.async false
open PySem PySem.W PyProof.Rows
local macro_rules | `(tactic| walk_at "k1 def") => `(tactic| (refine' K1.DefIn.of ?a1 ?a2 ?a3 ?a4; (case a1 => k_is); (case a2 => k_is); (case a3 => k_is); (case a4 => k_is)))
local macro_rules | `(tactic| walk_at "k1 def c") => `(tactic| (refine' K1.DefInC.of ?a1 ?a2 ?a3 ?a4; (case a1 => k_is); (case a2 => k_is); (case a3 => k_is); (case a4 => k_is)))
set_option maxRecDepth 100000 in
set_option maxHeartbeats 0 in
theorem PySem.Challenge.cw_midferry_k01_terms_and_numbers_holds : PySem.Challenge.rw_midferry_k01_terms_and_numbers.Holds := by
  w_on; o_law; k_head; (case hw => w_witness2)
  k_fill
  refine KG.walkG (l := PySem.Challenge.rw_midferry_k01_terms_and_numbers) (n := 63) (k := 12) (x := "_law_script") rfl (by decide) rfl ⟨rfl, by decide, by decide⟩ (fun w h Y => PySem.W.km_in_of Y) ?F
  case F =>
    intro w s₀ mg mb fa h GG KX hmg
    refine' K1.all_mk GG KX hmg ?rI ?d0 ?d1 ?d2 ?d3 ?d4 ?d5 ?d6 ?d7 ?d8 ?d9 ?d10 ?d11 ?d12 ?d13 ?d14 ?d15 ?d16 ?d17 ?d18 ?d19 ?z_isinstance ?z_int ?z_bool ?z_str ?z_len ?z_all ?z_list ?z_tuple ?z_dict ?z_range ?z_repr ?g_ROUND ?g_LONGEST ?g_DEEPEST ?g_LETTERS ?g_NUM ?g_SUM ?g_LESS ?g_TIMES ?g_OVER ?g_BELOW ?gW ?lW ?lC ?vP ?nP
    (case rI => rfl)
    (case d0 => walk_at "k1 def")
    (case d1 => walk_at "k1 def")
    (case d2 => walk_at "k1 def")
    (case d3 => walk_at "k1 def")
    (case d4 => walk_at "k1 def")
    (case d5 => walk_at "k1 def")
    (case d6 => walk_at "k1 def")
    (case d7 => walk_at "k1 def")
    (case d8 => walk_at "k1 def")
    (case d9 => walk_at "k1 def")
    (case d10 => walk_at "k1 def")
    (case d11 => walk_at "k1 def")
    (case d12 => walk_at "k1 def")
    (case d13 => walk_at "k1 def")
    (case d14 => walk_at "k1 def")
    (case d15 => walk_at "k1 def")
    (case d16 => walk_at "k1 def")
    (case d17 => walk_at "k1 def c")
    (case d18 => walk_at "k1 def")
    (case d19 => walk_at "k1 def")
    (case z_isinstance => k_is)
    (case z_int => k_is)
    (case z_bool => k_is)
    (case z_str => k_is)
    (case z_len => k_is)
    (case z_all => k_is)
    (case z_list => k_is)
    (case z_tuple => k_is)
    (case z_dict => k_is)
    (case z_range => k_is)
    (case z_repr => k_is)
    (case g_ROUND => k_is)
    (case g_LONGEST => k_is)
    (case g_DEEPEST => k_is)
    (case g_LETTERS => k_is)
    (case g_NUM => k_is)
    (case g_SUM => k_is)
    (case g_LESS => k_is)
    (case g_TIMES => k_is)
    (case g_OVER => k_is)
    (case g_BELOW => k_is)
    (case gW => k_is)
    (case lW => k_is)
    (case lC => k_is)
    (case vP => rfl)
    (case nP => first | kernel_rfl | k_is | rfl)
