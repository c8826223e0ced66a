import PyProof.Rows.All
import Wide.All
import HandS.Text
import KE.DataMinMax
import OpenK.AllK
import Wide.FinOn
import KE.KDictKeyed
import HandS.ForMost
import KE.SortData
import KE.KDictPairs
import HandS.IsInst
import HandS.Lambda
import HandS.Nested
import HandS.EndTab
import HandS.Strs
import HandS.SetBool
import PySem.Challenge.RW_midferry_k16_nought_one_and_bounds
import HandS.Style
import HandS.Walk
import HandS.Conv
import HandS.NoneIn
import HandS.More
import HandS.Codes
import KE.KDictZip
import HandS.Iter
import HandS.Flow
import HandS.Deep
import HandS.TryOnly
import HandS.TupAny
import HandS.Dict
import KE.KxIndex
set_option Elab.async false
set_option linter.all false
set_option maxRecDepth 100000
set_option maxHeartbeats 4000000
/-! ## repr of texts told back -/
namespace RI
open PySem
def esc (q : Nat) (l : List Nat) : List Nat := l.flatMap fun c => if c = q ∨ c = 92 then [92, c] else [c]
theorem esc_cons (q c : Nat) (l : List Nat) : esc q (c :: l) = (if c = q ∨ c = 92 then [92, c] else [c]) ++ esc q l := rfl
theorem esc_inj {q : Nat} (hq : q ≠ 92) : ∀ (l l' r r' : List Nat), esc q l ++ q :: r = esc q l' ++ q :: r' → l = l' ∧ r = r'
  | [], [], r, r', h => by
    have z : q :: r = q :: r' := h
    exact ⟨rfl, (List.cons.inj z).2⟩
  | [], c :: l', r, r', h => by
    rw [esc_cons] at h
    have z : q :: r = (if c = q ∨ c = 92 then [92, c] else [c]) ++ esc q l' ++ q :: r' := h
    by_cases e : c = q ∨ c = 92
    · rw [if_pos e] at z
      exact absurd (List.cons.inj z).1 hq
    · rw [if_neg e] at z
      exact absurd (.inl (List.cons.inj z).1.symm) e
  | c :: l, [], r, r', h => by
    rw [esc_cons] at h
    have z : (if c = q ∨ c = 92 then [92, c] else [c]) ++ esc q l ++ q :: r = q :: r' := h
    by_cases e : c = q ∨ c = 92
    · rw [if_pos e] at z
      exact absurd (List.cons.inj z).1.symm hq
    · rw [if_neg e] at z
      exact absurd (.inl (List.cons.inj z).1) e
  | c :: l, c' :: l', r, r', h => by
    rw [esc_cons, esc_cons, List.append_assoc, List.append_assoc] at h
    by_cases e : c = q ∨ c = 92 <;> by_cases e' : c' = q ∨ c' = 92
    · rw [if_pos e, if_pos e'] at h
      have z := (List.cons.inj (List.cons.inj h).2)
      obtain ⟨h1, h2⟩ := esc_inj hq l l' r r' z.2
      exact ⟨by rw [z.1, h1], h2⟩
    · rw [if_pos e, if_neg e'] at h
      exact absurd (.inr (List.cons.inj h).1.symm) e'
    · rw [if_neg e, if_pos e'] at h
      exact absurd (.inr (List.cons.inj h).1) e
    · rw [if_neg e, if_neg e'] at h
      have z := List.cons.inj h
      obtain ⟨h1, h2⟩ := esc_inj hq l l' r r' z.2
      exact ⟨by rw [z.1, h1], h2⟩
/-- signs from the blank to the tilde -/
def Pr (x : Str) : Prop := ∀ c ∈ x.cps.toList, 32 ≤ c ∧ c ≤ 126
theorem char39 : ∀ c ∈ List.range 127, 32 ≤ c → PySem.Builtin.Str.reprChar 39 c = if c = 39 ∨ c = 92 then [92, c] else [c] := by decide +kernel
theorem char34 : ∀ c ∈ List.range 127, 32 ≤ c → PySem.Builtin.Str.reprChar 34 c = if c = 34 ∨ c = 92 then [92, c] else [c] := by decide +kernel
theorem quote_or (x : Str) : reprQuote x = 39 ∨ reprQuote x = 34 := by
  unfold reprQuote
  split
  · exact .inr rfl
  · exact .inl rfl
theorem fold_esc {q : Nat} (hc : ∀ c ∈ List.range 127, 32 ≤ c → PySem.Builtin.Str.reprChar q c = if c = q ∨ c = 92 then [92, c] else [c]) : ∀ (l : List Nat) (out : Array Nat), (∀ c ∈ l, 32 ≤ c ∧ c ≤ 126) →
    (l.foldl (fun o c => o ++ (PySem.Builtin.Str.reprChar q c).toArray) out).toList = out.toList ++ esc q l
  | [], out, _ => by simp [esc]
  | c :: r, out, h => by
    rw [List.foldl_cons, fold_esc hc r _ (fun x hx => h x (List.mem_cons_of_mem _ hx)), Array.toList_append, esc_cons, List.append_assoc]
    have z := h c List.mem_cons_self
    rw [hc c (List.mem_range.mpr (by omega)) z.1]
theorem repr_codes {x : Str} (h : Pr x) : (reprText x).cps.toList = reprQuote x :: (esc (reprQuote x) x.cps.toList ++ [reprQuote x]) := by
  have hc : ∀ c ∈ List.range 127, 32 ≤ c → PySem.Builtin.Str.reprChar (reprQuote x) c = if c = reprQuote x ∨ c = 92 then [92, c] else [c] := by
    rcases quote_or x with e | e
    · rw [e]; exact char39
    · rw [e]; exact char34
  show ((x.cps.foldl (fun out c => out ++ (PySem.Builtin.Str.reprChar (reprQuote x) c).toArray) #[reprQuote x]).push (reprQuote x)).toList = _
  rw [Array.toList_push, ← Array.foldl_toList, fold_esc hc _ _ h]
  rfl
/-- a text's repr, and what stands behind it, tell the text -/
theorem repr_inj {x y : Str} (hx : Pr x) (hy : Pr y) {r r' : List Nat} (h : (reprText x).cps.toList ++ r = (reprText y).cps.toList ++ r') : x = y ∧ r = r' := by
  rw [repr_codes hx, repr_codes hy] at h
  have z := List.cons.inj h
  have q92 : reprQuote y ≠ 92 := by
    rcases quote_or y with e | e <;> rw [e] <;> decide
  have w : (esc (reprQuote x) x.cps.toList ++ [reprQuote x]) ++ r = (esc (reprQuote y) y.cps.toList ++ [reprQuote y]) ++ r' := z.2
  rw [z.1, List.append_assoc, List.append_assoc] at w
  obtain ⟨h1, h2⟩ := esc_inj q92 _ _ _ _ w
  refine ⟨?_, h2⟩
  cases x
  cases y
  exact congrArg Str.mk (Array.toList_inj.mp h1)
end RI
set_option Elab.async false
set_option linter.all false
set_option maxRecDepth 100000
set_option maxHeartbeats 4000000
/-! ## sums of atoms, sorted, by factors -/
namespace SU
abbrev Sm (α : Type) := Int × List (α × Int)
/-- an order of atoms -/
structure Lo (α : Type) (lt : α → α → Prop) : Prop where
  irr : ∀ a, ¬ lt a a
  tr : ∀ a b c, lt a b → lt b c → lt a c
  tri : ∀ a b, lt a b ∨ a = b ∨ lt b a
theorem Lo.int : Lo Int (· < ·) := ⟨fun a => Int.lt_irrefl a, fun _ _ _ => Int.lt_trans, fun a b => by omega⟩
section
variable {α : Type} [DecidableEq α] {lt : α → α → Prop} [DecidableRel lt]
def cf : List (α × Int) → α → Int
  | [], _ => 0
  | (b, f) :: r, a => if b = a then f else cf r a
structure Cn (lt : α → α → Prop) (rows : List (α × Int)) : Prop where
  srt : rows.Pairwise fun p q => lt p.1 q.1
  rng : ∀ p ∈ rows, 0 < p.2 ∧ p.2 < 65536
theorem Cn.nil : Cn lt ([] : List (α × Int)) := ⟨.nil, fun _ h => nomatch h⟩
theorem Cn.tail {p : α × Int} {r : List (α × Int)} (h : Cn lt (p :: r)) : Cn lt r := ⟨(List.pairwise_cons.mp h.srt).2, fun q hq => h.rng q (List.mem_cons_of_mem _ hq)⟩
theorem cf_mem : ∀ {r : List (α × Int)} {a : α}, cf r a ≠ 0 → ∃ p ∈ r, p.1 = a
  | [], _, h => absurd rfl h
  | (b, f) :: r, a, h => by
    by_cases e : b = a
    · exact ⟨_, List.mem_cons_self, e⟩
    · rw [cf, if_neg e] at h
      obtain ⟨p, hp, z⟩ := cf_mem h
      exact ⟨p, List.mem_cons_of_mem _ hp, z⟩
theorem cf_out {r : List (α × Int)} {a : α} (h : ∀ p ∈ r, p.1 ≠ a) : cf r a = 0 := by
  cases Int.decEq (cf r a) 0 with
  | isTrue e => exact e
  | isFalse e =>
    obtain ⟨p, hp, z⟩ := cf_mem e
    exact absurd z (h p hp)
theorem cf_in (O : Lo α lt) : ∀ {r : List (α × Int)} {a : α} {f : Int}, r.Pairwise (fun p q => lt p.1 q.1) → (a, f) ∈ r → cf r a = f
  | (b, g) :: r, a, f, hs, h => by
    obtain ⟨h1, h2⟩ := List.pairwise_cons.mp hs
    rcases List.mem_cons.mp h with e | e
    · cases e
      rw [cf, if_pos rfl]
    · have ne : b ≠ a := fun z => by
        have := h1 (a, f) e
        rw [z] at this
        exact O.irr _ this
      rw [cf, if_neg ne]
      exact cf_in O h2 e
theorem cf_rng (O : Lo α lt) {r : List (α × Int)} (h : Cn lt r) (a : α) : 0 ≤ cf r a ∧ cf r a < 65536 := by
  cases Int.decEq (cf r a) 0 with
  | isTrue e => rw [e]; decide
  | isFalse e =>
    obtain ⟨⟨b, f⟩, hp, z⟩ := cf_mem e
    have z' : b = a := z
    rw [← z', cf_in O h.srt hp]
    have := h.rng _ hp
    exact ⟨Int.le_of_lt this.1, this.2⟩
theorem cn_ext (O : Lo α lt) : ∀ {r s : List (α × Int)}, Cn lt r → Cn lt s → (∀ a, cf r a = cf s a) → r = s
  | [], [], _, _, _ => rfl
  | [], (b, f) :: s, _, h, e => by
    have := e b
    rw [cf, cf, if_pos rfl] at this
    have z : 0 < f ∧ f < 65536 := h.rng (b, f) List.mem_cons_self
    have y := z.1
    rw [← this] at y
    exact absurd y (Int.lt_irrefl 0)
  | (b, f) :: r, [], h, _, e => by
    have := e b
    rw [cf, cf, if_pos rfl] at this
    have z : 0 < f ∧ f < 65536 := h.rng (b, f) List.mem_cons_self
    have y := z.1
    rw [this] at y
    exact absurd y (Int.lt_irrefl 0)
  | (a, f) :: r, (b, g) :: s, h, k, e => by
    have hf : 0 < f ∧ f < 65536 := h.rng (a, f) List.mem_cons_self
    have hg : 0 < g ∧ g < 65536 := k.rng (b, g) List.mem_cons_self
    obtain ⟨h1, h2⟩ := List.pairwise_cons.mp h.srt
    obtain ⟨k1, k2⟩ := List.pairwise_cons.mp k.srt
    have ab : a = b := by
      rcases O.tri a b with z | z | z
      · exfalso
        have q := e a
        rw [cf, if_pos rfl, cf, if_neg (fun (y : b = a) => O.irr a (y ▸ z)), cf_out (fun p hp (y : p.1 = a) => O.irr a (O.tr _ _ _ z (y ▸ k1 p hp)))] at q
        rw [q] at hf
        exact absurd hf.1 (by decide)
      · exact z
      · exfalso
        have q := e b
        rw [cf, if_neg (fun (y : a = b) => O.irr b (y ▸ z)), cf_out (fun p hp (y : p.1 = b) => O.irr b (O.tr _ _ _ z (y ▸ h1 p hp))), cf, if_pos rfl] at q
        rw [← q] at hg
        exact absurd hg.1 (by decide)
    subst ab
    have fg := e a
    rw [cf, if_pos rfl, cf, if_pos rfl] at fg
    subst fg
    have := cn_ext O h.tail k.tail fun c => by
      by_cases ec : a = c
      · subst ec
        rw [cf_out (fun p hp (y : p.1 = a) => O.irr a (y ▸ h1 p hp)), cf_out (fun p hp (y : p.1 = a) => O.irr a (y ▸ k1 p hp))]
      · have q := e c
        rw [cf, if_neg ec, cf, if_neg ec] at q
        exact q
    rw [this]
/-- a factor more of an atom -/
def ins (lt : α → α → Prop) [DecidableRel lt] (a : α) (f : Int) : List (α × Int) → List (α × Int)
  | [] => if f % 65536 = 0 then [] else [(a, f % 65536)]
  | (b, g) :: r => if a = b then (if (g + f) % 65536 = 0 then r else (a, (g + f) % 65536) :: r)
    else if lt a b then (if f % 65536 = 0 then (b, g) :: r else (a, f % 65536) :: (b, g) :: r) else (b, g) :: ins lt a f r
theorem ins_mem {a : α} {f : Int} : ∀ {r : List (α × Int)} {p : α × Int}, p ∈ ins lt a f r → p.1 = a ∨ p ∈ r
  | [], p, h => by
    unfold ins at h
    split at h
    · cases h
    · rw [List.mem_singleton.mp h]; exact .inl rfl
  | (b, g) :: r, p, h => by
    unfold ins at h
    split at h
    · split at h
      · exact .inr (List.mem_cons_of_mem _ h)
      · rcases List.mem_cons.mp h with e | e
        · rw [e]; exact .inl rfl
        · exact .inr (List.mem_cons_of_mem _ e)
    · split at h
      · split at h
        · exact .inr h
        · rcases List.mem_cons.mp h with e | e
          · rw [e]; exact .inl rfl
          · exact .inr e
      · rcases List.mem_cons.mp h with e | e
        · rw [e]; exact .inr List.mem_cons_self
        · rcases ins_mem e with z | z
          · exact .inl z
          · exact .inr (List.mem_cons_of_mem _ z)
theorem mod_rng {x : Int} (h : x % 65536 ≠ 0) : 0 < x % 65536 ∧ x % 65536 < 65536 := by omega
theorem ins_cn (O : Lo α lt) {a : α} {f : Int} : ∀ {r : List (α × Int)}, Cn lt r → Cn lt (ins lt a f r)
  | [], h => by
    unfold ins
    split
    · exact h
    · exact ⟨List.pairwise_singleton _ _, fun p hp => by rw [List.mem_singleton.mp hp]; exact mod_rng (by assumption)⟩
  | (b, g) :: r, h => by
    obtain ⟨h1, h2⟩ := List.pairwise_cons.mp h.srt
    unfold ins
    split
    · rename_i e
      subst e
      split
      · exact h.tail
      · refine ⟨List.pairwise_cons.mpr ⟨h1, h2⟩, fun p hp => ?_⟩
        rcases List.mem_cons.mp hp with e | e
        · rw [e]; exact mod_rng (by assumption)
        · exact h.rng p (List.mem_cons_of_mem _ e)
    · split
      · rename_i e
        split
        · exact h
        · refine ⟨List.pairwise_cons.mpr ⟨fun q hq => ?_, h.srt⟩, fun p hp => ?_⟩
          · rcases List.mem_cons.mp hq with z | z
            · rw [z]; exact e
            · exact O.tr _ _ _ e (h1 q z)
          · rcases List.mem_cons.mp hp with e | e
            · rw [e]; exact mod_rng (by assumption)
            · exact h.rng p e
      · have ih := ins_cn O (a := a) (f := f) h.tail
        rename_i n1 n2
        refine ⟨List.pairwise_cons.mpr ⟨fun q hq => ?_, ih.srt⟩, fun p hp => ?_⟩
        · rcases ins_mem hq with z | z
          · rcases O.tri a b with y | y | y
            · exact absurd y n2
            · exact absurd y n1
            · show lt b q.1
              rw [z]; exact y
          · exact h1 q z
        · rcases List.mem_cons.mp hp with e | e
          · rw [e]; exact h.rng _ List.mem_cons_self
          · exact ih.rng p e
theorem cf_ins (O : Lo α lt) {a : α} {f : Int} : ∀ {r : List (α × Int)}, Cn lt r → ∀ c, cf (ins lt a f r) c = if c = a then (cf r a + f) % 65536 else cf r c
  | [], h, c => by
    have e0 : cf ([] : List (α × Int)) a = 0 := rfl
    have e1 : cf ([] : List (α × Int)) c = 0 := rfl
    unfold ins
    rw [e0, e1, Int.zero_add]
    split
    · rename_i z
      rw [z]
      split <;> rfl
    · by_cases e : c = a
      · rw [if_pos e, e, cf, if_pos rfl]
      · rw [if_neg e, cf, if_neg (Ne.symm e)]
        rfl
  | (b, g) :: r, h, c => by
    obtain ⟨h1, h2⟩ := List.pairwise_cons.mp h.srt
    have out : cf r b = 0 := cf_out fun p hp z => O.irr b (z ▸ h1 p hp)
    unfold ins
    split
    · rename_i e
      subst e
      have e1 : cf ((a, g) :: r) a = g := by rw [cf, if_pos rfl]
      rw [e1]
      split
      · rename_i z
        by_cases ec : c = a
        · rw [if_pos ec, ec, out, z]
        · rw [if_neg ec, cf, if_neg (Ne.symm ec)]
      · by_cases ec : c = a
        · rw [if_pos ec, ec, cf, if_pos rfl]
        · rw [if_neg ec, cf, if_neg (Ne.symm ec), cf, if_neg (Ne.symm ec)]
    · rename_i nab
      split
      · rename_i lab
        have outa : cf ((b, g) :: r) a = 0 := cf_out fun p hp z => by
          rcases List.mem_cons.mp hp with e | e
          · rw [e] at z
            exact nab z.symm
          · exact O.irr a (O.tr _ _ _ lab (z ▸ h1 p e))
        rw [outa, Int.zero_add]
        split
        · rename_i z
          by_cases ec : c = a
          · rw [if_pos ec, ec, outa, z]
          · rw [if_neg ec]
        · by_cases ec : c = a
          · rw [if_pos ec, ec, cf, if_pos rfl]
          · rw [if_neg ec, cf, if_neg (Ne.symm ec)]
      · by_cases eb : b = c
        · have nc : c ≠ a := fun z => nab (by rw [← z, eb])
          rw [cf, if_pos eb, if_neg nc, cf, if_pos eb]
        · rw [cf, if_neg eb, cf_ins O h.tail c, cf, if_neg (Ne.symm nab), cf, if_neg eb]
/-- rows more, so many times -/
def insAll (lt : α → α → Prop) [DecidableRel lt] (k : Int) (acc : List (α × Int)) (rows : List (α × Int)) : List (α × Int) := rows.foldl (fun acc p => ins lt p.1 (p.2 * k) acc) acc
theorem insAll_cn (O : Lo α lt) {k : Int} : ∀ {rows acc : List (α × Int)}, Cn lt acc → Cn lt (insAll lt k acc rows)
  | [], _, h => h
  | p :: r, acc, h => insAll_cn O (rows := r) (ins_cn O h)
theorem cf_insAll (O : Lo α lt) {k : Int} : ∀ {rows acc : List (α × Int)}, Cn lt acc → rows.Pairwise (fun p q => lt p.1 q.1) → ∀ c, cf (insAll lt k acc rows) c = if (∃ p ∈ rows, p.1 = c) then (cf acc c + cf rows c * k) % 65536 else cf acc c
  | [], _, h, _, c => by
    rw [if_neg (by rintro ⟨p, hp, _⟩; cases hp)]
    rfl
  | (a, f) :: r, acc, h, hs, c => by
    obtain ⟨h1, h2⟩ := List.pairwise_cons.mp hs
    have ih := cf_insAll O (k := k) (rows := r) (acc := ins lt a (f * k) acc) (ins_cn O h) h2 c
    show cf (insAll lt k (ins lt a (f * k) acc) r) c = _
    rw [ih, cf_ins O h]
    by_cases e : c = a
    · subst e
      have no : ¬ ∃ p ∈ r, p.1 = c := by
        rintro ⟨p, hp, z⟩
        exact O.irr c (z ▸ h1 p hp)
      rw [if_neg no, if_pos rfl, if_pos ⟨_, List.mem_cons_self, rfl⟩, cf, if_pos rfl]
    · rw [if_neg e, cf, if_neg (Ne.symm e)]
      by_cases i : ∃ p ∈ r, p.1 = c
      · rw [if_pos i, if_pos]
        obtain ⟨p, hp, z⟩ := i
        exact ⟨p, List.mem_cons_of_mem _ hp, z⟩
      · rw [if_neg i, if_neg]
        rintro ⟨p, hp, z⟩
        rcases List.mem_cons.mp hp with y | y
        · rw [y] at z
          exact e z.symm
        · exact i ⟨p, y, z⟩
/-- two sums together, the other so many times -/
def addBy (lt : α → α → Prop) [DecidableRel lt] (x y : Sm α) (k : Int) : Sm α := ((x.1 + y.1 * k) % 65536, insAll lt k x.2 y.2)
structure Ok (lt : α → α → Prop) (x : Sm α) : Prop where
  n0 : 0 ≤ x.1
  n1 : x.1 < 65536
  cn : Cn lt x.2
theorem Ok.nil : Ok lt ((0, []) : Sm α) := ⟨Int.le_refl 0, (by decide : (0 : Int) < 65536), .nil⟩
theorem addBy_ok (O : Lo α lt) {x y : Sm α} {k : Int} (hx : Ok lt x) : Ok lt (addBy lt x y k) := ⟨Int.emod_nonneg _ (by decide), Int.emod_lt_of_pos _ (by decide), insAll_cn O hx.cn⟩
theorem cf_addBy (O : Lo α lt) {x y : Sm α} {k : Int} (hx : Ok lt x) (hy : Ok lt y) (c : α) : cf (addBy lt x y k).2 c = (cf x.2 c + cf y.2 c * k) % 65536 := by
  show cf (insAll lt k x.2 y.2) c = _
  rw [cf_insAll O hx.cn hy.cn.srt]
  split
  · rfl
  · rename_i h
    have z : cf y.2 c = 0 := cf_out fun p hp e => h ⟨p, hp, e⟩
    have r := cf_rng O hx.cn c
    rw [z, Int.zero_mul, Int.add_zero, Int.emod_eq_of_lt r.1 r.2]
theorem ok_ext (O : Lo α lt) {x y : Sm α} (hx : Ok lt x) (hy : Ok lt y) (h1 : x.1 = y.1) (h2 : ∀ c, cf x.2 c = cf y.2 c) : x = y := Prod.ext h1 (cn_ext O hx.cn hy.cn h2)
def single (a : α) : Sm α := (0, [(a, 1)])
theorem single_ok (a : α) : Ok lt (single a) := ⟨Int.le_refl 0, (by decide : (0 : Int) < 65536), ⟨List.pairwise_singleton _ _, fun p hp => by rw [List.mem_singleton.mp hp]; exact (by decide : (0 : Int) < 1 ∧ (1 : Int) < 65536)⟩⟩
theorem cf_single (a c : α) : cf (single a).2 c = if a = c then 1 else 0 := rfl
def neg (lt : α → α → Prop) [DecidableRel lt] (x : Sm α) : Sm α := addBy lt (0, []) x 65535
theorem neg_ok (O : Lo α lt) {x : Sm α} : Ok lt (neg lt x) := addBy_ok O .nil
theorem neg_neg (O : Lo α lt) {x : Sm α} (hx : Ok lt x) : neg lt (neg lt x) = x := by
  refine ok_ext O (neg_ok O) hx ?_ fun c => ?_
  · show (0 + (0 + x.1 * 65535) % 65536 * 65535) % 65536 = x.1
    have := hx.n0
    have := hx.n1
    omega
  · unfold neg
    rw [cf_addBy O .nil (addBy_ok O .nil), cf_addBy O .nil hx]
    show (0 + (0 + cf x.2 c * 65535) % 65536 * 65535) % 65536 = _
    have := cf_rng O hx.cn c
    omega
/-- the other way about -/
theorem gap_back (O : Lo α lt) {x y : Sm α} (hx : Ok lt x) (hy : Ok lt y) : neg lt (addBy lt x y 65535) = addBy lt y x 65535 := by
  refine ok_ext O (neg_ok O) (addBy_ok O hy) ?_ fun c => ?_
  · show (0 + (x.1 + y.1 * 65535) % 65536 * 65535) % 65536 = (y.1 + x.1 * 65535) % 65536
    omega
  · unfold neg
    rw [cf_addBy O .nil (addBy_ok O hx), cf_addBy O hx hy, cf_addBy O hy hx]
    show (0 + (cf x.2 c + cf y.2 c * 65535) % 65536 * 65535) % 65536 = (cf y.2 c + cf x.2 c * 65535) % 65536
    omega
/-! ### the number of a sum -/
def tot (ν : α → Int) (rows : List (α × Int)) : Int := (rows.map fun p => p.2 * ν p.1).sum
theorem tot_cons (ν : α → Int) (p : α × Int) (r : List (α × Int)) : tot ν (p :: r) = p.2 * ν p.1 + tot ν r := by simp [tot]
def vl (ν : α → Int) (x : Sm α) : Int := (x.1 + tot ν x.2) % 65536
theorem mul_mod_l (a b : Int) : (a % 65536 * b) % 65536 = (a * b) % 65536 := by rw [Int.mul_emod, Int.emod_emod, ← Int.mul_emod]
theorem tot_ins {lt : α → α → Prop} [DecidableRel lt] (ν : α → Int) {a : α} {f : Int} : ∀ r : List (α × Int), tot ν (ins lt a f r) % 65536 = (tot ν r + f * ν a) % 65536
  | [] => by
    unfold ins
    have z : tot ν ([] : List (α × Int)) = 0 := rfl
    split
    · rename_i e
      have q : (f * ν a) % 65536 = 0 := by
        rw [Int.mul_emod, e, Int.zero_mul]
        rfl
      rw [z, Int.zero_add, q]
      rfl
    · rw [tot_cons, z, Int.add_zero, Int.zero_add]
      exact mul_mod_l _ _
  | (b, g) :: r => by
    unfold ins
    split
    · rename_i e
      subst e
      have q : ((g + f) * ν a) % 65536 = (((g + f) % 65536) * ν a) % 65536 := (mul_mod_l _ _).symm
      split
      · rename_i z
        rw [z, Int.zero_mul] at q
        rw [tot_cons]
        show tot ν r % 65536 = (g * ν a + tot ν r + f * ν a) % 65536
        rw [Int.add_mul] at q
        omega
      · rw [tot_cons, tot_cons]
        show ((g + f) % 65536 * ν a + tot ν r) % 65536 = (g * ν a + tot ν r + f * ν a) % 65536
        rw [Int.add_mul] at q
        omega
    · have q : (f * ν a) % 65536 = ((f % 65536) * ν a) % 65536 := (mul_mod_l _ _).symm
      split
      · split
        · rename_i z
          rw [z, Int.zero_mul] at q
          omega
        · rw [tot_cons]
          show (f % 65536 * ν a + tot ν ((b, g) :: r)) % 65536 = _
          omega
      · rw [tot_cons, tot_cons]
        have ih := tot_ins (lt := lt) ν (a := a) (f := f) r
        show (g * ν b + tot ν (ins lt a f r)) % 65536 = (g * ν b + tot ν r + f * ν a) % 65536
        omega
theorem tot_insAll {lt : α → α → Prop} [DecidableRel lt] (ν : α → Int) {k : Int} : ∀ rows acc : List (α × Int), tot ν (insAll lt k acc rows) % 65536 = (tot ν acc + k * tot ν rows) % 65536
  | [], acc => by
    show tot ν acc % 65536 = (tot ν acc + k * 0) % 65536
    rw [Int.mul_zero, Int.add_zero]
  | p :: r, acc => by
    show tot ν (insAll lt k (ins lt p.1 (p.2 * k) acc) r) % 65536 = _
    rw [tot_insAll ν r, tot_cons]
    have z := tot_ins (lt := lt) ν (a := p.1) (f := p.2 * k) acc
    have e : k * (p.2 * ν p.1 + tot ν r) = p.2 * k * ν p.1 + k * tot ν r := by
      rw [Int.mul_add, ← Int.mul_assoc, Int.mul_comm k p.2]
    rw [e]
    omega
theorem vl_addBy (ν : α → Int) (x y : Sm α) (k : Int) : vl ν (addBy lt x y k) = (vl ν x + vl ν y * k) % 65536 := by
  show ((x.1 + y.1 * k) % 65536 + tot ν (insAll lt k x.2 y.2)) % 65536 = ((x.1 + tot ν x.2) % 65536 + (y.1 + tot ν y.2) % 65536 * k) % 65536
  have z := tot_insAll (lt := lt) ν (k := k) y.2 x.2
  have e : ((y.1 + tot ν y.2) % 65536 * k) % 65536 = ((y.1 + tot ν y.2) * k) % 65536 := mul_mod_l _ _
  have e2 : (y.1 + tot ν y.2) * k = y.1 * k + k * tot ν y.2 := by rw [Int.add_mul, Int.mul_comm (tot ν y.2) k]
  rw [e2] at e
  omega
theorem vl_rng (ν : α → Int) (x : Sm α) : 0 ≤ vl ν x ∧ vl ν x < 65536 := ⟨Int.emod_nonneg _ (by decide), Int.emod_lt_of_pos _ (by decide)⟩
theorem vl_num {ν : α → Int} {x : Sm α} (h : x.2 = []) (h0 : 0 ≤ x.1) (h1 : x.1 < 65536) : vl ν x = x.1 := by
  unfold vl
  rw [h]
  show (x.1 + 0) % 65536 = x.1
  omega
theorem tot_congr {ν μ : α → Int} : ∀ {r : List (α × Int)}, (∀ p ∈ r, ν p.1 = μ p.1) → tot ν r = tot μ r
  | [], _ => rfl
  | p :: r, h => by
    rw [tot_cons, tot_cons, h p List.mem_cons_self, tot_congr fun q hq => h q (List.mem_cons_of_mem _ hq)]
end
end SU
set_option Elab.async false
set_option linter.all false
set_option maxRecDepth 100000
set_option maxHeartbeats 4000000
/-! ## sums by numbers of atoms, sums by texts -/
namespace SU
open PySem RI
abbrev cd (x : Str) : List Nat := x.cps.toList
theorem cd_inj {x y : Str} (h : cd x = cd y) : x = y := by
  cases x
  cases y
  exact congrArg Str.mk (Array.toList_inj.mp h)
theorem cd_app (x y : Str) : cd (x ++ y) = cd x ++ cd y := Array.toList_append
def ltS (x y : Str) : Prop := x.cps.toList < y.cps.toList
instance : DecidableRel ltS := fun x y => inferInstanceAs (Decidable (x.cps.toList < y.cps.toList))
theorem Lo.str : Lo Str ltS := by
  refine ⟨fun a => List.lt_irrefl _, fun a b c h1 h2 => List.lt_trans h1 h2, fun a b => ?_⟩
  by_cases h1 : ltS a b
  · exact .inl h1
  · by_cases h2 : ltS b a
    · exact .inr (.inr h2)
    · exact .inr (.inl (cd_inj (List.le_antisymm (List.not_lt.mp h2) (List.not_lt.mp h1))))
abbrev PS := Sm Int
abbrev LS := Sm Str
abbrev ltI : Int → Int → Prop := fun a b => a < b
/-! ### data of sums -/
def rP (p : Int × Int) : PyData := .tuple [.int p.1, .int p.2]
def dP (p : PS) : PyData := .tuple [.int p.1, .tuple (p.2.map rP)]
def rL (p : Str × Int) : PyData := .tuple [.str p.1, .int p.2]
def dL (l : LS) : PyData := .tuple [.int l.1, .tuple (l.2.map rL)]
def ltP (p q : PS) : Prop := PySem.W.dataLt (dP p) (dP q) = true
instance : DecidableRel ltP := fun p q => inferInstanceAs (Decidable (_ = true))
open PySem.W in
theorem toks_rows : ∀ (r s : List (Int × Int)) (x y : List (Int ⊕ List Nat)), keyToksAll (r.map rP) ++ x = keyToksAll (s.map rP) ++ y → r = s
  | [], [], _, _, _ => rfl
  | [], q :: s, x, y, h => by
    have z := (List.cons.inj h).1
    exact absurd (Sum.inl.inj z) (by decide)
  | p :: r, [], x, y, h => by
    have z := (List.cons.inj h).1
    exact absurd (Sum.inl.inj z) (by decide)
  | (i, f) :: r, (j, g) :: s, x, y, h => by
    have h1 := (List.cons.inj h).2
    have h2 := (List.cons.inj h1).2
    have h3 := List.cons.inj h2
    have h4 := (List.cons.inj h3.2).2
    have h5 := List.cons.inj h4
    have h6 := (List.cons.inj h5.2).2
    have e1 : i = j := Sum.inl.inj h3.1
    have e2 : f = g := Sum.inl.inj h5.1
    have e3 := toks_rows r s x y h6
    rw [e1, e2, e3]
open PySem.W in
theorem toks_inj {p q : PS} (h : keyToks (dP p) = keyToks (dP q)) : p = q := by
  have h1 := (List.cons.inj h).2
  have h2 := List.cons.inj h1
  have h3 := (List.cons.inj h2.2).2
  exact Prod.ext (Sum.inl.inj h2.1) (toks_rows _ _ _ _ h3)
open PySem.W in
theorem Lo.sum : Lo PS ltP := by
  refine ⟨fun a h => ?_, fun a b c h1 h2 => PyProof.Rows.lex_trans _ _ _ h1 h2, fun a b => ?_⟩
  · have z := PyProof.Rows.lex_irrefl (O := PyProof.Rows.itemOrd) (keyToks (dP a))
    exact absurd (z.symm.trans h) (by decide)
  · cases h1 : dataLt (dP a) (dP b) with
    | true => exact .inl h1
    | false =>
      cases h2 : dataLt (dP b) (dP a) with
      | true => exact .inr (.inr h2)
      | false => exact .inr (.inl (toks_inj (PyProof.Rows.lex_total _ _ h1 h2)))
/-! ### texts of sums told back -/
theorem cut_at {s : Nat} : ∀ {a b r r' : List Nat}, s ∉ a → s ∉ b → a ++ s :: r = b ++ s :: r' → a = b ∧ r = r'
  | [], [], r, r', _, _, h => ⟨rfl, (List.cons.inj h).2⟩
  | [], y :: b, r, r', _, hb, h => absurd (List.mem_cons.mpr (.inl (List.cons.inj h).1)) hb
  | x :: a, [], r, r', ha, _, h => absurd (List.mem_cons.mpr (.inl (List.cons.inj h).1.symm)) ha
  | x :: a, y :: b, r, r', ha, hb, h => by
    obtain ⟨h1, h2⟩ := List.cons.inj h
    obtain ⟨e1, e2⟩ := cut_at (fun z => ha (List.mem_cons_of_mem _ z)) (fun z => hb (List.mem_cons_of_mem _ z)) h2
    exact ⟨by rw [h1, e1], e2⟩
abbrev nC (n : Int) : List Nat := cd (Str.ofString (toString n))
theorem nC_nat (n : Nat) : nC (n : Int) = TL.numL n := TL.tl_num n
theorem num_digits {n : Int} (h : 0 ≤ n) : ∀ c ∈ nC n, 48 ≤ c ∧ c ≤ 57 := by
  obtain ⟨k, rfl⟩ := Int.eq_ofNat_of_zero_le h
  rw [nC_nat]
  intro c hc
  have h1 : ¬ (c < 48 ∨ 57 < c) := fun z => TL.numL_free (n := k) (s := c) z hc
  omega
theorem num_inj {n m : Int} (hn : 0 ≤ n) (hm : 0 ≤ m) {s : Nat} (hs : s < 48) {r r' : List Nat} (h : nC n ++ s :: r = nC m ++ s :: r') : n = m ∧ r = r' := by
  obtain ⟨e1, e2⟩ := cut_at (fun z => by have := num_digits hn s z; omega) (fun z => by have := num_digits hm s z; omega) h
  obtain ⟨k, rfl⟩ := Int.eq_ofNat_of_zero_le hn
  obtain ⟨j, rfl⟩ := Int.eq_ofNat_of_zero_le hm
  rw [nC_nat, nC_nat] at e1
  have z := TL.numL_inj e1
  exact ⟨by rw [z], e2⟩
def rowC (p : Str × Int) : List Nat := 40 :: (cd (reprText p.1) ++ (44 :: 32 :: (nC p.2 ++ [41])))
def tlC : List (Str × Int) → List Nat
  | [] => [41]
  | p :: r => 44 :: 32 :: (rowC p ++ tlC r)
def rowsC : List (Str × Int) → List Nat
  | [] => [40, 41]
  | [p] => 40 :: (rowC p ++ [44, 41])
  | p :: q :: r => 40 :: (rowC p ++ tlC (q :: r))
def shC (l : LS) : List Nat := 40 :: (nC l.1 ++ (44 :: 32 :: (rowsC l.2 ++ [41])))
def sh (l : LS) : Str := (dL l).shown
theorem row_shown (p : Str × Int) : cd ((rL p).shown) = rowC p := by
  unfold rL
  simp only [PyData.shown, PyData.shownAll]
  show cd (("(" : Str) ++ (reprText p.1 ++ (", " : Str) ++ Str.ofString (toString p.2)) ++ (")" : Str)) = _
  rw [cd_app, cd_app, cd_app, cd_app]
  unfold rowC
  have e1 : cd ("(" : Str) = [40] := by decide +kernel
  have e2 : cd (", " : Str) = [44, 32] := by decide +kernel
  have e3 : cd (")" : Str) = [41] := by decide +kernel
  rw [e1, e2, e3]
  simp
theorem join_rows : ∀ (p : Str × Int) (r : List (Str × Int)), cd (Str.join ", " (PyData.shownAll ((p :: r).map rL))) ++ [41] = rowC p ++ tlC r
  | p, [] => by
    show cd (rL p).shown ++ [41] = _
    rw [row_shown]
    rfl
  | p, q :: r => by
    show cd ((rL p).shown ++ (", " : Str) ++ Str.join ", " (PyData.shownAll ((q :: r).map rL))) ++ [41] = _
    rw [cd_app, cd_app, List.append_assoc, join_rows q r, row_shown]
    have e2 : cd (", " : Str) = [44, 32] := by decide +kernel
    rw [e2, List.append_assoc]
    rfl
theorem rows_shown (r : List (Str × Int)) : cd (PyData.tuple (r.map rL)).shown = rowsC r := by
  have e1 : cd ("(" : Str) = [40] := by decide +kernel
  have e3 : cd (")" : Str) = [41] := by decide +kernel
  have e4 : cd (",)" : Str) = [44, 41] := by decide +kernel
  simp only [PyData.shown]
  cases r with
  | nil => decide +kernel
  | cons p r =>
    cases r with
    | nil =>
      show cd (("(" : Str) ++ (rL p).shown ++ (",)" : Str)) = _
      rw [cd_app, cd_app, e1, e4, row_shown]
      rfl
    | cons q r =>
      show cd (("(" : Str) ++ Str.join ", " (PyData.shownAll ((p :: q :: r).map rL)) ++ (")" : Str)) = _
      rw [cd_app, cd_app, e1, e3, List.append_assoc, join_rows]
      rfl
theorem sh_codes (l : LS) : cd (sh l) = shC l := by
  unfold sh dL
  simp only [PyData.shown, PyData.shownAll]
  show cd (("(" : Str) ++ (Str.ofString (toString l.1) ++ (", " : Str) ++ (PyData.tuple (l.2.map rL)).shown) ++ (")" : Str)) = _
  rw [cd_app, cd_app, cd_app, cd_app, rows_shown]
  unfold shC
  have e1 : cd ("(" : Str) = [40] := by decide +kernel
  have e2 : cd (", " : Str) = [44, 32] := by decide +kernel
  have e3 : cd (")" : Str) = [41] := by decide +kernel
  rw [e1, e2, e3]
  simp
theorem row_inj {p q : Str × Int} (hp : Pr p.1) (hq : Pr q.1) (fp : 0 ≤ p.2) (fq : 0 ≤ q.2) {r r' : List Nat} (h : rowC p ++ r = rowC q ++ r') : p = q ∧ r = r' := by
  unfold rowC at h
  have h1 := (List.cons.inj h).2
  simp only [List.append_eq, List.append_assoc] at h1
  obtain ⟨e1, h2⟩ := repr_inj hp hq h1
  have h3 := (List.cons.inj (List.cons.inj h2).2).2
  have h4 : nC p.2 ++ 41 :: r = nC q.2 ++ 41 :: r' := by simpa using h3
  obtain ⟨e2, e3⟩ := num_inj fp fq (by decide) h4
  exact ⟨Prod.ext e1 e2, e3⟩
def Pt (l : List (Str × Int)) : Prop := ∀ p ∈ l, Pr p.1 ∧ 0 ≤ p.2
theorem tl_inj : ∀ {l m : List (Str × Int)}, Pt l → Pt m → ∀ {r r' : List Nat}, tlC l ++ r = tlC m ++ r' → l = m ∧ r = r'
  | [], [], _, _, r, r', h => ⟨rfl, (List.cons.inj h).2⟩
  | [], q :: m, _, _, r, r', h => absurd (List.cons.inj h).1 (by decide)
  | p :: l, [], _, _, r, r', h => absurd (List.cons.inj h).1 (by decide)
  | p :: l, q :: m, hl, hm, r, r', h => by
    have h1 := (List.cons.inj (List.cons.inj h).2).2
    simp only [List.append_eq, List.append_assoc] at h1
    have zp := hl p List.mem_cons_self
    have zq := hm q List.mem_cons_self
    obtain ⟨e1, h2⟩ := row_inj zp.1 zq.1 zp.2 zq.2 h1
    obtain ⟨e2, e3⟩ := tl_inj (fun x hx => hl x (List.mem_cons_of_mem _ hx)) (fun x hx => hm x (List.mem_cons_of_mem _ hx)) h2
    exact ⟨by rw [e1, e2], e3⟩
theorem rows_inj : ∀ {l m : List (Str × Int)}, Pt l → Pt m → ∀ {r r' : List Nat}, rowsC l ++ r = rowsC m ++ r' → l = m ∧ r = r'
  | [], [], _, _, r, r', h => ⟨rfl, (List.cons.inj (List.cons.inj h).2).2⟩
  | [], [q], _, _, r, r', h => absurd (List.cons.inj (List.cons.inj h).2).1 (by decide)
  | [], q :: s :: m, _, _, r, r', h => absurd (List.cons.inj (List.cons.inj h).2).1 (by decide)
  | [q], [], _, _, r, r', h => absurd (List.cons.inj (List.cons.inj h).2).1 (by decide)
  | q :: s :: m, [], _, _, r, r', h => absurd (List.cons.inj (List.cons.inj h).2).1 (by decide)
  | [p], [q], hl, hm, r, r', h => by
    have h1 := (List.cons.inj h).2
    simp only [List.append_eq, List.append_assoc] at h1
    have zp := hl p List.mem_cons_self
    have zq := hm q List.mem_cons_self
    obtain ⟨e1, h2⟩ := row_inj zp.1 zq.1 zp.2 zq.2 h1
    exact ⟨by rw [e1], (List.cons.inj (List.cons.inj h2).2).2⟩
  | [p], q :: s :: m, hl, hm, r, r', h => by
    have h1 := (List.cons.inj h).2
    simp only [List.append_eq, List.append_assoc] at h1
    have zp := hl p List.mem_cons_self
    have zq := hm q List.mem_cons_self
    obtain ⟨e1, h2⟩ := row_inj zp.1 zq.1 zp.2 zq.2 h1
    exact absurd (List.cons.inj (List.cons.inj h2).2).1 (by decide)
  | q :: s :: m, [p], hl, hm, r, r', h => by
    have h1 := (List.cons.inj h).2
    simp only [List.append_eq, List.append_assoc] at h1
    have zp := hl q List.mem_cons_self
    have zq := hm p List.mem_cons_self
    obtain ⟨e1, h2⟩ := row_inj zp.1 zq.1 zp.2 zq.2 h1
    exact absurd (List.cons.inj (List.cons.inj h2).2).1 (by decide)
  | p :: t :: l, q :: s :: m, hl, hm, r, r', h => by
    have h1 := (List.cons.inj h).2
    simp only [List.append_eq, List.append_assoc] at h1
    have zp := hl p List.mem_cons_self
    have zq := hm q List.mem_cons_self
    obtain ⟨e1, h2⟩ := row_inj zp.1 zq.1 zp.2 zq.2 h1
    obtain ⟨e2, e3⟩ := tl_inj (fun x hx => hl x (List.mem_cons_of_mem _ hx)) (fun x hx => hm x (List.mem_cons_of_mem _ hx)) h2
    exact ⟨by rw [e1, e2], e3⟩
structure Gd (l : LS) : Prop where
  n0 : 0 ≤ l.1
  pt : Pt l.2
theorem sh_pre {l m : LS} (hl : Gd l) (hm : Gd m) {r r' : List Nat} (h : cd (sh l) ++ r = cd (sh m) ++ r') : l = m ∧ r = r' := by
  rw [sh_codes, sh_codes] at h
  have h1 := (List.cons.inj h).2
  simp only [List.append_eq, List.append_assoc] at h1
  obtain ⟨e1, h2⟩ := num_inj hl.n0 hm.n0 (by decide) h1
  have h3 := (List.cons.inj h2).2
  simp only [List.append_eq, List.append_assoc] at h3
  obtain ⟨e2, h4⟩ := rows_inj hl.pt hm.pt h3
  exact ⟨Prod.ext e1 e2, (List.cons.inj h4).2⟩
theorem sh_inj {l m : LS} (hl : Gd l) (hm : Gd m) (h : sh l = sh m) : l = m := (sh_pre hl hm (r := []) (r' := []) (by rw [h])).1
/-! ### printable -/
theorem Pr.app {x y : Str} (hx : Pr x) (hy : Pr y) : Pr (x ++ y) := fun c hc => by
  rw [show (x ++ y).cps.toList = x.cps.toList ++ y.cps.toList from cd_app x y] at hc
  rcases List.mem_append.mp hc with z | z
  · exact hx c z
  · exact hy c z
theorem esc_pr {q : Nat} {l : List Nat} (h : ∀ c ∈ l, 32 ≤ c ∧ c ≤ 126) : ∀ c ∈ esc q l, 32 ≤ c ∧ c ≤ 126 := fun c hc => by
  unfold esc at hc
  obtain ⟨d, hd, z⟩ := List.mem_flatMap.mp hc
  have hd' := h d hd
  split at z
  · rcases List.mem_cons.mp z with e | e
    · rw [e]; decide
    · rw [List.mem_singleton.mp e]; exact hd'
  · rw [List.mem_singleton.mp z]; exact hd'
theorem repr_pr {x : Str} (h : Pr x) : ∀ c ∈ cd (reprText x), 32 ≤ c ∧ c ≤ 126 := fun c hc => by
  rw [show cd (reprText x) = _ from repr_codes h] at hc
  have q : 32 ≤ reprQuote x ∧ reprQuote x ≤ 126 := by
    rcases quote_or x with e | e <;> rw [e] <;> decide
  rcases List.mem_cons.mp hc with e | e
  · rw [e]; exact q
  · rcases List.mem_append.mp e with z | z
    · exact esc_pr h c z
    · rw [List.mem_singleton.mp z]; exact q
theorem row_pr {p : Str × Int} (h : Pr p.1) (hf : 0 ≤ p.2) : ∀ c ∈ rowC p, 32 ≤ c ∧ c ≤ 126 := fun c hc => by
  unfold rowC at hc
  have dg := num_digits hf
  simp only [List.mem_cons, List.mem_append, List.not_mem_nil, or_false] at hc
  rcases hc with e | e | e | e | e | e
  · rw [e]; decide
  · exact repr_pr h c e
  · rw [e]; decide
  · rw [e]; decide
  · have := dg c e; omega
  · rw [e]; decide
theorem tl_pr : ∀ {l : List (Str × Int)}, Pt l → ∀ c ∈ tlC l, 32 ≤ c ∧ c ≤ 126
  | [], _, c, hc => by rw [List.mem_singleton.mp hc]; decide
  | p :: r, h, c, hc => by
    have zp := h p List.mem_cons_self
    rcases List.mem_cons.mp hc with e | e
    · rw [e]; decide
    · rcases List.mem_cons.mp e with e | e
      · rw [e]; decide
      · rcases List.mem_append.mp e with e | e
        · exact row_pr zp.1 zp.2 c e
        · exact tl_pr (fun x hx => h x (List.mem_cons_of_mem _ hx)) c e
theorem rows_pr : ∀ {l : List (Str × Int)}, Pt l → ∀ c ∈ rowsC l, 32 ≤ c ∧ c ≤ 126
  | [], _, c, hc => by
    rcases List.mem_cons.mp hc with e | e
    · rw [e]; decide
    · rw [List.mem_singleton.mp e]; decide
  | [p], h, c, hc => by
    have zp := h p List.mem_cons_self
    rcases List.mem_cons.mp hc with e | e
    · rw [e]; decide
    · rcases List.mem_append.mp e with e | e
      · exact row_pr zp.1 zp.2 c e
      · simp only [List.mem_cons, List.not_mem_nil, or_false] at e
        rcases e with e | e <;> rw [e] <;> decide
  | p :: q :: r, h, c, hc => by
    have zp := h p List.mem_cons_self
    rcases List.mem_cons.mp hc with e | e
    · rw [e]; decide
    · rcases List.mem_append.mp e with e | e
      · exact row_pr zp.1 zp.2 c e
      · exact tl_pr (fun x hx => h x (List.mem_cons_of_mem _ hx)) c e
theorem sh_pr {l : LS} (h : Gd l) : Pr (sh l) := fun c hc => by
  rw [show (sh l).cps.toList = shC l from sh_codes l] at hc
  unfold shC at hc
  have dg := num_digits h.n0
  simp only [List.mem_cons, List.mem_append, List.not_mem_nil, or_false] at hc
  rcases hc with e | e | e | e | e | e
  · rw [e]; decide
  · have := dg c e; omega
  · rw [e]; decide
  · rw [e]; decide
  · exact rows_pr h.pt c e
  · rw [e]; decide
end SU
set_option Elab.async false
set_option linter.all false
set_option maxRecDepth 100000
set_option maxHeartbeats 4000000
/-! ## one sum by numbers just where one sum by texts -/
namespace SU
open PySem RI
inductive Trm
  | num (k : Int)
  | nam (x : Str)
  | op (w : Str) (a b : Trm)
  deriving DecidableEq
abbrev six : List Str := ["sum", "less", "times", "over", "below", "same"]
def Trm.Good : Trm → Prop
  | .num k => 0 ≤ k ∧ k < 65536
  | .nam x => Pr x
  | .op w a b => w ∈ six ∧ a.Good ∧ b.Good
/-! ### the law's reckoning -/
def sort2 (x y : Str) : Str × Str := if ltS y x then (y, x) else (x, y)
def minS (x y : Str) : Str := if ltS y x then y else x
def txTwo (w : Str) (l m : LS) : Str := w ++ " " ++ sh l ++ " " ++ sh m
def txTimes (l m : LS) : Str := ("times " : Str) ++ ((sort2 (sh l) (sh m)).1 ++ (" " : Str) ++ (sort2 (sh l) (sh m)).2)
def txNought (l m : LS) : Str := ("nought " : Str) ++ minS (sh l) (sh m)
abbrev addL (l m : LS) (k : Int) : LS := addBy ltS l m k
def timesL (l m : LS) : LS := if m.2 = [] then addL (0, []) l m.1 else if l.2 = [] then addL (0, []) m l.1 else single (txTimes l m)
def sameL (l m : LS) : LS := if (addL l m 65535).2 = [] then (if (addL l m 65535).1 = 0 then 1 else 0, []) else single (txNought (addL l m 65535) (addL m l 65535))
def twoL (w : Str) (l m : LS) : LS := if m = (0, []) ∨ (w = "below" ∧ l = m) then (0, []) else if l.2 = [] ∧ m.2 = [] then (if w = "over" then l.1 / m.1 else if l.1 < m.1 then 1 else 0, []) else single (txTwo w l m)
def joinL (w : Str) (l m : LS) : LS := if w = "sum" then addL l m 1 else if w = "less" then addL l m 65535 else if w = "times" then timesL l m else if w = "same" then sameL l m else twoL w l m
def sumL : Trm → LS
  | .num k => (k % 65536, [])
  | .nam x => single (("name " : Str) ++ x)
  | .op w a b => joinL w (sumL a) (sumL b)
/-! ### the program's -/
inductive AKey
  | leaf (x : Str)
  | two (w : Str) (p q : PS)
  | nought (p : PS)
  deriving DecidableEq
def sgl (ks : List AKey) (K : AKey) : List AKey × PS := if K ∈ ks then (ks, single ((ks.idxOf K : Nat) : Int)) else (ks ++ [K], single ((ks.length : Nat) : Int))
abbrev addP (p q : PS) (k : Int) : PS := addBy ltI p q k
def timesP (ks : List AKey) (p q : PS) : List AKey × PS := if q.2 = [] then (ks, addP (0, []) p q.1) else if p.2 = [] then (ks, addP (0, []) q p.1) else if ltP q p then sgl ks (.two "times" q p) else sgl ks (.two "times" p q)
def noughtP (ks : List AKey) (p : PS) : List AKey × PS := if p.2 = [] then (ks, (if p.1 = 0 then 1 else 0, [])) else sgl ks (.nought (if ltP (neg ltI p) p then neg ltI p else p))
def overP (ks : List AKey) (p q : PS) : List AKey × PS := if q = (0, []) then (ks, (0, [])) else if p.2 = [] ∧ q.2 = [] then (ks, (p.1 / q.1, [])) else sgl ks (.two "over" p q)
def belowP (ks : List AKey) (p q : PS) : List AKey × PS := if q = (0, []) ∨ p = q then (ks, (0, [])) else if p.2 = [] ∧ q.2 = [] then (ks, (if p.1 < q.1 then 1 else 0, [])) else sgl ks (.two "below" p q)
def joinP (ks : List AKey) (w : Str) (p q : PS) : List AKey × PS := if w = "sum" then (ks, addP p q 1) else if w = "less" then (ks, addP p q 65535) else if w = "times" then timesP ks p q else if w = "over" then overP ks p q else if w = "below" then belowP ks p q else noughtP ks (addP p q 65535)
def sumP (ks : List AKey) : Trm → List AKey × PS
  | .num k => (ks, (k % 65536, []))
  | .nam x => sgl ks (.leaf x)
  | .op w a b => joinP (sumP (sumP ks a).1 b).1 w (sumP ks a).2 (sumP (sumP ks a).1 b).2
/-! ### how they hang together -/
structure R (τ : List Str) (p : PS) (l : LS) : Prop where
  okp : Ok ltI p
  okl : Ok ltS l
  n : p.1 = l.1
  hit : ∀ (i : Nat) (T : Str), τ[i]? = some T → cf l.2 T = cf p.2 (i : Int)
  inP : ∀ a, cf p.2 a ≠ 0 → ∃ (i : Nat) (T : Str), a = (i : Int) ∧ τ[i]? = some T
  inL : ∀ T, cf l.2 T ≠ 0 → T ∈ τ
theorem R.eqs {τ : List Str} {p q : PS} {l m : LS} (h : R τ p l) (k : R τ q m) : p = q ↔ l = m := by
  constructor
  · intro e
    subst e
    refine ok_ext Lo.str h.okl k.okl (h.n.symm.trans k.n) fun T => ?_
    by_cases z : T ∈ τ
    · obtain ⟨i, hi⟩ := List.getElem?_of_mem z
      rw [h.hit i T hi, k.hit i T hi]
    · have z1 : cf l.2 T = 0 := Classical.byContradiction fun y => z (h.inL T y)
      have z2 : cf m.2 T = 0 := Classical.byContradiction fun y => z (k.inL T y)
      rw [z1, z2]
  · intro e
    subst e
    refine ok_ext Lo.int h.okp k.okp (h.n.trans k.n.symm) fun a => ?_
    by_cases z1 : cf p.2 a = 0
    · by_cases z2 : cf q.2 a = 0
      · rw [z1, z2]
      · obtain ⟨i, T, rfl, hi⟩ := k.inP a z2
        rw [← h.hit i T hi, ← k.hit i T hi]
    · obtain ⟨i, T, rfl, hi⟩ := h.inP a z1
      rw [← h.hit i T hi, ← k.hit i T hi]
theorem R.add {τ : List Str} {p q : PS} {l m : LS} (h : R τ p l) (k : R τ q m) (z : Int) : R τ (addP p q z) (addL l m z) := by
  refine ⟨addBy_ok Lo.int h.okp, addBy_ok Lo.str h.okl, ?_, fun i T hi => ?_, fun a ha => ?_, fun T hT => ?_⟩
  · show (p.1 + q.1 * z) % 65536 = (l.1 + m.1 * z) % 65536
    rw [h.n, k.n]
  · rw [cf_addBy Lo.str h.okl k.okl, cf_addBy Lo.int h.okp k.okp, h.hit i T hi, k.hit i T hi]
  · rw [cf_addBy Lo.int h.okp k.okp] at ha
    by_cases z1 : cf p.2 a = 0
    · by_cases z2 : cf q.2 a = 0
      · rw [z1, z2] at ha
        exact absurd (by simp) ha
      · exact k.inP a z2
    · exact h.inP a z1
  · rw [cf_addBy Lo.str h.okl k.okl] at hT
    by_cases z1 : cf l.2 T = 0
    · by_cases z2 : cf m.2 T = 0
      · rw [z1, z2] at hT
        exact absurd (by simp) hT
      · exact k.inL T z2
    · exact h.inL T z1
theorem R.num {τ : List Str} {n : Int} (h0 : 0 ≤ n) (h1 : n < 65536) : R τ (n, []) (n, []) := ⟨⟨h0, h1, .nil⟩, ⟨h0, h1, .nil⟩, rfl, fun _ _ _ => rfl, fun a h => absurd rfl h, fun a h => absurd rfl h⟩
theorem R.one {τ : List Str} {i : Nat} {T : Str} (nd : τ.Nodup) (h : τ[i]? = some T) : R τ (single (i : Int)) (single T) := by
  refine ⟨single_ok _, single_ok _, rfl, fun j S hj => ?_, fun a ha => ?_, fun S hS => ?_⟩
  · rw [cf_single, cf_single]
    by_cases e : i = j
    · subst e
      rw [h] at hj
      cases hj
      rw [if_pos rfl, if_pos rfl]
    · rw [if_neg, if_neg]
      · intro z
        exact e (by omega)
      · intro z
        subst z
        exact e ((List.getElem?_inj (List.getElem?_eq_some_iff.mp h).1 nd).mp (h.trans hj.symm))
  · rw [cf_single] at ha
    by_cases e : (i : Int) = a
    · exact ⟨i, T, e.symm, h⟩
    · rw [if_neg e] at ha
      exact absurd rfl ha
  · rw [cf_single] at hS
    by_cases e : T = S
    · subst e
      exact List.mem_of_getElem? h
    · rw [if_neg e] at hS
      exact absurd rfl hS
theorem R.more {τ : List Str} {p : PS} {l : LS} (h : R τ p l) {T : Str} (hT : T ∉ τ) : R (τ ++ [T]) p l := by
  refine ⟨h.okp, h.okl, h.n, fun i S hi => ?_, fun a ha => ?_, fun S hS => List.mem_append_left _ (h.inL S hS)⟩
  · by_cases c : i < τ.length
    · rw [List.getElem?_append_left c] at hi
      exact h.hit i S hi
    · rw [List.getElem?_append_right (by omega)] at hi
      have i0 : i - τ.length = 0 := by
        cases e : i - τ.length with
        | zero => rfl
        | succ n => rw [e] at hi; cases hi
      rw [i0] at hi
      cases hi
      have z1 : cf l.2 T = 0 := Classical.byContradiction fun y => hT (h.inL T y)
      have z2 : cf p.2 (i : Int) = 0 := Classical.byContradiction fun y => by
        obtain ⟨j, U, e, hj⟩ := h.inP _ y
        have ej : i = j := by omega
        have := (List.getElem?_eq_some_iff.mp hj).1
        omega
      rw [z1, z2]
  · obtain ⟨i, S, e, hi⟩ := h.inP a ha
    exact ⟨i, S, e, by rw [List.getElem?_append_left (List.getElem?_eq_some_iff.mp hi).1]; exact hi⟩
theorem cn_nil_iff {α : Type} [DecidableEq α] {lt : α → α → Prop} {r : List (α × Int)} (h : Cn lt r) : r = [] ↔ ∀ a, cf r a = 0 := by
  constructor
  · intro e a
    rw [e]
    rfl
  · intro e
    cases r with
    | nil => rfl
    | cons p r =>
      have z := e p.1
      obtain ⟨b, f⟩ := p
      rw [cf, if_pos rfl] at z
      have y : 0 < f := (h.rng (b, f) List.mem_cons_self).1
      rw [z] at y
      exact absurd y (Int.lt_irrefl 0)
theorem R.emp {τ : List Str} {p : PS} {l : LS} (h : R τ p l) : p.2 = [] ↔ l.2 = [] := by
  rw [cn_nil_iff h.okp.cn, cn_nil_iff h.okl.cn]
  constructor
  · intro e T
    refine Classical.byContradiction fun y => ?_
    obtain ⟨i, hi⟩ := List.getElem?_of_mem (h.inL T y)
    rw [h.hit i T hi, e] at y
    exact y rfl
  · intro e a
    refine Classical.byContradiction fun y => ?_
    obtain ⟨i, T, rfl, hi⟩ := h.inP a y
    rw [← h.hit i T hi, e] at y
    exact y rfl
theorem R.gd {τ : List Str} {p : PS} {l : LS} (h : R τ p l) (pr : ∀ T ∈ τ, Pr T) : Gd l := by
  refine ⟨h.okl.n0, fun q hq => ?_⟩
  obtain ⟨b, f⟩ := q
  have r := h.okl.cn.rng _ hq
  refine ⟨pr b (h.inL b ?_), Int.le_of_lt r.1⟩
  rw [cf_in Lo.str h.okl.cn.srt hq]
  intro z
  have y : 0 < f := r.1
  rw [z] at y
  exact absurd y (Int.lt_irrefl 0)
/-- the text of a key -/
inductive KT (τ : List Str) : AKey → Str → Prop
  | leaf (x : Str) : KT τ (.leaf x) (("name " : Str) ++ x)
  | over {p q : PS} {l m : LS} (h : R τ p l) (k : R τ q m) : KT τ (.two "over" p q) (txTwo "over" l m)
  | below {p q : PS} {l m : LS} (h : R τ p l) (k : R τ q m) : KT τ (.two "below" p q) (txTwo "below" l m)
  | times {p q : PS} {l m : LS} (h : R τ p l) (k : R τ q m) (o : ¬ ltP q p) : KT τ (.two "times" p q) (txTimes l m)
  | nought {p : PS} {l : LS} (h : R τ p l) (o : ¬ ltP (neg ltI p) p) : KT τ (.nought p) (txNought l (neg ltS l))
theorem KT.more {τ : List Str} {K : AKey} {T S : Str} (h : KT τ K T) (hS : S ∉ τ) : KT (τ ++ [S]) K T := by
  cases h with
  | leaf x => exact .leaf x
  | over h k => exact .over (h.more hS) (k.more hS)
  | below h k => exact .below (h.more hS) (k.more hS)
  | times h k o => exact .times (h.more hS) (k.more hS) o
  | nought h o => exact .nought (h.more hS) o
theorem R.negs {τ : List Str} {p : PS} {l : LS} (h : R τ p l) : R τ (neg ltI p) (neg ltS l) := (R.num (by decide) (by decide)).add h 65535
theorem sort2_or (x y : Str) : ((sort2 x y).1 = x ∧ (sort2 x y).2 = y) ∨ ((sort2 x y).1 = y ∧ (sort2 x y).2 = x) := by
  unfold sort2
  split
  · exact .inr ⟨rfl, rfl⟩
  · exact .inl ⟨rfl, rfl⟩
theorem sort2_comm (x y : Str) : sort2 x y = sort2 y x := by
  unfold sort2
  rcases Lo.str.tri x y with h | h | h
  · rw [if_neg (fun z => Lo.str.irr _ (Lo.str.tr _ _ _ h z)), if_pos h]
  · rw [h]
  · rw [if_pos h, if_neg (fun z => Lo.str.irr _ (Lo.str.tr _ _ _ h z))]
theorem minS_or (x y : Str) : minS x y = x ∨ minS x y = y := by
  unfold minS
  split
  · exact .inr rfl
  · exact .inl rfl
theorem minS_comm (x y : Str) : minS x y = minS y x := by
  unfold minS
  rcases Lo.str.tri x y with h | h | h
  · rw [if_neg (fun z => Lo.str.irr _ (Lo.str.tr _ _ _ h z)), if_pos h]
  · rw [h]
  · rw [if_pos h, if_neg (fun z => Lo.str.irr _ (Lo.str.tr _ _ _ h z))]
theorem tx_two_codes (w : Str) (l m : LS) : cd (txTwo w l m) = cd w ++ (32 :: (cd (sh l) ++ (32 :: cd (sh m)))) := by
  unfold txTwo
  have e : cd (" " : Str) = [32] := by decide +kernel
  rw [cd_app, cd_app, cd_app, cd_app, e]
  simp
theorem tx_times_codes (l m : LS) : cd (txTimes l m) = [116, 105, 109, 101, 115, 32] ++ (cd (sort2 (sh l) (sh m)).1 ++ (32 :: cd (sort2 (sh l) (sh m)).2)) := by
  unfold txTimes
  have e : cd (" " : Str) = [32] := by decide +kernel
  have e2 : cd ("times " : Str) = [116, 105, 109, 101, 115, 32] := by decide +kernel
  rw [cd_app, cd_app, cd_app, e, e2]
  simp
theorem tx_nought_codes (l m : LS) : cd (txNought l m) = [110, 111, 117, 103, 104, 116, 32] ++ cd (minS (sh l) (sh m)) := by
  unfold txNought
  have e2 : cd ("nought " : Str) = [110, 111, 117, 103, 104, 116, 32] := by decide +kernel
  rw [cd_app, e2]
theorem tx_leaf_codes (x : Str) : cd (("name " : Str) ++ x) = [110, 97, 109, 101, 32] ++ cd x := by
  have e2 : cd ("name " : Str) = [110, 97, 109, 101, 32] := by decide +kernel
  rw [cd_app, e2]
theorem cd_over : cd ("over" : Str) = [111, 118, 101, 114] := by decide +kernel
theorem cd_below : cd ("below" : Str) = [98, 101, 108, 111, 119] := by decide +kernel
/-- the sort of a text -/
def sortOf : AKey → Nat
  | .leaf _ => 0
  | .two w _ _ => if w = "over" then 1 else if w = "below" then 2 else 3
  | .nought _ => 4
theorem so0 (x : Str) : sortOf (.leaf x) = 0 := rfl
theorem so1 (p q : PS) : sortOf (.two "over" p q) = 1 := by rw [sortOf, if_pos rfl]
theorem so2 (p q : PS) : sortOf (.two "below" p q) = 2 := by rw [sortOf, if_neg (by decide +kernel), if_pos rfl]
theorem so3 (p q : PS) : sortOf (.two "times" p q) = 3 := by rw [sortOf, if_neg (by decide +kernel), if_neg (by decide +kernel)]
theorem so4 (p : PS) : sortOf (.nought p) = 4 := rfl
def headOf (l : List Nat) : Nat := if l.take 2 = [110, 97] then 0 else if l.take 2 = [111, 118] then 1 else if l.take 2 = [98, 101] then 2 else if l.take 2 = [116, 105] then 3 else 4
theorem KT.sort {τ : List Str} {K : AKey} {T : Str} (h : KT τ K T) : headOf (cd T) = sortOf K := by
  cases h with
  | leaf x => rw [tx_leaf_codes]; rfl
  | over h k => rw [tx_two_codes, cd_over]; rfl
  | below h k => rw [tx_two_codes, cd_below]; rfl
  | times h k => rw [tx_times_codes]; rfl
  | nought h o => rw [tx_nought_codes]; rfl
theorem KT.eqs {τ : List Str} (pr : ∀ T ∈ τ, Pr T) {K K' : AKey} {T T' : Str} (h : KT τ K T) (k : KT τ K' T') : K = K' ↔ T = T' := by
  constructor
  · intro e
    subst e
    cases h with
    | leaf x => cases k; rfl
    | over h1 h2 =>
      cases k with
      | over k1 k2 => rw [(h1.eqs k1).mp rfl, (h2.eqs k2).mp rfl]
    | below h1 h2 =>
      cases k with
      | below k1 k2 => rw [(h1.eqs k1).mp rfl, (h2.eqs k2).mp rfl]
    | times h1 h2 o =>
      cases k with
      | times k1 k2 o2 => rw [(h1.eqs k1).mp rfl, (h2.eqs k2).mp rfl]
    | nought h1 o =>
      cases k with
      | nought k1 o2 => rw [(h1.eqs k1).mp rfl]
  · intro e
    have hs := h.sort
    have ks := k.sort
    rw [e, ks] at hs
    have two : ∀ {w : Str} {l m l' m' : LS}, Gd l → Gd m → Gd l' → Gd m' → txTwo w l m = txTwo w l' m' → l = l' ∧ m = m' := by
      intro w l m l' m' g1 g2 g3 g4 e
      have z := congrArg cd e
      rw [tx_two_codes, tx_two_codes] at z
      have z1 := (List.cons.inj (List.append_cancel_left z)).2
      obtain ⟨e1, z2⟩ := sh_pre g1 g3 z1
      exact ⟨e1, sh_inj g2 g4 (cd_inj (List.cons.inj z2).2)⟩
    cases h with
    | leaf x =>
      cases k with
      | leaf y =>
        have z := congrArg cd e
        rw [tx_leaf_codes, tx_leaf_codes] at z
        rw [cd_inj (List.append_cancel_left z)]
      | _ => exact absurd hs (by simp only [so0, so1, so2, so3, so4]; decide)
    | over h1 h2 =>
      cases k with
      | over k1 k2 =>
        obtain ⟨e1, e2⟩ := two (h1.gd pr) (h2.gd pr) (k1.gd pr) (k2.gd pr) e
        rw [(h1.eqs k1).mpr e1, (h2.eqs k2).mpr e2]
      | _ => exact absurd hs (by simp only [so0, so1, so2, so3, so4]; decide)
    | below h1 h2 =>
      cases k with
      | below k1 k2 =>
        obtain ⟨e1, e2⟩ := two (h1.gd pr) (h2.gd pr) (k1.gd pr) (k2.gd pr) e
        rw [(h1.eqs k1).mpr e1, (h2.eqs k2).mpr e2]
      | _ => exact absurd hs (by simp only [so0, so1, so2, so3, so4]; decide)
    | @times p q l m h1 h2 o =>
      cases k with
      | @times p' q' l' m' k1 k2 o2 =>
        have z := congrArg cd e
        rw [tx_times_codes, tx_times_codes] at z
        have z1 := List.append_cancel_left z
        have g1 := h1.gd pr
        have g2 := h2.gd pr
        have g3 := k1.gd pr
        have g4 := k2.gd pr
        have key : (l = l' ∧ m = m') ∨ (l = m' ∧ m = l') := by
          rcases sort2_or (sh l) (sh m) with ⟨a1, a2⟩ | ⟨a1, a2⟩ <;> rcases sort2_or (sh l') (sh m') with ⟨b1, b2⟩ | ⟨b1, b2⟩ <;> rw [a1, a2, b1, b2] at z1
          · obtain ⟨e1, z2⟩ := sh_pre g1 g3 z1
            exact .inl ⟨e1, sh_inj g2 g4 (cd_inj (List.cons.inj z2).2)⟩
          · obtain ⟨e1, z2⟩ := sh_pre g1 g4 z1
            exact .inr ⟨e1, sh_inj g2 g3 (cd_inj (List.cons.inj z2).2)⟩
          · obtain ⟨e1, z2⟩ := sh_pre g2 g3 z1
            exact .inr ⟨sh_inj g1 g4 (cd_inj (List.cons.inj z2).2), e1⟩
          · obtain ⟨e1, z2⟩ := sh_pre g2 g4 z1
            exact .inl ⟨sh_inj g1 g3 (cd_inj (List.cons.inj z2).2), e1⟩
        rcases key with ⟨e1, e2⟩ | ⟨e1, e2⟩
        · rw [(h1.eqs k1).mpr e1, (h2.eqs k2).mpr e2]
        · have y1 := (h1.eqs k2).mpr e1
          have y2 := (h2.eqs k1).mpr e2
          subst y1
          subst y2
          rcases Lo.sum.tri p q with y | y | y
          · exact absurd y o2
          · rw [y]
          · exact absurd y o
      | _ => exact absurd hs (by simp only [so0, so1, so2, so3, so4]; decide)
    | @nought p l h1 o =>
      cases k with
      | @nought p' l' k1 o2 =>
        have z := congrArg cd e
        rw [tx_nought_codes, tx_nought_codes] at z
        have z1 := cd_inj (List.append_cancel_left z)
        have g1 := h1.gd pr
        have g2 := h1.negs.gd pr
        have g3 := k1.gd pr
        have g4 := k1.negs.gd pr
        have fin : ∀ {a b : PS}, b = neg ltI a → Ok ltI a → ¬ ltP (neg ltI a) a → ¬ ltP (neg ltI b) b → a = b := by
          intro a b e oa n1 n2
          subst e
          rw [neg_neg Lo.int oa] at n2
          rcases Lo.sum.tri a (neg ltI a) with y | y | y
          · exact absurd y n2
          · exact y
          · exact absurd y n1
        have : p = p' := by
          rcases minS_or (sh l) (sh (neg ltS l)) with a | a <;> rcases minS_or (sh l') (sh (neg ltS l')) with b | b <;> rw [a, b] at z1
          · exact (h1.eqs k1).mpr (sh_inj g1 g3 z1)
          · have y := (h1.eqs k1.negs).mpr (sh_inj g1 g4 z1)
            exact (fin y k1.okp o2 o).symm
          · have y := (h1.negs.eqs k1).mpr (sh_inj g2 g3 z1)
            exact fin y.symm h1.okp o o2
          · have y := (h1.negs.eqs k1.negs).mpr (sh_inj g2 g4 z1)
            have y2 := congrArg (neg ltI) y
            rw [neg_neg Lo.int h1.okp, neg_neg Lo.int k1.okp] at y2
            exact y2
        rw [this]
      | _ => exact absurd hs (by simp only [so0, so1, so2, so3, so4]; decide)
end SU
set_option Elab.async false
set_option linter.all false
set_option maxRecDepth 100000
set_option maxHeartbeats 4000000
/-! ## one sum by numbers just where one sum by texts: the whole -/
namespace SU
open PySem RI
/-! ### numbers -/
def numBy (w : Str) (x y : Int) : Int := if w = "over" then (if y > 0 then x / y else 0) else if w = "sum" then (x + y) % 65536 else if w = "less" then (x - y) % 65536 else if w = "times" then (x * y) % 65536 else if w = "below" then (if x < y then 1 else 0) else if x = y then 1 else 0
def num (ρ : Str → Int) : Trm → Int
  | .num k => k
  | .nam x => ρ x
  | .op w a b => numBy w (num ρ a) (num ρ b)
def nu (vs : List Int) (a : Int) : Int := if a < 0 then 0 else vs.getD a.toNat 0
theorem nu_at {vs : List Int} {i : Nat} {v : Int} (h : vs[i]? = some v) : nu vs (i : Int) = v := by
  unfold nu
  rw [if_neg (by omega), List.getD_eq_getElem?_getD, Int.toNat_natCast, h]
  rfl
/-- the atoms of a sum are below -/
def Win (n : Nat) (p : PS) : Prop := ∀ q ∈ p.2, 0 ≤ q.1 ∧ q.1 < (n : Int)
theorem Win.vlx {vs : List Int} {p : PS} (h : Win vs.length p) (v : Int) : vl (nu (vs ++ [v])) p = vl (nu vs) p := by
  unfold vl
  rw [tot_congr fun q hq => ?_]
  have z := h q hq
  unfold nu
  rw [if_neg (by omega), if_neg (by omega), List.getD_eq_getElem?_getD, List.getD_eq_getElem?_getD, List.getElem?_append_left (by omega)]
theorem R.win {τ : List Str} {p : PS} {l : LS} (h : R τ p l) : Win τ.length p := fun q hq => by
  obtain ⟨b, f⟩ := q
  have r : 0 < f := (h.okp.cn.rng _ hq).1
  obtain ⟨i, T, e, hi⟩ := h.inP b (by
    rw [cf_in Lo.int h.okp.cn.srt hq]
    omega)
  have := (List.getElem?_eq_some_iff.mp hi).1
  show 0 ≤ b ∧ b < _
  omega
def KV (ρ : Str → Int) (vs : List Int) : AKey → Int
  | .leaf x => ρ x
  | .two w p q => numBy w (vl (nu vs) p) (vl (nu vs) q)
  | .nought p => if vl (nu vs) p = 0 then 1 else 0
theorem KT.kv {τ : List Str} {K : AKey} {T : Str} (h : KT τ K T) {ρ : Str → Int} {vs : List Int} (l : vs.length = τ.length) (v : Int) : KV ρ (vs ++ [v]) K = KV ρ vs K := by
  cases h with
  | leaf x => rfl
  | over h k => simp only [KV]; rw [(l ▸ h.win : Win vs.length _).vlx, (l ▸ k.win : Win vs.length _).vlx]
  | below h k => simp only [KV]; rw [(l ▸ h.win : Win vs.length _).vlx, (l ▸ k.win : Win vs.length _).vlx]
  | times h k => simp only [KV]; rw [(l ▸ h.win : Win vs.length _).vlx, (l ▸ k.win : Win vs.length _).vlx]
  | nought h o => simp only [KV]; rw [(l ▸ h.win : Win vs.length _).vlx]
structure Sta (ρ : Str → Int) (ks : List AKey) (τ : List Str) (vs : List Int) : Prop where
  len : ks.length = τ.length
  lenV : vs.length = τ.length
  nd : τ.Nodup
  pr : ∀ T ∈ τ, Pr T
  txt : ∀ (i : Nat) (K : AKey) (T : Str), ks[i]? = some K → τ[i]? = some T → KT τ K T
  vls : ∀ (i : Nat) (K : AKey) (v : Int), ks[i]? = some K → vs[i]? = some v → v = KV ρ vs K
theorem Sta.nil (ρ : Str → Int) : Sta ρ [] [] [] := ⟨rfl, rfl, .nil, (fun _ h => nomatch h), (fun _ _ _ h => by cases h), (fun _ _ _ h => by cases h)⟩
/-- what was, is -/
structure Ext (τ τ' : List Str) (vs vs' : List Int) : Prop where
  r : ∀ {p : PS} {l : LS}, R τ p l → R τ' p l
  v : ∀ {p : PS} {l : LS}, R τ p l → vl (nu vs') p = vl (nu vs) p
theorem Ext.refl (τ : List Str) (vs : List Int) : Ext τ τ vs vs := ⟨fun h => h, fun _ => rfl⟩
theorem Ext.trans {τ τ' τ'' : List Str} {vs vs' vs'' : List Int} (h : Ext τ τ' vs vs') (k : Ext τ' τ'' vs' vs'') : Ext τ τ'' vs vs'' := ⟨fun x => k.r (h.r x), fun x => (k.v (h.r x)).trans (h.v x)⟩
theorem vl_single {vs : List Int} {i : Nat} {v : Int} (h : vs[i]? = some v) (h0 : 0 ≤ v) (h1 : v < 65536) : vl (nu vs) (single (i : Int)) = v := by
  unfold vl single
  rw [tot_cons]
  show (0 + (1 * nu vs (i : Int) + 0)) % 65536 = v
  rw [nu_at h]
  omega
structure Res (ρ : Str → Int) (ks : List AKey) (p : PS) (l : LS) (v : Int) (τ : List Str) (vs : List Int) (τ' : List Str) (vs' : List Int) : Prop where
  st : Sta ρ ks τ' vs'
  ex : Ext τ τ' vs vs'
  r : R τ' p l
  v : vl (nu vs') p = v
theorem Sta.sgl {ρ : Str → Int} {ks : List AKey} {τ : List Str} {vs : List Int} (S : Sta ρ ks τ vs) {K : AKey} {T : Str} (h : KT τ K T) (pT : Pr T) (h0 : 0 ≤ KV ρ vs K) (h1 : KV ρ vs K < 65536) :
    ∃ τ' vs', Res ρ (sgl ks K).1 (sgl ks K).2 (single T) (KV ρ vs K) τ vs τ' vs' := by
  unfold SU.sgl
  by_cases c : K ∈ ks
  · rw [if_pos c]
    have hi : ks[ks.idxOf K]? = some K := by
      rw [List.getElem?_eq_getElem (List.idxOf_lt_length_of_mem c), List.getElem_idxOf]
    have lt := List.idxOf_lt_length_of_mem c
    obtain ⟨T', hT'⟩ : ∃ T', τ[ks.idxOf K]? = some T' := ⟨_, List.getElem?_eq_getElem (by rw [← S.len]; exact lt)⟩
    obtain ⟨v, hv⟩ : ∃ v, vs[ks.idxOf K]? = some v := ⟨_, List.getElem?_eq_getElem (by rw [S.lenV, ← S.len]; exact lt)⟩
    have kt := S.txt _ _ _ hi hT'
    have e := (KT.eqs S.pr kt h).mp rfl
    subst e
    have ev := S.vls _ _ _ hi hv
    refine ⟨τ, vs, S, .refl _ _, R.one S.nd hT', ?_⟩
    subst ev
    exact vl_single hv h0 h1
  · rw [if_neg c]
    have nT : T ∉ τ := fun z => by
      obtain ⟨i, hi⟩ := List.getElem?_of_mem z
      have li := (List.getElem?_eq_some_iff.mp hi).1
      obtain ⟨K', hK'⟩ : ∃ K', ks[i]? = some K' := ⟨_, List.getElem?_eq_getElem (by rw [S.len]; exact li)⟩
      have e := (KT.eqs S.pr (S.txt _ _ _ hK' hi) h).mpr rfl
      rw [e] at hK'
      exact c (List.mem_of_getElem? hK')
    have at_ : (τ ++ [T])[ks.length]? = some T := by rw [S.len, List.getElem?_append_right (Nat.le_refl _), Nat.sub_self]; rfl
    have atV : (vs ++ [KV ρ vs K])[ks.length]? = some (KV ρ vs K) := by rw [S.len, ← S.lenV, List.getElem?_append_right (Nat.le_refl _), Nat.sub_self]; rfl
    have nd : (τ ++ [T]).Nodup := by
      rw [List.nodup_append]
      refine ⟨S.nd, by simp, fun a ha b hb => ?_⟩
      rw [List.mem_singleton.mp hb]
      intro z
      exact nT (z ▸ ha)
    refine ⟨τ ++ [T], vs ++ [KV ρ vs K], ⟨by simp [S.len], by simp [S.lenV], nd, fun U hU => ?_, fun i K' T' hK hT => ?_, fun i K' v hK hv => ?_⟩, ⟨fun r => r.more nT, fun r => (S.lenV ▸ r.win : Win vs.length _).vlx _⟩, R.one nd at_, vl_single atV h0 h1⟩
    · rcases List.mem_append.mp hU with z | z
      · exact S.pr U z
      · rw [List.mem_singleton.mp z]; exact pT
    · by_cases li : i < ks.length
      · rw [List.getElem?_append_left li] at hK
        rw [List.getElem?_append_left (by rw [← S.len]; exact li)] at hT
        exact (S.txt _ _ _ hK hT).more nT
      · have := (List.getElem?_eq_some_iff.mp hK).1
        rw [List.length_append, List.length_singleton] at this
        have ei : i = ks.length := by omega
        subst ei
        rw [at_] at hT
        cases hT
        rw [List.getElem?_append_right (Nat.le_refl _), Nat.sub_self] at hK
        cases hK
        exact h.more nT
    · by_cases li : i < ks.length
      · rw [List.getElem?_append_left li] at hK
        have lv : i < vs.length := by rw [S.lenV, ← S.len]; exact li
        rw [List.getElem?_append_left lv] at hv
        obtain ⟨T', hT'⟩ : ∃ T', τ[i]? = some T' := ⟨_, List.getElem?_eq_getElem (by rw [← S.len]; exact li)⟩
        rw [(S.txt _ _ _ hK hT').kv S.lenV]
        exact S.vls _ _ _ hK hv
      · have := (List.getElem?_eq_some_iff.mp hK).1
        rw [List.length_append, List.length_singleton] at this
        have ei : i = ks.length := by omega
        subst ei
        rw [atV] at hv
        cases hv
        rw [List.getElem?_append_right (Nat.le_refl _), Nat.sub_self] at hK
        cases hK
        exact (h.kv S.lenV _).symm
theorem pr_lit {x : Str} (h : (cd x).all (fun c => decide (32 ≤ c) && decide (c ≤ 126)) = true) : Pr x := fun c hc => by
  have z := List.all_eq_true.mp h c hc
  rw [Bool.and_eq_true] at z
  exact ⟨of_decide_eq_true z.1, of_decide_eq_true z.2⟩
theorem numBy_rng (w : Str) {x y : Int} (hx : 0 ≤ x ∧ x < 65536) (hy : 0 ≤ y ∧ y < 65536) : 0 ≤ numBy w x y ∧ numBy w x y < 65536 := by
  unfold numBy
  split
  · split
    · rename_i h
      refine ⟨Int.ediv_nonneg hx.1 hy.1, ?_⟩
      have := Int.ediv_le_self y hx.1
      omega
    · omega
  · split
    · omega
    · split
      · omega
      · split
        · exact ⟨Int.emod_nonneg _ (by decide), Int.emod_lt_of_pos _ (by decide)⟩
        · split
          · split <;> omega
          · split <;> omega
theorem num_rng {ρ : Str → Int} (hρ : ∀ x, 0 ≤ ρ x ∧ ρ x < 65536) : ∀ {t : Trm}, t.Good → 0 ≤ num ρ t ∧ num ρ t < 65536
  | .num k, h => h
  | .nam x, _ => hρ x
  | .op w a b, h => numBy_rng w (num_rng hρ h.2.1) (num_rng hρ h.2.2)
theorem Sta.add {ρ : Str → Int} {ks : List AKey} {τ : List Str} {vs : List Int} (S : Sta ρ ks τ vs) {p q : PS} {l m : LS} (h : R τ p l) (k : R τ q m) (z : Int) : Res ρ ks (addP p q z) (addL l m z) ((vl (nu vs) p + vl (nu vs) q * z) % 65536) τ vs τ vs :=
  ⟨S, .refl _ _, h.add k z, vl_addBy _ _ _ _⟩
theorem Sta.num {ρ : Str → Int} {ks : List AKey} {τ : List Str} {vs : List Int} (S : Sta ρ ks τ vs) {n : Int} (h0 : 0 ≤ n) (h1 : n < 65536) : Res ρ ks (n, []) (n, []) n τ vs τ vs := ⟨S, .refl _ _, .num h0 h1, vl_num rfl h0 h1⟩
theorem R.val {τ : List Str} {p : PS} {l : LS} (h : R τ p l) (e : p.2 = []) (ν : Int → Int) : vl ν p = p.1 := vl_num e h.okp.n0 h.okp.n1
theorem R.zero {τ : List Str} {p : PS} {l : LS} (h : R τ p l) : p = (0, []) ↔ l = (0, []) := h.eqs (.num (by decide) (by decide))
theorem num0 {α : Type} {x : Sm α} (h : x.2 = []) (e : x ≠ (0, [])) : x.1 ≠ 0 := fun z => e (Prod.ext z h)
theorem joins {ρ : Str → Int} {ks : List AKey} {τ : List Str} {vs : List Int} (S : Sta ρ ks τ vs) {w : Str} (hw : w ∈ six) {p q : PS} {l m : LS} (h : R τ p l) (k : R τ q m) :
    ∃ τ' vs', Res ρ (joinP ks w p q).1 (joinP ks w p q).2 (joinL w l m) (numBy w (vl (nu vs) p) (vl (nu vs) q)) τ vs τ' vs' := by
  have rp := vl_rng (nu vs) p
  have rq := vl_rng (nu vs) q
  have hl := h.gd S.pr
  have hm := k.gd S.pr
  have bl : Pr (" " : Str) := pr_lit (by decide +kernel)
  have ne : ∀ {a b : Str}, decide (a = b) = false → a ≠ b := fun e => of_decide_eq_false e
  have kvR : ∀ (w : Str), 0 ≤ numBy w (vl (nu vs) p) (vl (nu vs) q) ∧ numBy w (vl (nu vs) p) (vl (nu vs) q) < 65536 := fun w => numBy_rng w rp rq
  have prTwo : ∀ {w : Str}, Pr w → Pr (txTwo w l m) := fun h => Pr.app (Pr.app (Pr.app (Pr.app h bl) (sh_pr hl)) bl) (sh_pr hm)
  simp only [List.mem_cons, List.not_mem_nil, or_false] at hw
  rcases hw with e | e | e | e | e | e <;> subst e
  · -- sum
    have z := S.add h k 1
    refine ⟨τ, vs, ?_⟩
    have e1 : joinP ks "sum" p q = (ks, addP p q 1) := by unfold joinP; rw [if_pos rfl]
    have e2 : joinL "sum" l m = addL l m 1 := by unfold joinL; rw [if_pos rfl]
    have e3 : numBy "sum" (vl (nu vs) p) (vl (nu vs) q) = (vl (nu vs) p + vl (nu vs) q * 1) % 65536 := by
      unfold numBy
      rw [if_neg (ne (by decide +kernel)), if_pos rfl, Int.mul_one]
    rw [e1, e2, e3]
    exact z
  · -- less
    have z := S.add h k 65535
    refine ⟨τ, vs, ?_⟩
    have e1 : joinP ks "less" p q = (ks, addP p q 65535) := by unfold joinP; rw [if_neg (ne (by decide +kernel)), if_pos rfl]
    have e2 : joinL "less" l m = addL l m 65535 := by unfold joinL; rw [if_neg (ne (by decide +kernel)), if_pos rfl]
    have e3 : numBy "less" (vl (nu vs) p) (vl (nu vs) q) = (vl (nu vs) p + vl (nu vs) q * 65535) % 65536 := by
      unfold numBy
      rw [if_neg (ne (by decide +kernel)), if_neg (ne (by decide +kernel)), if_pos rfl]
      omega
    rw [e1, e2, e3]
    exact z
  · -- times
    have e1 : joinP ks "times" p q = timesP ks p q := by unfold joinP; rw [if_neg (ne (by decide +kernel)), if_neg (ne (by decide +kernel)), if_pos rfl]
    have e2 : joinL "times" l m = timesL l m := by unfold joinL; rw [if_neg (ne (by decide +kernel)), if_neg (ne (by decide +kernel)), if_pos rfl]
    have e3 : ∀ x y, numBy "times" x y = (x * y) % 65536 := fun x y => by
      unfold numBy
      rw [if_neg (ne (by decide +kernel)), if_neg (ne (by decide +kernel)), if_neg (ne (by decide +kernel)), if_pos rfl]
    have R0 : R τ (0, []) (0, []) := .num (by decide) (by decide)
    have v0 : vl (nu vs) ((0, []) : PS) = 0 := rfl
    rw [e1, e2, e3]
    unfold timesP timesL
    by_cases c1 : q.2 = []
    · rw [if_pos c1, if_pos (k.emp.mp c1)]
      have z := S.add R0 h q.1
      rw [v0, Int.zero_add] at z
      rw [k.val c1, ← k.n]
      exact ⟨τ, vs, z⟩
    · rw [if_neg c1, if_neg (fun e => c1 (k.emp.mpr e))]
      by_cases c2 : p.2 = []
      · rw [if_pos c2, if_pos (h.emp.mp c2)]
        have z := S.add R0 k p.1
        rw [v0, Int.zero_add] at z
        rw [h.val c2, ← h.n, Int.mul_comm]
        exact ⟨τ, vs, z⟩
      · rw [if_neg c2, if_neg (fun e => c2 (h.emp.mpr e))]
        have prT : ∀ {l m : LS}, Gd l → Gd m → Pr (txTimes l m) := fun {l m} hl hm => by
          unfold txTimes
          refine Pr.app (pr_lit (by decide +kernel)) ?_
          rcases sort2_or (sh l) (sh m) with ⟨a, b⟩ | ⟨a, b⟩ <;> rw [a, b]
          · exact Pr.app (Pr.app (sh_pr hl) bl) (sh_pr hm)
          · exact Pr.app (Pr.app (sh_pr hm) bl) (sh_pr hl)
        by_cases c3 : ltP q p
        · rw [if_pos c3]
          have o : ¬ ltP p q := fun z => Lo.sum.irr _ (Lo.sum.tr _ _ _ z c3)
          have kt : KT τ (.two "times" q p) (txTimes m l) := .times k h o
          have et : txTimes m l = txTimes l m := by unfold txTimes; rw [sort2_comm]
          have ev : KV ρ vs (.two "times" q p) = (vl (nu vs) p * vl (nu vs) q) % 65536 := by simp only [KV]; rw [e3, Int.mul_comm]
          have rg := numBy_rng "times" rq rp
          have z := S.sgl kt (prT hm hl) (by rw [KV]; exact rg.1) (by rw [KV]; exact rg.2)
          rw [ev, et] at z
          exact z
        · rw [if_neg c3]
          have kt : KT τ (.two "times" p q) (txTimes l m) := .times h k c3
          have ev : KV ρ vs (.two "times" p q) = (vl (nu vs) p * vl (nu vs) q) % 65536 := by simp only [KV]; rw [e3]
          have rg := numBy_rng "times" rp rq
          have z := S.sgl kt (prT hl hm) (by rw [KV]; exact rg.1) (by rw [KV]; exact rg.2)
          rw [ev] at z
          exact z
  · -- over
    have e1 : joinP ks "over" p q = overP ks p q := by unfold joinP; rw [if_neg (ne (by decide +kernel)), if_neg (ne (by decide +kernel)), if_neg (ne (by decide +kernel)), if_pos rfl]
    have e2 : joinL "over" l m = twoL "over" l m := by unfold joinL; rw [if_neg (ne (by decide +kernel)), if_neg (ne (by decide +kernel)), if_neg (ne (by decide +kernel)), if_neg (ne (by decide +kernel))]
    have e3 : ∀ x y, numBy "over" x y = if y > 0 then x / y else 0 := fun x y => by unfold numBy; rw [if_pos rfl]
    rw [e1, e2]
    unfold overP twoL
    have nb : ¬ (("over" : Str) = "below") := ne (by decide +kernel)
    by_cases c1 : q = (0, [])
    · rw [if_pos c1, if_pos (.inl (k.zero.mp c1)), e3, k.val (by rw [c1]), c1]
      exact ⟨τ, vs, S.num (by decide) (by decide)⟩
    · have n1 : ¬ (m = (0, []) ∨ (("over" : Str) = "below" ∧ l = m)) := fun z => z.elim (fun y => c1 (k.zero.mpr y)) (fun y => nb y.1)
      rw [if_neg c1, if_neg n1]
      by_cases c2 : p.2 = [] ∧ q.2 = []
      · rw [if_pos c2, if_pos ⟨h.emp.mp c2.1, k.emp.mp c2.2⟩, if_pos rfl, e3, h.val c2.1, k.val c2.2, ← h.n, ← k.n]
        have q0 : q.1 > 0 := by
          have := num0 c2.2 c1
          have := k.okp.n0
          omega
        rw [if_pos q0]
        have a1 := h.okp.n0
        have a2 := h.okp.n1
        refine ⟨τ, vs, S.num (Int.ediv_nonneg a1 (by omega)) ?_⟩
        have := Int.ediv_le_self q.1 a1
        omega
      · rw [if_neg c2, if_neg (fun z => c2 ⟨h.emp.mpr z.1, k.emp.mpr z.2⟩)]
        have rg := kvR "over"
        exact S.sgl (.over h k) (prTwo (pr_lit (by decide +kernel))) rg.1 rg.2
  · -- below
    have e1 : joinP ks "below" p q = belowP ks p q := by unfold joinP; rw [if_neg (ne (by decide +kernel)), if_neg (ne (by decide +kernel)), if_neg (ne (by decide +kernel)), if_neg (ne (by decide +kernel)), if_pos rfl]
    have e2 : joinL "below" l m = twoL "below" l m := by unfold joinL; rw [if_neg (ne (by decide +kernel)), if_neg (ne (by decide +kernel)), if_neg (ne (by decide +kernel)), if_neg (ne (by decide +kernel))]
    have e3 : ∀ x y, numBy "below" x y = if x < y then 1 else 0 := fun x y => by
      unfold numBy
      rw [if_neg (ne (by decide +kernel)), if_neg (ne (by decide +kernel)), if_neg (ne (by decide +kernel)), if_neg (ne (by decide +kernel)), if_pos rfl]
    rw [e1, e2]
    unfold belowP twoL
    have nb : ¬ (("below" : Str) = "over") := ne (by decide +kernel)
    by_cases c1 : q = (0, []) ∨ p = q
    · rw [if_pos c1, if_pos (c1.elim (fun y => .inl (k.zero.mp y)) (fun y => .inr ⟨rfl, (h.eqs k).mp y⟩)), e3]
      have : ¬ vl (nu vs) p < vl (nu vs) q := by
        rcases c1 with y | y
        · rw [k.val (by rw [y]), y]
          show ¬ vl (nu vs) p < 0
          omega
        · rw [y]
          omega
      rw [if_neg this]
      exact ⟨τ, vs, S.num (by decide) (by decide)⟩
    · have n1 : ¬ (m = (0, []) ∨ (("below" : Str) = "below" ∧ l = m)) := fun z => c1 (z.elim (fun y => .inl (k.zero.mpr y)) (fun y => .inr ((h.eqs k).mpr y.2)))
      rw [if_neg c1, if_neg n1]
      by_cases c2 : p.2 = [] ∧ q.2 = []
      · have c3 : l.2 = [] ∧ m.2 = [] := ⟨h.emp.mp c2.1, k.emp.mp c2.2⟩
        rw [if_pos c2, if_pos c3, if_neg nb, e3, h.val c2.1, k.val c2.2, ← h.n, ← k.n]
        have one : 0 ≤ (if p.1 < q.1 then (1 : Int) else 0) ∧ (if p.1 < q.1 then (1 : Int) else 0) < 65536 := by split <;> decide
        exact ⟨τ, vs, S.num one.1 one.2⟩
      · rw [if_neg c2, if_neg (fun z => c2 ⟨h.emp.mpr z.1, k.emp.mpr z.2⟩)]
        have rg := kvR "below"
        exact S.sgl (.below h k) (prTwo (pr_lit (by decide +kernel))) rg.1 rg.2
  · -- same
    have e1 : joinP ks "same" p q = noughtP ks (addP p q 65535) := by unfold joinP; rw [if_neg (ne (by decide +kernel)), if_neg (ne (by decide +kernel)), if_neg (ne (by decide +kernel)), if_neg (ne (by decide +kernel)), if_neg (ne (by decide +kernel))]
    have e2 : joinL "same" l m = sameL l m := by unfold joinL; rw [if_neg (ne (by decide +kernel)), if_neg (ne (by decide +kernel)), if_neg (ne (by decide +kernel)), if_pos rfl]
    have e3 : ∀ x y, numBy "same" x y = if x = y then 1 else 0 := fun x y => by
      unfold numBy
      rw [if_neg (ne (by decide +kernel)), if_neg (ne (by decide +kernel)), if_neg (ne (by decide +kernel)), if_neg (ne (by decide +kernel)), if_neg (ne (by decide +kernel))]
    have g := h.add k 65535
    have gv : vl (nu vs) (addP p q 65535) = (vl (nu vs) p + vl (nu vs) q * 65535) % 65536 := vl_addBy _ _ _ _
    have back : addL m l 65535 = neg ltS (addL l m 65535) := (gap_back Lo.str h.okl k.okl).symm
    have eqz : vl (nu vs) (addP p q 65535) = 0 ↔ vl (nu vs) p = vl (nu vs) q := by
      rw [gv]
      omega
    rw [e1, e2, e3]
    unfold noughtP sameL
    rw [back]
    generalize addP p q 65535 = gp at g gv eqz
    generalize addL l m 65535 = gl at g
    have negV : vl (nu vs) (neg ltI gp) = 0 ↔ vl (nu vs) gp = 0 := by
      have e : vl (nu vs) (neg ltI gp) = (vl (nu vs) ((0, []) : PS) + vl (nu vs) gp * 65535) % 65536 := vl_addBy _ _ _ _
      have v0 : vl (nu vs) ((0, []) : PS) = 0 := rfl
      have := vl_rng (nu vs) gp
      rw [e, v0]
      omega
    by_cases c1 : gp.2 = []
    · rw [if_pos c1, if_pos (g.emp.mp c1), ← g.n]
      have gv2 := g.val c1 (nu vs)
      rw [gv2] at eqz
      have e4 : (if vl (nu vs) p = vl (nu vs) q then (1 : Int) else 0) = if gp.1 = 0 then 1 else 0 := by
        by_cases y : gp.1 = 0
        · rw [if_pos y, if_pos (eqz.mp y)]
        · rw [if_neg y, if_neg (fun z => y (eqz.mpr z))]
      rw [e4]
      exact ⟨τ, vs, S.num (by split <;> decide) (by split <;> decide)⟩
    · rw [if_neg c1, if_neg (fun z => c1 (g.emp.mpr z))]
      have gg := g.gd S.pr
      have gn := g.negs.gd S.pr
      have prN : Pr (txNought gl (neg ltS gl)) := by
        unfold txNought
        refine Pr.app (pr_lit (by decide +kernel)) ?_
        rcases minS_or (sh gl) (sh (neg ltS gl)) with a | a <;> rw [a]
        · exact sh_pr gg
        · exact sh_pr gn
      by_cases c2 : ltP (neg ltI gp) gp
      · rw [if_pos c2]
        have kt : KT τ (.nought (neg ltI gp)) (txNought (neg ltS gl) (neg ltS (neg ltS gl))) := .nought g.negs (by
          rw [neg_neg Lo.int g.okp]
          exact fun z => Lo.sum.irr _ (Lo.sum.tr _ _ _ z c2))
        have et : txNought (neg ltS gl) (neg ltS (neg ltS gl)) = txNought gl (neg ltS gl) := by
          rw [neg_neg Lo.str g.okl]
          unfold txNought
          rw [minS_comm]
        have ev : KV ρ vs (.nought (neg ltI gp)) = if vl (nu vs) p = vl (nu vs) q then 1 else 0 := by
          simp only [KV]
          by_cases y : vl (nu vs) p = vl (nu vs) q
          · rw [if_pos y, if_pos (negV.mpr (eqz.mpr y))]
          · rw [if_neg y, if_neg (fun z => y (eqz.mp (negV.mp z)))]
        rw [et] at kt
        have z := S.sgl kt prN (by rw [ev]; split <;> decide) (by rw [ev]; split <;> decide)
        rw [ev] at z
        exact z
      · rw [if_neg c2]
        have kt : KT τ (.nought gp) (txNought gl (neg ltS gl)) := .nought g c2
        have ev : KV ρ vs (.nought gp) = if vl (nu vs) p = vl (nu vs) q then 1 else 0 := by
          simp only [KV]
          by_cases y : vl (nu vs) p = vl (nu vs) q
          · rw [if_pos y, if_pos (eqz.mpr y)]
          · rw [if_neg y, if_neg (fun z => y (eqz.mp z))]
        have z := S.sgl kt prN (by rw [ev]; split <;> decide) (by rw [ev]; split <;> decide)
        rw [ev] at z
        exact z
theorem sums {ρ : Str → Int} (hρ : ∀ x, 0 ≤ ρ x ∧ ρ x < 65536) : ∀ (t : Trm) {ks : List AKey} {τ : List Str} {vs : List Int}, t.Good → Sta ρ ks τ vs → ∃ τ' vs', Res ρ (sumP ks t).1 (sumP ks t).2 (sumL t) (num ρ t) τ vs τ' vs'
  | .num k, ks, τ, vs, h, S => by
    have e : k % 65536 = k := Int.emod_eq_of_lt h.1 h.2
    refine ⟨τ, vs, ?_⟩
    show Res ρ ks (k % 65536, []) (k % 65536, []) k τ vs τ vs
    rw [e]
    exact S.num h.1 h.2
  | .nam x, ks, τ, vs, h, S => by
    have r := hρ x
    exact S.sgl (.leaf x) (Pr.app (pr_lit (by decide +kernel)) h) r.1 r.2
  | .op w a b, ks, τ, vs, h, S => by
    obtain ⟨τ1, vs1, A⟩ := sums hρ a h.2.1 S
    obtain ⟨τ2, vs2, B⟩ := sums hρ b h.2.2 A.st
    obtain ⟨τ3, vs3, C⟩ := joins B.st h.1 (B.ex.r A.r) B.r
    refine ⟨τ3, vs3, C.st, (A.ex.trans B.ex).trans C.ex, C.r, ?_⟩
    have z := C.v
    rw [B.ex.v A.r, A.v, B.v] at z
    exact z
/-- the whole -/
theorem same_iff {t u : Trm} (ht : t.Good) (hu : u.Good) : (sumP [] t).2 = (sumP (sumP [] t).1 u).2 ↔ sumL t = sumL u := by
  obtain ⟨τ1, vs1, A⟩ := sums (ρ := fun _ => 0) (fun _ => by decide) t ht (Sta.nil _)
  obtain ⟨τ2, vs2, B⟩ := sums (ρ := fun _ => 0) (fun _ => by decide) u hu A.st
  exact (B.ex.r A.r).eqs B.r
theorem same_num {t u : Trm} (ht : t.Good) (hu : u.Good) (h : sumL t = sumL u) {ρ : Str → Int} (hρ : ∀ x, 0 ≤ ρ x ∧ ρ x < 65536) : num ρ t = num ρ u := by
  obtain ⟨τ1, vs1, A⟩ := sums hρ t ht (Sta.nil _)
  obtain ⟨τ2, vs2, B⟩ := sums hρ u hu A.st
  have e := (same_iff ht hu).mpr h
  rw [← A.v, ← B.v, ← e, B.ex.v A.r]
end SU
set_option Elab.async false
set_option linter.all false
set_option maxRecDepth 100000
set_option maxHeartbeats 4000000
/-! ## dicts whose keys are nested tuples, over the hand layer -/
namespace ND
open PySem PySem.Spec PyProof.Rows L2
mutual
/-- the value is the key -/
inductive NkAt (K : PySem.W.Frag) (H : Hp) : V → NestedKey → Prop
  | non : NkAt K H .non .none
  | num (i : Int) : NkAt K H (.int i) (.num i)
  | text (x : Str) : NkAt K H (.str x) (.text x)
  | tup {a : Addr} {vs : List V} {ks : List NestedKey} (h : SqT K H a vs) (r : NkAll K H vs ks) : NkAt K H (.ref a) (.tup ks)
inductive NkAll (K : PySem.W.Frag) (H : Hp) : List V → List NestedKey → Prop
  | nil : NkAll K H [] []
  | cons {v : V} {vs : List V} {k : NestedKey} {ks : List NestedKey} (h : NkAt K H v k) (r : NkAll K H vs ks) : NkAll K H (v :: vs) (k :: ks)
end
section
variable {X : Cx} {pins : List (Addr × Obj)} {σ : L2.St} {H : Hp} {s : Shared}
mutual
theorem nk_is (I : Inv X pins σ H s) : ∀ (k : NestedKey) (v : V) (u : Value), NkAt X.K H v k → RelV v u → NestedIs s.heap k u
  | _, _, _, .non, r => by
    cases r
    exact .none
  | _, _, _, .num i, r => by
    obtain ⟨t, rfl⟩ := r
    exact .int i t
  | _, _, _, .text x, r => by
    obtain ⟨t, rfl⟩ := r
    exact .text x t
  | .tup ks, _, _, .tup h rr, r => by
    cases r
    obtain ⟨its, rv, ⟨o, ho, hc, n, hd⟩, hz⟩ := I.tuple h
    exact .tup ho hc hd (nk_all I ks _ _ rr (by simpa using rv))
theorem nk_all (I : Inv X pins σ H s) : ∀ (ks : List NestedKey) (vs : List V) (us : List Value), NkAll X.K H vs ks → Vals vs us → NestedAll s.heap ks us
  | _, _, _, .nil, r => by
    cases r
    exact .nil
  | k :: ks, _, _, .cons h rr, r => by
    cases r with
    | cons r1 r2 => exact .cons (nk_is I k _ _ h r1) (nk_all I ks _ _ rr r2)
end
end
/-- what stands at d: the entries' keys, where they stand, the values -/
def ndO (P : Program) (w : World) (d : Addr) (ys : List (NestedKey × Addr × V)) : HO := .ext fun h => (d == sysModules) = false ∧ ∃ xs : List (NestedKey × Addr × Value),
  Paired (fun (p : NestedKey × Addr × V) (q : NestedKey × Addr × Value) => p.1 = q.1 ∧ p.2.1 = q.2.1 ∧ RelV p.2.2 q.2.2) ys xs ∧
    ∃ o es ep, h.get? d = some o ∧ o.ExactDict ∧ o.data = .dict es ep ∧ es.toList = xs.map (entryOfKey (nestedKind P w)) ∧ (xs.map (·.1)).Nodup
structure Nd (P : Program) (w : World) (K : PySem.W.Frag) (H : Hp) (d : Addr) (ys : List (NestedKey × Addr × V)) : Prop where
  at_ : H d = some (ndO P w d ys) ∨ (ys = [] ∧ H d = some (.dK []))
  keys : ∀ y ∈ ys, NkAt K H (.ref y.2.1) y.1 ∧ y.1.depth ≤ 8
  len : ys.length ≤ 100000
theorem nd_dict {X : Cx} {pins : List (Addr × Obj)} {σ : L2.St} {H : Hp} {s : Shared} {d : Addr} {ys : List (NestedKey × Addr × V)} (I : Inv X pins σ H s) (h : Nd X.prog X.w X.K H d ys) :
    (d == sysModules) = false ∧ ∃ xs, Paired (fun (p : NestedKey × Addr × V) (q : NestedKey × Addr × Value) => p.1 = q.1 ∧ p.2.1 = q.2.1 ∧ RelV p.2.2 q.2.2) ys xs ∧ s.heap.DictOfH (nestedKind X.prog X.w) d xs := by
  rcases (h.at_).symm with ⟨rfl, ha⟩ | ha
  · obtain ⟨_, hne, vs, kv, o, es, ep, h1, h2, h3⟩ := I.hok d _ ha
    obtain ⟨e1, _, e2, _⟩ := h3
    have en : es.toList = [] := by
      cases kv
      cases hl : es.toList with
      | nil => rfl
      | cons x l =>
        rw [hl] at e2
        cases e2
    exact ⟨hne, [], .nil, o, es, ep, h1, h2, e1, en, (fun x hx => nomatch hx), List.nodup_nil⟩
  have z : ObjOk X.prog X.w H s.heap d (ndO X.prog X.w d ys) := I.hok d _ ha
  obtain ⟨⟨hs, xs, pr, o, es, ep, h1, h2, h3, h4, h5⟩, _, _⟩ := z
  refine ⟨hs, xs, pr, o, es, ep, h1, h2, h3, h4, fun x hx => ?_, h5⟩
  have mem : ∀ {ys : List (NestedKey × Addr × V)} {xs : List (NestedKey × Addr × Value)}, Paired (fun (p : NestedKey × Addr × V) (q : NestedKey × Addr × Value) => p.1 = q.1 ∧ p.2.1 = q.2.1 ∧ RelV p.2.2 q.2.2) ys xs → ∀ x ∈ xs, ∃ y ∈ ys, y.1 = x.1 ∧ y.2.1 = x.2.1 := by
    intro ys xs p
    induction p with
    | nil => intro x hx; cases hx
    | cons r _ ih =>
      intro x hx
      rcases List.mem_cons.mp hx with e | e
      · exact ⟨_, List.mem_cons_self, by rw [e]; exact r.1, by rw [e]; exact r.2.1⟩
      · obtain ⟨y, hy, q⟩ := ih x e
        exact ⟨y, List.mem_cons_of_mem _ hy, q⟩
  obtain ⟨y, hy, e1, e2⟩ := mem pr x hx
  obtain ⟨k1, k2⟩ := h.keys y hy
  rw [← e1, ← e2]
  exact ⟨nk_is I _ _ _ k1 rfl, k2⟩
/-! ### rules -/
abbrev PairN (p : NestedKey × Addr × V) (q : NestedKey × Addr × Value) : Prop := p.1 = q.1 ∧ p.2.1 = q.2.1 ∧ RelV p.2.2 q.2.2
def valY (ys : List (NestedKey × Addr × V)) (k : NestedKey) : Option V := (ys.find? fun y => decide (y.1 = k)).map (·.2.2)
theorem val_pair {k : NestedKey} : ∀ {ys : List (NestedKey × Addr × V)} {xs : List (NestedKey × Addr × Value)}, Paired PairN ys xs →
    (valY ys k = none ∧ atKey xs k = none) ∨ ∃ v a u, valY ys k = some v ∧ atKey xs k = some (a, u) ∧ RelV v u := by
  intro ys xs p
  induction p with
  | nil => exact .inl ⟨rfl, rfl⟩
  | @cons y x ys xs r _ ih =>
    by_cases h : y.1 = k
    · refine .inr ⟨y.2.2, x.2.1, x.2.2, ?_, ?_, r.2.2⟩
      · simp [valY, h]
      · simp [atKey, r.1.symm.trans h]
    · have h2 : x.1 ≠ k := fun e => h (r.1.trans e)
      have e1 : valY (y :: ys) k = valY ys k := by simp [valY, h]
      have e2 : atKey (x :: xs) k = atKey xs k := by simp [atKey, h2]
      rw [e1, e2]
      exact ih
theorem pair_app {ys zs : List (NestedKey × Addr × V)} {xs ws : List (NestedKey × Addr × Value)} (p : Paired PairN ys xs) (q : Paired PairN zs ws) : Paired PairN (ys ++ zs) (xs ++ ws) := by
  induction p with
  | nil => exact q
  | cons r _ ih => exact .cons r ih
section
variable {X : Cx}
/-- k not in d -/
theorem op_notInN (hu : X.A.units + 64 < cLine) : OpR X (compareOp .NotIn) (fun x y H Q => ∃ (a d : Addr) (ys : List (NestedKey × Addr × V)) (k : NestedKey), x = .ref a ∧ y = .ref d ∧ NkAt X.K H (.ref a) k ∧ k.depth ≤ 8 ∧ Nd X.prog X.w X.K H d ys ∧ Q (.bl (!(valY ys k).isSome)) H) := by
  intro pins s σ H x y v u Q I rx ry h
  obtain ⟨a, d, ys, k, rfl, rfl, hk, hd, hn, q⟩ := h
  cases rx
  cases ry
  obtain ⟨ns, xs, pr, dd⟩ := nd_dict I hn
  have key : (nestedKind X.prog X.w).is s.heap k a := ⟨nk_is I _ _ _ hk rfl, hd⟩
  refine notIn_keyed (knd := nestedKind X.prog X.w) (by show X.A.units + 1 + 8 < cLine; omega) key ns ⟨xs, dd, rfl⟩ ?_
  rw [valueAt_pairsH, Option.isSome_map]
  have e : (atKey xs k).isSome = (valY ys k).isSome := by
    rcases val_pair (k := k) pr with ⟨h1, h2⟩ | ⟨v, b, u, h1, h2, _⟩ <;> rw [h1, h2] <;> rfl
  rw [e]
  exact ⟨.bl _, H, I.tok _, rfl, q⟩
/-- d[k] -/
theorem ix_nd (hu : X.A.units + 64 < cLine) : IxR X (fun x y H Q => ∃ (a d : Addr) (ys : List (NestedKey × Addr × V)) (k : NestedKey) (v : V), x = .ref d ∧ y = .ref a ∧ NkAt X.K H (.ref a) k ∧ k.depth ≤ 8 ∧ Nd X.prog X.w X.K H d ys ∧ valY ys k = some v ∧ Q v H) := by
  intro value slice pins s σ H x y v u Q I rx ry h hs
  obtain ⟨a, d, ys, k, w, rfl, rfl, hk, hd, hn, hv, q⟩ := h
  cases rx
  cases ry
  obtain ⟨ns, xs, pr, dd⟩ := nd_dict I hn
  have key : (nestedKind X.prog X.w).is s.heap k a := ⟨nk_is I _ _ _ hk rfl, hd⟩
  rcases val_pair (k := k) pr with ⟨h1, _⟩ | ⟨w', b, u, h1, h2, r⟩
  · rw [h1] at hv
    cases hv
  · rw [h1] at hv
    cases hv
    exact tail_any dd.typeIs slot_dict_getitem.lookup (getItem_keyed (knd := nestedKind X.prog X.w) (by show X.A.units + 1 + 8 < cLine; omega) key ⟨xs, dd, rfl⟩ (by rw [valueAt_pairsH, h2]; rfl) ⟨_, H, I.tok _, r, q⟩) hs
/-- d[k] = v, k new -/
theorem set_nd (hu : X.A.units + 64 < cLine) : PSet X (fun o i v H Q => ∃ (a d : Addr) (ys : List (NestedKey × Addr × V)) (k : NestedKey), o = .ref d ∧ i = .ref a ∧ NkAt X.K H (.ref a) k ∧ k.depth ≤ 8 ∧ Nd X.prog X.w X.K H d ys ∧ valY ys k = none ∧
    Q (upd H d (ndO X.prog X.w d (ys ++ [(k, a, v)])))) := by
  intro pins s σ H o i v ov iv u Q I ro ri rv h
  obtain ⟨a, d, ys, k, rfl, rfl, hk, hd, hn, hv, q⟩ := h
  cases ro
  cases ri
  obtain ⟨ns, xs, pr, dd⟩ := nd_dict I hn
  have key : (nestedKind X.prog X.w).is s.heap k a := ⟨nk_is I _ _ _ hk rfl, hd⟩
  rcases val_pair (k := k) pr with ⟨_, h2⟩ | ⟨w', b, u', h1, _⟩
  · have lx : xs.length = ys.length := (Paired.length pr).symm
    have ln := hn.len
    refine wpAny_setItem_heap (hsz := by rw [lx, sizeLine_eq]; omega) (by show X.A.units + 1 + 8 < cLine; omega) key dd fun h' hm hs => ?_
    rw [storedH_new h2] at hm
    have pr2 : Paired PairN (ys ++ [(k, a, v)]) (xs ++ [(k, a, u)]) := pair_app pr (.cons ⟨rfl, rfl, rv⟩ .nil)
    obtain ⟨ob, es, ep, m1, m2, m3, m4, m5, m6⟩ := hm
    refine ⟨_, I.write (x := d) (e := d) (o := ndO X.prog X.w d (ys ++ [(k, a, v)])) (by rcases hn.at_ with e | ⟨_, e⟩ <;> rw [e] <;> exact True.intro) (.inl rfl) (fun b o nb e => (hs.2 b nb).trans e) ⟨ob, m1⟩ ?_, q⟩
    exact ⟨⟨ns, _, pr2, ob, es, ep, m1, m2, m3, m4, m6⟩, ⟨ob, m1⟩, fun h1 h2 z kk => by
      obtain ⟨z0, z1, z2, o', es', ep', y1, y2, y3, y4, y5⟩ := z
      exact ⟨z0, z1, z2, o', es', ep', kk _ y1, y2, y3, y4, y5⟩⟩
  · rw [h1] at hv
    cases hv
end
end ND
set_option Elab.async false
set_option linter.all false
set_option maxRecDepth 100000
set_option maxHeartbeats 4000000
/-! ## sorted and min of two data, dict of a tuple of pairs, over the hand layer -/
namespace NR
open PySem PySem.Spec PyProof.Rows L2
theorem ms2 {β : Type} (le : β → β → Bool) (p q : β) : [p, q].mergeSort le = if le p q then [p, q] else [q, p] := by
  simp [List.mergeSort, List.MergeSort.Internal.splitInTwo, List.merge]
section
variable {X : Cx}
/-- sorted([x, y]), both data that can be compared -/
def rSort2 (K : PySem.W.Frag) : List V → Hp → VK → Prop := fun vs H Q => ∃ (a : Addr) (x y : V) (dx dy : PyData), vs = [V.ref a] ∧ SqL K H a [x, y] ∧ Dp K H x dx ∧ Dp K H y dy ∧ PySem.W.AllAlike [dx, dy] ∧ PySem.W.Sortable [dx, dy] ∧ dx.depth ≤ 20 ∧ dy.depth ≤ 20 ∧
  ∀ p, H p = none → Q (.ref p) (upd H p (.lst (if PySem.W.dataLt dy dx = true then [y, x] else [x, y])))
theorem cr_sort2 (hu : X.A.units + 64 < cLine) : CallR X (.builtin "sorted") (rSort2 X.K) := by
  intro pins s σ H vs us Q I r h
  obtain ⟨a, x, y, dx, dy, rfl, hs, hx, hy, al, so, d1, d2, q⟩ := h
  obtain ⟨its, rv, hl, hz⟩ := I.list hs
  rw [Vals.ref1 r]
  obtain ⟨u, v, rfl, ru, rw⟩ := vals2 rv
  obtain ⟨as1, r1⟩ := Dp.reads I dx x u hx ru
  obtain ⟨as2, r2⟩ := Dp.reads I dy y v hy rw
  refine PySem.W.sorted_data (β := V × PyData) (R := fun u b => RelV b.1 u) (enc := fun b => b.2) (bs := [(x, dx), (y, dy)]) (vs := [u, v]) hl.isList (.cons ru (.cons rw .nil)) (.cons ⟨_, r1⟩ (.cons ⟨_, r2⟩ .nil)) al so (by show 2 ≤ sizeLine; decide) (fun b hb => ?_) fun out hlen he => ?_
  · rcases List.mem_cons.mp hb with e | e
    · rw [e]; show X.A.units + 2 + dx.depth < cLine; omega
    · rw [List.mem_singleton.mp e]; show X.A.units + 2 + dy.depth < cLine; omega
  · obtain ⟨ep, he'⟩ := PyProof.Rows.sortedAll_at s.heap [u, v] out.toArray
    rw [ms2] at he
    have e0 : PySem.W.dataLe false (fun b : V × PyData => b.2) (x, dx) (y, dy) = !PySem.W.dataLt dy dx := by rw [PySem.W.dataLe_eq]; rfl
    rw [e0] at he
    have vv : Vals (if PySem.W.dataLt dy dx = true then [y, x] else [x, y]) out := by
      cases c : PySem.W.dataLt dy dx with
      | true =>
        rw [c] at he
        rw [if_pos rfl]
        cases he with
        | cons h1 h2 =>
          cases h2 with
          | cons h3 h4 =>
            cases h4
            exact .cons h1 (.cons h3 .nil)
      | false =>
        rw [c] at he
        rw [if_neg Bool.false_ne_true]
        cases he with
        | cons h1 h2 =>
          cases h2 with
          | cons h3 h4 =>
            cases h4
            exact .cons h1 (.cons h3 .nil)
    have ln : (if PySem.W.dataLt dy dx = true then [y, x] else [x, y]).length ≤ sizeLine := by
      have e : (if PySem.W.dataLt dy dx = true then [y, x] else [x, y]).length = 2 := by split <;> rfl
      rw [e]
      decide
    exact ⟨.ref _, _, I.laid (t' := s.toks) (fun _ _ => PyProof.Rows.sortedAll_old) (Nat.le_succ _) (show ObjOk X.prog X.w _ _ _ (.lst _) from ⟨ln, out, ep, vv, by simpa using he'⟩), rfl, q _ (I.hok.fresh (Nat.le_succ _))⟩
/-- min([x, y]), both data that can be compared -/
def rMin2 (K : PySem.W.Frag) : List V → Hp → VK → Prop := fun vs H Q => ∃ (a : Addr) (x y : V) (dx dy : PyData), vs = [V.ref a] ∧ SqL K H a [x, y] ∧ Dp K H x dx ∧ Dp K H y dy ∧ PySem.W.AlikeAll [dx, dy] ∧ dx.depth ≤ 20 ∧ dy.depth ≤ 20 ∧
  ∀ v, (v = x ∧ dx = (if PySem.W.dataLt dy dx = true then dy else dx)) ∨ (v = y ∧ dy = (if PySem.W.dataLt dy dx = true then dy else dx)) → Q v H
theorem cr_min2D (hc : X.calm = true) (hu : X.A.units + 64 < cLine) : CallR X (.builtin "min") (rMin2 X.K) := by
  intro pins s σ H vs us Q I r h
  obtain ⟨a, x, y, dx, dy, rfl, hs, hx, hy, al, d1, d2, q⟩ := h
  obtain ⟨its, rv, hl, hz⟩ := I.list hs
  rw [Vals.ref1 r]
  obtain ⟨u, v, rfl, ru, rw⟩ := vals2 rv
  obtain ⟨as1, r1⟩ := Dp.reads I dx x u hx ru
  obtain ⟨as2, r2⟩ := Dp.reads I dy y v hy rw
  refine PySem.W.min_list_data (x := dx) (xs := [dy]) (I.ok.hd hc) hl.isList (by simpa using ReadsAll.cons r1 (ReadsAll.cons r2 .nil)) al ?_ fun i z h' tk bs hi rd hk => ?_
  · have e : PyData.depthAll [dx, dy] ≤ 20 := by simp only [PyData.depthAll]; omega
    omega
  · have rk : ∀ {u : Value} {d : PyData} {as : List Addr}, Reads s.heap u d as → Reads h' u d as := fun r => PyProof.Rows.Reads.keeps hk r
    have em : PySem.W.minD dx [dy] = if PySem.W.dataLt dy dx = true then dy else dx := rfl
    rw [em] at rd
    have zz : z = u ∨ z = v := by
      match i, hi with
      | 0, hi => exact .inl (Option.some.inj hi).symm
      | 1, hi => exact .inr (Option.some.inj hi).symm
      | k + 2, hi => exact absurd hi (by simp)
    rcases zz with e | e
    · subst e
      exact ⟨x, H, I.kept hk, ru, q x (.inl ⟨rfl, (Reads.unique (rk r1) _ _ rd).1⟩)⟩
    · subst e
      exact ⟨y, H, I.kept hk, rw, q y (.inr ⟨rfl, (Reads.unique (rk r2) _ _ rd).1⟩)⟩
/-- min(x, y) of two texts -/
theorem call_minS (hc : X.calm = true) (hu : X.A.units + 64 < cLine) : CallR X (.builtin "min") (fun vs H Q => ∃ x y : Str, vs = [.str x, .str y] ∧ Q (.str (if y.cps.toList < x.cps.toList then y else x)) H) := by
  intro pins s σ H vs us Q I r h
  obtain ⟨x, y, rfl, q⟩ := h
  obtain ⟨u, v, rfl, ⟨t, rfl⟩, ⟨t', rfl⟩⟩ := vals2 r
  have hT : (s.heap.push { cls := .type "tuple", data := .seq #[.str x t, .str y t'] }).IsTuple s.heap.objs.size #[.str x t, .str y t'] := ⟨_, Heap.get?_push_size _ rfl, rfl, 0, rfl⟩
  have big : (s.heap.push { cls := .type "tuple", data := .seq #[.str x t, .str y t'] }).objs.size = s.heap.objs.size + 1 := Heap.size_push ..
  apply call_min_two
  apply wpAny_pyIter_tuple hT
  have cmp : CmpOf X.prog X.w X.A.in1 .Lt (fun i v => (#[Value.str x t, Value.str y t'] : Array Value)[i]? = some v) (fun i j => decide ((if i = 0 then x else y).cps.toList < (if j = 0 then x else y).cps.toList)) := by
    intro i j vi vj s2 Q2 E2 hi hj h2
    have at_ : ∀ (i : Nat) (v : Value), (#[Value.str x t, Value.str y t'] : Array Value)[i]? = some v → ∃ tk, v = .str (if i = 0 then x else y) tk := by
      intro i v hi
      match i, hi with
      | 0, hi => exact ⟨t, (Option.some.inj hi).symm⟩
      | 1, hi => exact ⟨t', (Option.some.inj hi).symm⟩
      | k + 2, hi => simp at hi
    obtain ⟨t1, rfl⟩ := at_ i vi hi
    obtain ⟨t2, rfl⟩ := at_ j vj hj
    have z := PySem.W.rcLt_alike (.str (if i = 0 then x else y)) (.str (if j = 0 then x else y)) X.A.in1 s2 _ _ [] [] (.str _ t1) (.str _ t2) rfl (fun z => nomatch z) (by show X.A.units + 1 + 0 < cLine; omega) X.prog X.w E2 Q2
    rw [PySem.W.dataLt_str] at z
    exact z h2
  refine ⟨_, [_, s.heap.objs.size], [_], _, _, _, _, rfl, Walks.tuple (A := X.A.in1) (I.ok.hd hc) _ s.heap.objs.size (by rw [big]; exact Nat.ne_of_lt (Nat.lt_succ_self _)) #[.str x t, .str y t'],
    ⟨⟨_, Heap.get?_push_size _ rfl, rfl, rfl⟩, hT.push _⟩, fun c hcm => ?_, (by show 0 < 2; decide), cmp, fun v h' tk hP hk => ?_⟩
  · show c < ((s.heap.push _).push _).objs.size
    rw [Heap.size_push, big]
    have z : c = (s.heap.push { cls := .type "tuple", data := .seq #[.str x t, .str y t'] }).objs.size ∨ c = s.heap.objs.size := by simpa using hcm
    rcases z with e | e
    · rw [e, big]; exact Nat.lt_succ_self _
    · rw [e]; exact Nat.lt_succ_of_lt (Nat.lt_succ_self _)
  · have old : ∀ c o, s.heap.get? c = some o → h'.get? c = some o := by
      intro c o e
      refine hk c o (fun hm => ?_) (Heap.get?_push_of_some _ (Heap.get?_push_of_some _ e))
      have lt := Heap.lt_size e
      have e2 : c = (s.heap.push { cls := .type "tuple", data := .seq #[.str x t, .str y t'] }).objs.size := List.mem_singleton.mp hm
      rw [big] at e2
      exact absurd lt (by rw [e2]; exact Nat.not_lt.mpr (Nat.le_succ _))
    refine ⟨_, H, I.kept old, ?_, q⟩
    have hP' : (#[Value.str x t, Value.str y t'] : Array Value)[argBest (fun i j => decide ((if i = 0 then x else y).cps.toList < (if j = 0 then x else y).cps.toList)) 1]? = some v := hP
    by_cases c : y.cps.toList < x.cps.toList
    · have e : argBest (fun i j => decide ((if i = 0 then x else y).cps.toList < (if j = 0 then x else y).cps.toList)) 1 = 1 := by simp [argBest, c]
      rw [e] at hP'
      rw [if_pos c]
      exact ⟨t', (Option.some.inj hP').symm⟩
    · have e : argBest (fun i j => decide ((if i = 0 then x else y).cps.toList < (if j = 0 then x else y).cps.toList)) 1 = 0 := by simp [argBest, c]
      rw [e] at hP'
      rw [if_neg c]
      exact ⟨t, (Option.some.inj hP').symm⟩
/-! ### tuples that have no dict of their own -/
def TN (K : PySem.W.Frag) (H : Hp) (a : Addr) (xs : List V) : Prop :=
  (∃ o, H a = some (.frz o (.tup xs)) ∧ o.dict = none) ∨ ∃ (o : Obj) (its : Array Value) (n : Nat), K.lookup a = some o ∧ o.cls = .type "tuple" ∧ o.dict = none ∧ o.data = .seq its n ∧ its.size ≤ sizeLine ∧ Vals xs its.toList
theorem TN.sq {K : PySem.W.Frag} {H : Hp} {a : Addr} {xs : List V} (h : TN K H a xs) : SqT K H a xs := by
  rcases h with ⟨o, h, _⟩ | ⟨o, its, n, h1, h2, _, h3, h4, h5⟩
  · exact .inl (.inr ⟨o, h⟩)
  · exact .inr ⟨o, its, n, h1, h2, h3, h4, h5⟩
theorem TN.plain {pins : List (Addr × Obj)} {σ : L2.St} {H : Hp} {s : Shared} {a : Addr} {xs : List V} (I : Inv X pins σ H s) (h : TN X.K H a xs) : ∃ its : List Value, Vals xs its ∧ PlainSeq "tuple" s.heap a its.toArray ∧ xs.length ≤ sizeLine := by
  rcases h with ⟨o, h, hd⟩ | ⟨o, its, n, h1, h2, hd, h3, h4, h5⟩
  · obtain ⟨g, z, its, r, o', ho', hc, n, hs⟩ := I.hok a _ h
    rw [g] at ho'
    cases ho'
    exact ⟨its, r, ⟨o, n, g, hc, hd, hs⟩, z⟩
  · refine ⟨its.toList, h5, ⟨o, n, I.kIn a o h1, h2, hd, by simpa using h3⟩, ?_⟩
    have e := h5.length
    simp only [Array.length_toList] at e
    omega
/-- (e, ..) -/
def tTupF (t : TA) : TE := fun σ H Q => t σ H fun xs H1 => xs.length ≤ sizeLine ∧ ∀ p o, H1 p = none → o.dict = none → Q (.ref p) (upd H1 p (.frz o (.tup xs)))
theorem pe_tupF {es : List Expr} {x1 : Nat} {pos : Pos} {t : TA} (h : PA X es t) : PE X (.Tuple es x1 pos) (tTupF t) := by
  constructor
  intro pins s σ H Q I hq
  apply wpAny_Tuple_spliced
  refine thn (h.run pos pins s σ H _ I hq) fun us s1 z1 => ?_
  obtain ⟨xs, H1, I1, r, z, q⟩ := z1
  refine ⟨by rw [← r.length]; exact z, ?_⟩
  have g : (s1.heap.push { cls := .type "tuple", data := .seq us.toArray }).get? s1.heap.objs.size = some { cls := .type "tuple", data := .seq us.toArray } := Heap.get?_push_size _ rfl
  exact ⟨.ref s1.heap.objs.size, _, I1.laid (t' := s1.toks) (o := .frz { cls := .type "tuple", data := .seq us.toArray } (.tup xs)) (fun b u e => Heap.get?_push_of_some _ e) (Nat.le_refl _) ⟨g, z, us, r, _, g, rfl, _, rfl⟩, rfl, q _ _ (I1.hok.fresh (Nat.le_refl _)) rfl⟩
/-- tuple(xs), xs a list -/
theorem call_tupleF : CallR X (.type "tuple") (fun xs H Q => ∃ p ys, xs = [.ref p] ∧ SqL X.K H p ys ∧ ∀ l o, H l = none → o.dict = none → Q (.ref l) (upd H l (.frz o (.tup ys)))) := by
  intro pins s σ H xs us Q I r h
  obtain ⟨p, ys, rfl, hq, q⟩ := h
  obtain ⟨u, rfl, rx⟩ := vals1 r
  cases rx
  obtain ⟨its, r', pl, hz⟩ := I.list hq
  have ln := r'.length
  refine call_tuple_list pl.isList (fun h' kp => ?_) (by simp only [List.size_toArray]; omega)
  have I1 : Inv X pins σ H { s with heap := h' } := I.kept (t' := s.toks) kp
  have g : (h'.push { cls := .type "tuple", data := .seq its.toArray }).get? h'.objs.size = some { cls := .type "tuple", data := .seq its.toArray } := Heap.get?_push_size _ rfl
  exact ⟨.ref h'.objs.size, _, I1.laid (t' := s.toks) (o := .frz { cls := .type "tuple", data := .seq its.toArray } (.tup ys)) (fun b o e => Heap.get?_push_of_some _ e) (Nat.le_refl _) ⟨g, hz, its, r', _, g, rfl, _, rfl⟩, rfl, q _ _ (I1.hok.fresh (Nat.le_refl _)) rfl⟩
/-! ### dict(t), t a tuple of pairs -/
theorem pairsT {pins : List (Addr × Obj)} {σ : L2.St} {H : Hp} {s : Shared} (I : Inv X pins σ H s) : ∀ {ps : List Addr} {kvs : List (Key × V)}, Paired (fun p kv => SqT X.K H p [kV kv.1, kv.2]) ps kvs →
    ∃ (prs : List (Key × Value)) (us : List (Value × Value)), KV kvs prs ∧ prs.length = ps.length ∧ us.length = ps.length ∧ ∀ (j : Nat) (u v : Value), us[j]? = some (u, v) → ∃ (b : Addr) (k : Key), ps[j]? = some b ∧ prs[j]? = some (k, v) ∧ IsTup s.heap b #[u, v] ∧ keyIs k u = true
  | _, _, .nil => ⟨[], [], .nil, rfl, rfl, fun j u v e => by simp at e⟩
  | _, _, .cons (a := p) (b := kv) h t => by
    obtain ⟨prs, us, r, hl, hl2, hp⟩ := pairsT I t
    obtain ⟨its, rv, ht, _⟩ := I.tuple h
    obtain ⟨u, y, rfl, ru, ry⟩ := vals2 rv
    refine ⟨(kv.1, y) :: prs, (u, y) :: us, .cons ⟨rfl, ry⟩ r, by simp [hl], by simp [hl2], fun j u' v' e => ?_⟩
    cases j with
    | zero =>
      have e' : (u, y) = (u', v') := Option.some.inj e
      cases e'
      exact ⟨p, kv.1, rfl, rfl, ht, kV_is (P := X.prog) (w := X.w) ru⟩
    | succ j =>
      obtain ⟨b, k, e1, e2, e3⟩ := hp j u' v' (by simpa using e)
      exact ⟨b, k, by simpa using e1, by simpa using e2, e3⟩
theorem call_dictT (hcalm : X.calm = true) : CallR X (.type "dict") (fun xs H Q => ∃ (a : Addr) (ps : List Addr) (kvs : List (Key × V)), xs = [.ref a] ∧ TN X.K H a (ps.map V.ref) ∧ Paired (fun p kv => SqT X.K H p [kV kv.1, kv.2]) ps kvs ∧
    ∀ p, H p = none → Q (.ref p) (upd H p (.dK (mergeK [] kvs)))) := by
  intro pins s σ H xs us Q I r q
  obtain ⟨a, ps, kvs, rfl, hq, hp, q⟩ := q
  obtain ⟨u, rfl, rx⟩ := vals1 r
  cases rx
  obtain ⟨its, rv, pl, hz⟩ := hq.plain I
  have ei := refs_at rv
  subst ei
  rw [List.length_map] at hz
  obtain ⟨prs, vps, rel, hl, hl2, hpr⟩ := pairsT I hp
  refine PySem.call_dict_pairs (knd := mixKind X.prog X.w) (kvs := prs) (PairArg.tuple a (ps.map Value.ref).toArray (fun j => ps.getD j 0) vps) (I.ok.hd hcalm) ⟨pl, by simp [hl2], fun j k v e => ?_⟩ ⟨by rw [hl, hl2], fun i key v e => ?_⟩ (by rw [hl2]; exact hz) fun h' tk hd' k => ?_
  · obtain ⟨b, kk, e1, e2, e3, e4⟩ := hpr j k v e
    refine ⟨by simp [e1], .inl ?_⟩
    have eb : ps.getD j 0 = b := by rw [List.getD_eq_getElem?_getD, e1]; rfl
    show s.heap.IsTuple (ps.getD j 0) #[k, v]
    rw [eb]
    exact e3
  · obtain ⟨b, kk, e1, e2, e3, e4⟩ := hpr i key v e
    exact ⟨kk, e2, e4⟩
  · have hm : (s.heap.objs.size == sysModules) = false := beq_eq_false_iff_ne.mpr (Nat.ne_of_gt I.big)
    have hlen : (mergeK [] kvs).length ≤ sizeLine := by
      refine Nat.le_trans (length_mergeK kvs []) ?_
      rw [List.length_nil, Nat.zero_add, rel.length, hl]
      exact hz
    exact ⟨.ref s.heap.objs.size, _, I.laid (t' := tk) (fun b o e => k b o (fun z => nomatch z) e) (Nat.le_refl _) (show ObjOk X.prog X.w _ _ _ (.dK (mergeK [] kvs)) from ⟨hlen, hm, merged [] prs, KV.merge rel .nil, hd'⟩), rfl, q _ (I.hok.fresh (Nat.le_refl _))⟩
end
end NR
set_option Elab.async false
set_option linter.all false
set_option maxRecDepth 100000
set_option maxHeartbeats 4000000
/-! ## promises of defs that are called where no repr is under way -/
namespace KG
open PySem PySem.Spec PyProof.Rows L2
abbrev Gd (A : Around) : Prop := A.guards = some []
structure FnG (P : Program) (w : World) (K : PySem.W.Frag) (mg : Str → Option Value) (base : Heap) (k : Nat) (f : Addr) (fd : FuncData) (ps : List Str) (sp : Sp) : Prop where
  len : ∀ vs H Q E, sp vs H Q E → vs.length = ps.length
  go : ∀ (A : Around) (outer : List Env) (s : Shared) (H : Hp) (args : Args) (us : List Value) (vs : List V) (Q : VK),
    Gd A → Room k A → Env0 P w K mg base A outer s H → BindsTo s fd args (ps.zip us) → Vals vs us → sp vs H Q E0 →
      codeAny (model P w) A (.call (.ref f) args) (CR CX0 outer P w H s Q E0) s
section
variable {P : Program} {w : World} {K : PySem.W.Frag} {mg : Str → Option Value} {base : Heap}
theorem FnG.of {k : Nat} {f : Addr} {fd : FuncData} {ps : List Str} {sp : Sp} (F : FnOk P w K mg base CX0 k f fd ps sp) : FnG P w K mg base k f fd ps sp :=
  ⟨F.len, fun A outer s H args us vs Q _ hr he hb hv hs => F.run A outer s H args us vs Q E0 hr he hb hv hs⟩
theorem FnG.mono {j k : Nat} {f : Addr} {fd : FuncData} {ps : List Str} {sp : Sp} (F : FnG P w K mg base j f fd ps sp) (h : j ≤ k) : FnG P w K mg base k f fd ps sp :=
  ⟨F.len, fun A outer s H args us vs Q g hr he hb hv hs => F.go A outer s H args us vs Q g (hr.mono h) he hb hv hs⟩
/-- a def by its body; the body knows that no repr is under way -/
theorem okG {x qual : Str} {st : Stmt} {f : Addr} {fd : FuncData} {N ps : List Str} {k : Nat} {sp : Sp} (F : Fun K x qual st f fd) (S : FnScope N ps (defScope st))
    (len : ∀ vs H Q E, sp vs H Q E → vs.length = ps.length)
    (hbody : ∀ (cdv : Value) (A : Around) (outer : List Env) (s : Shared) (H : Hp) (vs : List V) (Q : VK), Gd (A.deeper (envOfC qual (defScope st) s.heap.objs.size f cdv)) →
      Room k (A.deeper (envOfC qual (defScope st) s.heap.objs.size f cdv)) → sp vs H Q E0 →
      ∃ t, PSs (cxOf CX0 P w K mg base N qual (defScope st) f cdv A outer s H E0).nox (defBody st) t ∧ t { nx := fun _ H' => Q .non H', rt := Q } (start N vs) H) :
    FnG P w K mg base (k + 1) f fd ps sp := by
  refine ⟨len, ?_⟩
  intro A outer s H args us vs Q hg hr e0 hb r hsp
  obtain ⟨oc, od, kV, doc, pm, an, cdv, ct, osl, rfl, lk, hcd⟩ := F.ex
  have stays : ∀ b o, base.get? b = some o → s.heap.get? b = some o := fun b o e => (e0.bs b o e).1
  have inK : K.In s.heap := e0.mod.kin.keeps stays
  have noL : s.heap.NoLimit := e0.mod.nolimit.keeps stays
  have kinds : ∀ y ∈ ps.zip us, (defScope st).names.lookup y.1 = some .local ∨ ((defScope st).names.lookup y.1 = some .cell ∧ ((cellsFrom (s.heap.objs.size + 1) (defScope st).names []).lookup y.1).isSome = true) := by
    rintro ⟨n, v⟩ hy
    have hn := (List.of_mem_zip hy).1
    cases S.par n hn with
    | inl q => exact .inl q
    | inr q => exact .inr ⟨q, PySem.W.cellsFrom_some _ _ _ (.inl q)⟩
  apply codeAny_call_function hr.depth (inK _ _ lk) rfl S.co S.gen rfl (PySem.W.codeRec_of inK hcd)
  apply hb
  apply wpAny_newFunctionEnv_cells S.kind kinds
  intro env he s1 x
  subst he
  refine ⟨noL.keeps x.toInCall.keep, codeAny_func ?_⟩
  have hgd : Gd (A.deeper (envOfC qual (defScope st) s.heap.objs.size f cdv)) := hg
  obtain ⟨t, ht0, hq⟩ := hbody cdv A outer s H vs Q hgd (hr.deeper _) hsp
  have ht := ht0.nox
  have I := inv_start (CX := CX0) (E := E0) (qual := qual) (f := f) (cd := cdv) S hr.hd e0 (len _ _ _ _ hsp) r x
  have done : ∀ {σ' : L2.St} {H' : Hp} {s' : Shared} {v : V} {u : Value}, Inv (cxOf CX0 P w K mg base N qual (defScope st) f cdv A outer s H E0) [] σ' H' s' → RelV v u → Q v H' → CE outer P w H s Q u s' := by
    intro σ' H' s' v u J rv q
    exact ⟨v, H', J.os, J.bare, J.base, J.hok, rv, q⟩
  apply wpAny_mono (ht.run [] s1 (start N vs) H _ I hq)
  · intro fl s' hs
    cases fl with
    | ret u => obtain ⟨v, σ', H', J, rv, q⟩ := hs; exact done J rv q
    | next => obtain ⟨σ', H', J, q⟩ := hs; exact done (v := V.non) J rfl q
    | brk => obtain ⟨_, _, _, q⟩ := hs; exact q.elim
    | cont => obtain ⟨_, _, _, q⟩ := hs; exact q.elim
  · intro e s' hs
    exact hs
end
section
variable {X : Cx} {k : Nat} {f : Addr} {fd : FuncData} {ps ks : List Str} {sp : Sp} {x : Str} {p pos : Pos} {e : Expr} {es : List Expr} {kws : List Keyword} {t tk : TA}
theorem runG {pins : List (Addr × Obj)} {σ : L2.St} {H : Hp} {s : Shared} {Q : VK} {args : Args} {us : List Value} {vs : List V} (F : FnG X.prog X.w X.K X.mg X.base k f fd ps sp) (hg : Gd X.A) (hr : Room k X.A)
    (I : Inv X pins σ H s) (hb : BindsTo s fd args (ps.zip us)) (r : Vals vs us) (h : sp vs H Q E0) : codeAny (model X.prog X.w) X.A (.call (.ref f) args)
      (fun rr s' => match rr with | .ok (.ret u) => EP X pins σ Q u s' | .ok _ => False | .error e => X.xe e s') s := by
  refine codeAny_mono (F.go X.A X.stack s H args us vs Q hg hr I.env0 hb r h) fun rr s' hq => ?_
  cases rr with
  | error er => exact hq.elim
  | ok fl =>
    cases fl with
    | ret u => exact I.after hq
    | _ => exact hq.elim
/-- f(e, ..) -/
theorem pe_callG (F : FnG X.prog X.w X.K X.mg X.base k f fd ps sp) (hgd : Gd X.A) (hr : Room k X.A) (hg : Gl X x) (hm : X.mg x = some (.ref f)) (hk : PySem.W.keepIn X.K (.ref f) = true) (hb : Binds X.K fd ps [])
    (ha : PA X (e :: es) t) (hdb : (x == ("__debug__" : Str)) = false := by decide) (he : starEach (e :: es) X.env = (false, eval e X.env) :: starEach es X.env := by rfl) (hpl : (backTo pos (starEach es X.env)).any (·.1) = false := by rfl) :
    PE X (.Call (.Name x p) (e :: es) [] pos) (fun σ H Q => t σ H fun vs H1 => sp vs H1 Q E0) := by
  constructor
  intro pins s σ H Q I h
  refine wpAny_Call_Name_kw (ld_glob I hg hm ?_ hdb)
  refine PySem.W.callWith_K (h₀ := X.base) I.ok.mod.kin hk (thn (ha.run pos pins s σ H _ I h) fun us s1 z => ?_) he hpl
  obtain ⟨vs, H1, I1, r, q⟩ := z
  refine ⟨I1.kIn, wpAny_call ?_⟩
  have hl : us.length = ps.length := r.length.symm.trans (F.len _ _ _ _ q)
  have bb : BindsTo s1 fd ⟨us, []⟩ (ps.zip us) := by
    have z := hb s1 us I1.kIn (by rw [List.append_nil]; exact hl)
    rwa [List.append_nil] at z
  exact runG F hgd hr I1 bb r q
/-- the promise of a call whose arguments all come by names: g puts them in the parameters' order -/
structure KwOnly (K : PySem.W.Frag) (fd : FuncData) (ps ks : List Str) (g : {α : Type} → List α → List α) : Prop where
  to : ∀ (s : Shared) (ws : List Value), K.In s.heap → ws.length = ks.length → BindsTo s fd ⟨[], ks.zip ws⟩ (ps.zip (g ws))
  rel : ∀ {zs : List V} {ws : List Value}, Vals zs ws → zs.length = ks.length → Vals (g zs) (g ws)
theorem pe_kwG {g : {α : Type} → List α → List α} (F : FnG X.prog X.w X.K X.mg X.base k f fd ps sp) (hgd : Gd X.A) (hr : Room k X.A) (hg : Gl X x) (hm : X.mg x = some (.ref f)) (hk : PySem.W.keepIn X.K (.ref f) = true) (hb : KwOnly X.K fd ps ks g)
    (hkw : PK X kws tk) (hall : (backToKw pos (keywordEach kws X.env)).all (·.1.isSome) = true := by rfl) (hks : (backToKw pos (keywordEach kws X.env)).filterMap (·.1) = ks := by rfl) (hdb : (x == ("__debug__" : Str)) = false := by decide)
    (hpl : ((backTo pos (starEach [] X.env)).any (·.1) || (backToKw pos (keywordEach kws X.env)).any (·.1.isNone)) = false := by rfl) :
    PE X (.Call (.Name x p) [] kws pos) (fun σ H Q => tk σ H fun zs H1 => zs.length = ks.length ∧ sp (g zs) H1 Q E0) := by
  constructor
  intro pins s σ H Q I h
  refine wpAny_Call_Name_kw (ld_glob I hg hm ?_ hdb)
  refine PySem.W.callWith_KW0 (h₀ := X.base) I.ok.mod.kin hk hall (thn (hkw.run pos pins s σ H _ I h) fun ws s1 z => ?_) hpl
  obtain ⟨zs, H1, I1, rz, l1, q⟩ := z
  refine ⟨I1.kIn, ?_⟩
  rw [hks]
  exact wpAny_call (runG F hgd hr I1 (hb.to s1 ws I1.kIn (rz.length.symm.trans l1)) (hb.rel rz l1) q)
/-! ## repr of data -/
def rRepr (K : PySem.W.Frag) : List V → Hp → VK → Prop := fun xs H Q => ∃ (v : V) (d : PyData), xs = [v] ∧ Dp K H v d ∧ d.showable = true ∧ d.hasDict = false ∧ d.shown.length ≤ sizeLine ∧ d.depth ≤ 50 ∧ Q (.str d.shown) H
theorem call_reprD (hgd : Gd X.A) (hr : Room k X.A) : CallR X (.builtin "repr") (rRepr X.K) := by
  intro pins s σ H xs us Q I r h
  obtain ⟨v, d, rfl, hd, hs, hn, hz, hdp, q⟩ := h
  obtain ⟨u, rfl, ru⟩ := vals1 r
  obtain ⟨as, rd⟩ := Dp.reads I d v u hd ru
  have hu := hr.units
  have fin : ∀ (a : Addr), u = .ref a → wpAny (model X.prog X.w) X.A (call (.builtin "repr") [u]) (EP X pins σ Q) X.xe s := by
    intro a e
    subst e
    refine repr_of_reads' rd hs (PyData.noDict_hsm hn) hgd (by omega) (fun _ _ e => e) (fun h' u tk hk => ?_) hz
    exact ⟨.str d.shown, H, I.kept (t' := tk) hk, ⟨_, rfl⟩, q⟩
  cases hd with
  | non => cases ru; exact PySem.P.repr_of_none ⟨.str _, H, I.tok _, ⟨_, rfl⟩, by simpa only [PyData.shown] using q⟩
  | bl b => cases ru; exact PySem.P.repr_of_bool ⟨.str _, H, I.tok _, ⟨_, rfl⟩, by simpa only [PyData.shown] using q⟩
  | int i =>
    obtain ⟨t, rfl⟩ := ru
    exact PySem.P.repr_of_int (by simpa [PyData.showable] using hs) ⟨.str _, H, I.tok _, ⟨_, rfl⟩, by simpa only [PyData.shown] using q⟩
  | str y =>
    obtain ⟨t, rfl⟩ := ru
    exact PySem.P.repr_of_str ⟨.str _, H, I.tok _, ⟨_, rfl⟩, by simpa only [PyData.shown] using q⟩ (by simpa only [PyData.shown] using hz)
  | @lst a xs ds h1 h2 => exact fin a ru
  | @tup a xs ds h1 h2 => exact fin a ru
end
end KG
set_option Elab.async false
set_option linter.all false
set_option maxRecDepth 100000
set_option maxHeartbeats 4000000
/-! ## a lambda with parameters and captured names, handed to a def that calls it -/
namespace KL
open PySem PySem.Spec PyProof.Rows L2 LamX NdefX KG
abbrev lamO (F : NF) (body : Expr) (pm ctv : Value) : Obj := PySem.W.kla_obj F.name F.qual F.params body F.scope F.cl pm F.c ctv
/-- the function object, its captured cells: known of the state, not tracked -/
structure LamAt (F : NF) (ob : Obj) (f : Addr) (fr : List Str) (ws : List (Option V)) (h : Heap) (H : Hp) (outer : List Env) : Prop where
  fn : h.get? f = some ob
  fnN : H f = none
  fnF : f ∉ frs outer
  cells : CellsAt F.cl fr ws h H
  cellF : ∀ y c, F.cl.lookup y = some c → c ∉ frs outer
section
variable {X : Cx} {pins : List (Addr × Obj)} {σ : L2.St} {H : Hp} {s : Shared} {F : NF} {ob : Obj} {f : Addr} {fr : List Str} {ws : List (Option V)}
theorem old_not_stack {b : Addr} {o : Obj} (I : Inv X pins σ H s) (h : X.s_0.heap.get? b = some o) (n : b ∉ X.fs) : b ∉ frs X.stack := fun z => by
  cases List.mem_cons.mp (I.stkSub b z) with
  | inl e =>
    have h1 := Heap.lt_size h
    have h2 := I.ok.above
    rw [e] at h1
    exact absurd (Nat.lt_of_lt_of_le h1 h2) (Nat.lt_irrefl _)
  | inr e => exact n e
theorem LamAt.later (L : LamAt F ob f fr ws X.s_0.heap X.H_0 X.outer) (hx : X.ex = []) (I : Inv X pins σ H s) : LamAt F ob f fr ws s.heap H X.stack := by
  have nx : ∀ b, b ∉ X.ex := fun b z => by
    rw [hx] at z
    cases z
  refine ⟨I.base.keep f ob L.fn L.fnN L.fnF (nx f), I.base.free f ob L.fn L.fnN (nx f), old_not_stack I L.fn L.fnF, L.cells.later L.cellF (fun _ c _ => nx c) I, fun y c e => ?_⟩
  obtain ⟨_, v, o, ho, _⟩ := L.cells.all y c e
  exact old_not_stack I ho (L.cellF y c e)
end
/-- the call of the lambda -/
theorem lam_run {P : Program} {w : World} {K : PySem.W.Frag} {mg : Str → Option Value} {base : Heap} {N ps fr : List Str} {F : NF} {f : Addr} {A : Around} {outer : List Env} {s : Shared} {H : Hp} {us : List Value} {vs : List V} {ws : List (Option V)} {body : Expr} {pm ctv : Value} {k : Nat} {tb : TE} {Q : VK}
    (S : NScope N ps fr F.scope) (hr : Room (k + 1) A) (e0 : Env0 P w K mg base A outer s H) (L : LamAt F (lamO F body pm ctv) f fr ws s.heap H outer) (hc : H F.c = some (CodeO F.c F.qual))
    (hb : bindArgs (PySem.W.kla_fn F.name F.qual F.params body F.scope F.cl pm (.ref F.c) ctv) ⟨us, []⟩ = pure (ps.zip us)) (r : Vals vs us) (hl : vs.length = ps.length)
    (hbody : Room k (A.deeper (envF F f s.heap.objs.size)) → PE (ncx CX0 P w K mg base N F f A outer s H E0) body tb) (ht : tb (startF N vs ws) H Q) :
    codeAny (model P w) A (.call (.ref f) ⟨us, []⟩) (CR CX0 outer P w H s Q E0) s := by
  have lim : s.heap.NoLimit := e0.mod.nolimit.keeps fun b o e => (e0.bs b o e).1
  refine PySem.W.kla_callFunE hr.depth L.fn rfl S.co S.gen rfl (codeO_at e0.hok hc) ?_
  rw [hb]
  refine wpAny_pure (wpAny_newFunctionEnv S.nocell (fun y hy => S.par y.1 (List.of_mem_zip hy).1) (fun h₁ hns hsb => ?_) S.kind)
  refine ⟨lim.fresh _ hsb, ?_⟩
  show codeAny _ _ (.expr body (envF F f s.heap.objs.size)) _ _
  have kp : ∀ b o, s.heap.get? b = some o → h₁.get? b = some o := by
    intro b o e
    exact hsb.extBut b o (Nat.ne_of_lt (Heap.lt_size e)) (Heap.get?_push_of_some _ e)
  have J := inv_startN (CX := CX0) (E := E0) (N := N) (F := F) (f := f) (tk := s.toks + (ps.zip us).length) S hr.hd e0 hl r L.cells hns kp
  refine PySem.W.kla_codeExpr (wpAny_mono ((hbody (hr.deeper _)).run [] _ _ H Q J ht) (fun v s' hq => ?_) fun e s' hq => hq)
  obtain ⟨z, H', J', rv, q⟩ := hq
  exact ⟨z, H', J'.os, J'.bare, J'.base, J'.hok, rv, q⟩
/-- the promise of a def that is handed such a lambda -/
structure FnL (P : Program) (w : World) (K : PySem.W.Frag) (mg : Str → Option Value) (base : Heap) (F : NF) (ob : Obj) (fl : Addr) (fr : List Str) (ws : List (Option V)) (k : Nat) (f : Addr) (fd : FuncData) (ps : List Str) (sp : Sp) : Prop where
  len : ∀ vs H Q E, sp vs H Q E → vs.length = ps.length
  go : ∀ (A : Around) (outer : List Env) (s : Shared) (H : Hp) (args : Args) (us : List Value) (vs : List V) (Q : VK),
    Room k A → Env0 P w K mg base A outer s H → LamAt F ob fl fr ws s.heap H outer → BindsTo s fd args (ps.zip us) → Vals vs us → sp vs H Q E0 →
      codeAny (model P w) A (.call (.ref f) args) (CR CX0 outer P w H s Q E0) s
theorem okL {P : Program} {w : World} {K : PySem.W.Frag} {mg : Str → Option Value} {base : Heap} {Fl : NF} {ob : Obj} {fl : Addr} {fr : List Str} {ws : List (Option V)} {x qual : Str} {st : Stmt} {f : Addr} {fd : FuncData} {N ps : List Str} {k : Nat} {sp : Sp} (F : Fun K x qual st f fd) (S : FnScope N ps (defScope st))
    (len : ∀ vs H Q E, sp vs H Q E → vs.length = ps.length)
    (hbody : ∀ (cdv : Value) (A : Around) (outer : List Env) (s : Shared) (H : Hp) (vs : List V) (Q : VK), Room k (A.deeper (envOfC qual (defScope st) s.heap.objs.size f cdv)) → LamAt Fl ob fl fr ws s.heap H outer → sp vs H Q E0 →
      ∃ t, PSs (cxOf CX0 P w K mg base N qual (defScope st) f cdv A outer s H E0).nox (defBody st) t ∧ t { nx := fun _ H' => Q .non H', rt := Q } (start N vs) H) :
    FnL P w K mg base Fl ob fl fr ws (k + 1) f fd ps sp := by
  refine ⟨len, ?_⟩
  intro A outer s H args us vs Q hr e0 hL hb r hsp
  obtain ⟨oc, od, kV, doc, pm, an, cdv, ct, osl, rfl, lk, hcd⟩ := F.ex
  have stays : ∀ b o, base.get? b = some o → s.heap.get? b = some o := fun b o e => (e0.bs b o e).1
  have inK : K.In s.heap := e0.mod.kin.keeps stays
  have noL : s.heap.NoLimit := e0.mod.nolimit.keeps stays
  have kinds : ∀ y ∈ ps.zip us, (defScope st).names.lookup y.1 = some .local ∨ ((defScope st).names.lookup y.1 = some .cell ∧ ((cellsFrom (s.heap.objs.size + 1) (defScope st).names []).lookup y.1).isSome = true) := by
    rintro ⟨n, v⟩ hy
    have hn := (List.of_mem_zip hy).1
    cases S.par n hn with
    | inl q => exact .inl q
    | inr q => exact .inr ⟨q, PySem.W.cellsFrom_some _ _ _ (.inl q)⟩
  apply codeAny_call_function hr.depth (inK _ _ lk) rfl S.co S.gen rfl (PySem.W.codeRec_of inK hcd)
  apply hb
  apply wpAny_newFunctionEnv_cells S.kind kinds
  intro env he s1 x
  subst he
  refine ⟨noL.keeps x.toInCall.keep, codeAny_func ?_⟩
  obtain ⟨t, ht0, hq⟩ := hbody cdv A outer s H vs Q (hr.deeper _) hL hsp
  have ht := ht0.nox
  have I := inv_start (CX := CX0) (E := E0) (qual := qual) (f := f) (cd := cdv) S hr.hd e0 (len _ _ _ _ hsp) r x
  have done : ∀ {σ' : L2.St} {H' : Hp} {s' : Shared} {v : V} {u : Value}, Inv (cxOf CX0 P w K mg base N qual (defScope st) f cdv A outer s H E0) [] σ' H' s' → L2.RelV v u → Q v H' → CE outer P w H s Q u s' := by
    intro σ' H' s' v u J rv q
    exact ⟨v, H', J.os, J.bare, J.base, J.hok, rv, q⟩
  apply wpAny_mono (ht.run [] s1 (start N vs) H _ I hq)
  · intro fl s' hs
    cases fl with
    | ret u => obtain ⟨v, σ', H', J, rv, q⟩ := hs; exact done J rv q
    | next => obtain ⟨σ', H', J, q⟩ := hs; exact done (v := V.non) J rfl q
    | brk => obtain ⟨_, _, _, q⟩ := hs; exact q.elim
    | cont => obtain ⟨_, _, _, q⟩ := hs; exact q.elim
  · intro e s' hs
    exact hs
section
variable {X : Cx} {F : NF} {ob : Obj} {fl : Addr} {fr : List Str} {ws : List (Option V)} {k : Nat} {f : Addr} {fd : FuncData} {ps : List Str} {sp : Sp} {x : Str} {p pos : Pos} {e : Expr} {es : List Expr} {t : TA}
theorem afterL {pins : List (Addr × Obj)} {σ : L2.St} {H : Hp} {s : Shared} {Q : VK} {c : Code} (I : Inv X pins σ H s) (h : codeAny (model X.prog X.w) X.A c (CR CX0 X.stack X.prog X.w H s Q E0) s) :
    codeAny (model X.prog X.w) X.A c (fun rr s' => match rr with | .ok (.ret u) => EP X pins σ Q u s' | .ok _ => False | .error e => X.xe e s') s := by
  refine codeAny_mono h fun rr s' hq => ?_
  cases rr with
  | error er => exact hq.elim
  | ok fl =>
    cases fl with
    | ret u => exact I.after hq
    | _ => exact hq.elim
/-- f(e, ..) in a frame that itself was handed the lambda -/
theorem pe_callLL (G : FnL X.prog X.w X.K X.mg X.base F ob fl fr ws k f fd ps sp) (L : LamAt F ob fl fr ws X.s_0.heap X.H_0 X.outer) (hx : X.ex = []) (hr : Room k X.A) (hg : Gl X x) (hm : X.mg x = some (.ref f)) (hk : PySem.W.keepIn X.K (.ref f) = true) (hb : Binds X.K fd ps [])
    (ha : PA X (e :: es) t) (hdb : (x == ("__debug__" : Str)) = false := by decide) (he : starEach (e :: es) X.env = (false, eval e X.env) :: starEach es X.env := by rfl) (hpl : (backTo pos (starEach es X.env)).any (·.1) = false := by rfl) :
    PE X (.Call (.Name x p) (e :: es) [] pos) (fun σ H Q => t σ H fun vs H1 => sp vs H1 Q E0) := by
  constructor
  intro pins s σ H Q I h
  refine wpAny_Call_Name_kw (ld_glob I hg hm ?_ hdb)
  refine PySem.W.callWith_K (h₀ := X.base) I.ok.mod.kin hk (thn (ha.run pos pins s σ H _ I h) fun us s1 z => ?_) he hpl
  obtain ⟨vs, H1, I1, r, q⟩ := z
  refine ⟨I1.kIn, wpAny_call ?_⟩
  have hl : us.length = ps.length := r.length.symm.trans (G.len _ _ _ _ q)
  have bb : BindsTo s1 fd ⟨us, []⟩ (ps.zip us) := by
    have z := hb s1 us I1.kIn (by rw [List.append_nil]; exact hl)
    rwa [List.append_nil] at z
  exact afterL I1 (G.go X.A X.stack s1 H1 ⟨us, []⟩ us vs Q hr I1.env0 (L.later hx I1) bb r q)
/-- x(e, ..), x the name that holds the lambda -/
theorem pe_lamL {N lps : List Str} {body : Expr} {pm ctv : Value} {tb : TE} {i : Nat} (S : NScope N lps fr F.scope) (L : LamAt F (lamO F body pm ctv) fl fr ws X.s_0.heap X.H_0 X.outer) (hx : X.ex = []) (hr : Room (k + 1) X.A)
    (hbind : ∀ us : List Value, us.length = lps.length → bindArgs (PySem.W.kla_fn F.name F.qual F.params body F.scope F.cl pm (.ref F.c) ctv) ⟨us, []⟩ = pure (lps.zip us))
    (hbody : ∀ (s : Shared) (H : Hp), Room k (X.A.deeper (envF F fl s.heap.objs.size)) → PE (ncx CX0 X.prog X.w X.K X.mg X.base N F fl X.A X.stack s H E0) body tb)
    (hN : X.N[i]? = some x) (hv : Vis X.env.scope x) (ha : PA X (e :: es) t) (hd : (x == ("__debug__" : Str)) = false := by decide) (hcd : (x == ("__classdict__" : Str)) = false := by decide)
    (he : starEach (e :: es) X.env = (false, eval e X.env) :: starEach es X.env := by rfl) (hpl : (backTo pos (starEach es X.env)).any (·.1) = false := by rfl) :
    PE X (.Call (.Name x p) (e :: es) [] pos) (fun σ H Q => σ[i]? = some (some (.ref fl)) ∧ t σ H fun vs H1 => vs.length = lps.length ∧ H1 F.c = some (CodeO F.c F.qual) ∧ tb (startF N vs ws) H1 Q) := by
  constructor
  intro pins s σ H Q I h
  obtain ⟨hs, ht⟩ := h
  refine wpAny_Call_Name_kw (thn ((pe_var (pos := p) hN hv hd hcd).run pins s σ H (fun v H1 => v = .ref fl ∧ H1 = H) I ⟨.ref fl, hs, rfl, rfl⟩) fun u s1 z => ?_)
  obtain ⟨v, H1, I1, r1, ev, eH⟩ := z
  subst ev
  rw [eH] at I1
  obtain rfl : u = Value.ref fl := r1
  refine PySem.W.callWith_F (first := []) ⟨_, _, _, _, (L.later hx I1).fn⟩ (thn (ha.run pos pins s1 σ H _ I1 ht) fun us s2 z => ?_) he hpl
  obtain ⟨vs, H2, I2, r, l1, hc, q⟩ := z
  refine ⟨⟨_, _, _, _, (L.later hx I2).fn⟩, wpAny_call ?_⟩
  exact afterL I2 (lam_run S hr I2.env0 (L.later hx I2) hc (hbind us (r.length.symm.trans l1)) r l1 (hbody s2 H2) q)
end
/-! ### the def that makes the lambda and hands it on -/
/-- f(e, lambda ..): the lambda is made, its code object is new or known of the table -/
theorem pe_makeL {X : Cx} {T : List (Addr × Str)} {c P : Addr} {lparams : Arguments} {body : Expr} {lscope : Scope} {lpos : Pos} {fr : List Str} {js : List Nat} {k : Nat} {f : Addr} {fd : FuncData} {ps : List Str} {sp : NF → Addr → L2.St → Sp} {x : Str} {p pos : Pos} {e : Expr} {te : TE}
    (TB : TabB X.base X.mg c P) (hcode : X.env.code = .ref c) (hmT : (P, X.env.qual ++ "<lambda>") ∈ T) (huT : ∀ p ∈ T, p.1 = P → p.2 = X.env.qual ++ "<lambda>") (hdef : defaultsOf lparams X.env = ([], []))
    (hfree : ∀ y ∈ lscope.names, y.2 = .free → X.env.scope.names.lookup y.1 = some .cell) (hfr : ∀ y ∈ fr, (y, NameKind.free) ∈ lscope.names) (hjs : js.map (fun j => X.N[j]?) = fr.map some) (hfn : ∀ y, X.fn y = true) (hex : X.ex = [])
    (G : ∀ (F : NF) (fl : Addr) (pm ctv : Value) (σ : L2.St), F.name = "<lambda>" → F.qual = X.env.qual ++ "<lambda>" → F.params = lparams → F.scope = lscope →
      FnL X.prog X.w X.K X.mg X.base F (lamO F body pm ctv) fl fr (js.map (slotAt σ)) k f fd ps (sp F fl σ))
    (hr : Room k X.A) (hg : Gl X x) (hm : X.mg x = some (.ref f)) (hk : PySem.W.keepIn X.K (.ref f) = true) (hb : Binds X.K fd ps []) (he : PE X e te)
    (hdb : (x == ("__debug__" : Str)) = false := by decide) (hst : starEach [e, .Lambda lparams body lscope lpos] X.env = (false, eval e X.env) :: starEach [.Lambda lparams body lscope lpos] X.env := by rfl)
    (hst2 : starEach [.Lambda lparams body lscope lpos] X.env = (false, eval (.Lambda lparams body lscope lpos) X.env) :: starEach [] X.env := by rfl)
    (hpl : (backTo pos (starEach [.Lambda lparams body lscope lpos] X.env)).any (·.1) = false := by rfl) :
    PE X (.Call (.Name x p) [e, .Lambda lparams body lscope lpos] [] pos) (fun σ H Q => te σ H fun v H1 => Tabs T H1 ∧
      ∀ (F : NF) (fl : Addr) (H2 : Hp), ExtN H1 H2 → Tabs T H2 → H2 F.c = some (CodeO F.c F.qual) → sp F fl σ [v, .ref fl] H2 Q E0) := by
  constructor
  intro pins s σ H Q I h
  have hfree' : ∀ y ∈ lscope.names, y.2 = .free → ∃ c, X.env.cells.lookup y.1 = some c := fun y hy ey => I.ok.has y.1 (.inl (hfree y hy ey))
  refine wpAny_Call_Name_kw (ld_glob I hg hm ?_ hdb)
  refine PySem.W.callWith_K (h₀ := X.base) I.ok.mod.kin hk ?_ hst hpl
  rw [hst]
  show wpAny _ _ (spliced ((false, eval e X.env) :: backTo pos (starEach [.Lambda lparams body lscope lpos] X.env))) _ _ s
  refine Calls.spliced_cons (thn (he.run pins s σ H _ I h) fun u s1 z => ?_)
  obtain ⟨v, H1, I1, r1, hT, q⟩ := z
  rw [hst2]
  show wpAny _ _ (spliced ((false, eval (.Lambda lparams body lscope lpos) X.env) :: backTo pos (starEach [] X.env))) _ _ s1
  refine Calls.spliced_cons (lam_make2 I1 TB hcode hmT huT hT hdef hfree' fun fl c' pm ctv H2 s2 I2 hE hT2 hobj hn hst hco => ?_)
  refine Calls.spliced_nil ⟨I2.kIn, wpAny_call ?_⟩
  obtain ⟨F, eF⟩ : ∃ F : NF, F = ⟨"<lambda>", X.env.qual ++ "<lambda>", lparams, [], lscope, cloFrom X.env.cells lscope.names [], c'⟩ := ⟨_, rfl⟩
  have cp : Caps X F.cl fr js := by
    rw [eF]
    exact Caps.made I2.ok (fun y hy ey => .inl (hfree y hy ey)) hfr hjs
  have C := cells_of I2 cp
  have L : LamAt F (lamO F body pm ctv) fl fr (js.map (slotAt σ)) s2.heap H2 X.stack := by
    refine ⟨by rw [eF]; exact hobj, hn, hst, C, fun y cc ey z => ?_⟩
    have ey' : X.env.cells.lookup y = some cc := by
      rw [eF] at ey
      exact clo_cm (names := lscope.names) hfree' ey
    cases List.mem_cons.mp (I2.stkSub cc z) with
    | inl e1 => exact I2.cne y cc ey' e1
    | inr e1 =>
      have h1 := I2.ok.cab y cc (hfn y) ey'
      obtain ⟨_, o, ho, _⟩ := I2.ok.funs.mem e1
      exact absurd (Nat.lt_of_lt_of_le (Heap.lt_size ho) h1) (Nat.lt_irrefl _)
  have hsp := q F fl H2 hE hT2 (by rw [eF]; exact hco)
  have G1 := G F fl pm ctv σ (by rw [eF]) (by rw [eF]) (by rw [eF]) (by rw [eF])
  have r2 : Vals [v, .ref fl] [u, .ref fl] := .cons r1 (.cons rfl .nil)
  have bb : BindsTo s2 fd ⟨[u, .ref fl], []⟩ (ps.zip [u, .ref fl]) := by
    have z := hb s2 [u, .ref fl] I2.kIn (by rw [List.append_nil]; exact r2.length.symm.trans (G1.len _ _ _ _ hsp))
    rwa [List.append_nil] at z
  exact afterL I2 (G1.go X.A X.stack s2 H2 ⟨[u, .ref fl], []⟩ [u, .ref fl] [v, .ref fl] Q hr I2.env0 L bb r2 hsp)
end KL
set_option Elab.async false
set_option linter.all false
set_option maxRecDepth 100000
set_option maxHeartbeats 4000000
/-! ## a list comprehension whose element knows of the def around; a set comprehension of two clauses over nothing -/
namespace NC
open PySem PySem.Spec PyProof.Rows L2
/-- a block begins within the def -/
def BlkIn (X : Cx) (s : Shared) (H : Hp) (fp : List Addr) : Prop := ∃ (pins : List (Addr × Obj)) (σ : L2.St), Inv X pins σ H s ∧ ∀ b ∈ fp, FpOk X pins H b
section
variable {X : Cx}
theorem fp_in {s3 : Shared} {H3 : Hp} {scope : Scope} {ce : Env} {fp : List Addr} {σ' : L2.St} {H' : Hp} {s' : Shared} (J : Inv (X.blk s3 H3 scope ce fp) [] σ' H' s') (hn : ∀ b ∈ fp, H' b = none) :
    ∀ b ∈ fp, FpOk (X.blk s3 H3 scope ce fp) [] H' b := by
  intro b hb
  refine ⟨hn b hb, (J.ok.exf b hb).1, J.ok.exfs b hb, .inl hb, fun x c z => (J.ok.exf b hb).2 x c z, fun q hq => ?_⟩
  cases (show q ∈ ([] : List (Addr × Obj)) from hq)
theorem pe_lcF {elt tg iter : Expr} {ifs : List Expr} {scope : Scope} {own : List (Str × Nat)} {pos : Pos} {wi : TI} {g : TG} {tt : TT} {te : TE} (calm : X.calm = true) (nd : X.N.Nodup) (src : PI X tg iter wi) (ok : BlkOk X.N X.env.scope scope own)
    (tgt : ∀ (s : Shared) (H : Hp) (C : Addr) (cl : List (Str × Addr)) (fp : List Addr), PG (X.blk s H scope (compEnvC scope cl C X.env) fp) tg g)
    (tst : ∀ (s : Shared) (H : Hp) (C : Addr) (cl : List (Str × Addr)) (fp : List Addr), PTs (X.blk s H scope (compEnvC scope cl C X.env) fp) ifs tt)
    (el : ∀ (s : Shared) (H : Hp) (C : Addr) (cl : List (Str × Addr)) (fp : List Addr), BlkIn X s H fp → cl = cellsFrom (s.heap.objs.size + 1) scope.names (cloFrom X.env.cells scope.names []) → PE (X.blk s H scope (compEnvC scope cl C X.env) fp) elt te)
    (hfs : ∀ x, foldedSetIterable iter X.env x = pure x := by intro _; rfl) : PE X (.ListComp elt [⟨tg, iter, ifs, 0⟩] scope pos) (tLc wi g tt te (own.map (·.2))) := by
  constructor
  intro pins s σ H Q I h
  rw [eval_ListComp]
  have fr : ∀ y ∈ scope.names, y.2 = .free → ∃ c, X.env.cells.lookup y.1 = some c := by
    intro y hy e
    cases ok.free y hy e with
    | inl k => exact I.ok.has _ (.inl k)
    | inr k => exact I.ok.has _ (.inr k)
  apply wpAny_comprehension_free (use := none) rfl hfs (closure_ok fr) ok.kind (fun y hy e => by rw [ok.uniq y hy, e])
  refine thn (src.run pins s σ H _ I h) fun xv s1 z1 => thn z1 fun itv s2 z2 => ?_
  obtain ⟨it, fp, tn, J, H2, rfl, I2, T, st2, f2, q⟩ := z2
  refine wpAny_newObj_type (newEnv_comp ?_) (Nat.zero_le _)
  have fD : H2 s2.heap.objs.size = none := I2.hok.fresh (Nat.le_refl _)
  obtain ⟨W, ⟨m0, w0⟩, turn⟩ := q s2.heap.objs.size fD
  have I3 : Inv X pins σ (upd H2 s2.heap.objs.size (.lst [])) { s2 with heap := s2.heap.push { cls := .type "list", data := .seq ([] : List Value).toArray } } :=
    I2.laid (t' := s2.toks) (fun b o z => Heap.get?_push_of_some _ z) (Nat.le_refl _) ⟨Nat.zero_le _, [], 0, .nil, Heap.get?_push_size _ rfl⟩
  have lt2 : ∀ b ∈ fp, b < s2.heap.objs.size := by
    intro b hb
    obtain ⟨o, z, _⟩ := T.obj _ _ st2 b hb
    exact Heap.lt_size z
  have f3 : ∀ b ∈ fp, FpOk X pins (upd H2 s2.heap.objs.size (.lst [])) b ∧ b < ({ s2 with heap := s2.heap.push { cls := .type "list", data := .seq ([] : List Value).toArray } } : Shared).heap.objs.size := by
    intro b hb
    refine ⟨⟨?_, (f2 b hb).2⟩, ?_⟩
    · rw [upd_ne (Nat.ne_of_lt (lt2 b hb))]
      exact (f2 b hb).1
    · show b < (s2.heap.push _).objs.size
      rw [Heap.size_push]
      exact Nat.lt_succ_of_lt (lt2 b hb)
  have st3 : tn 0 ({ s2 with heap := s2.heap.push { cls := .type "list", data := .seq ([] : List Value).toArray } } : Shared).heap := T.keep _ _ _ st2 fun b _ o z => Heap.get?_push_of_some _ z
  generalize ({ s2 with heap := s2.heap.push { cls := .type "list", data := .seq ([] : List Value).toArray } } : Shared) = s3 at *
  generalize s2.heap.objs.size = D at *
  generalize upd H2 D (.lst []) = H3 at *
  have I4 := block_start I3 ok nd f3
  have free3 : ∀ b ∈ fp, H3 b = none := fun b hb => (f3 b hb).1.1
  have tG := tgt s3 H3 s3.heap.objs.size (cellsFrom (s3.heap.objs.size + 1) scope.names (cloFrom X.env.cells scope.names [])) fp
  have tT := tst s3 H3 s3.heap.objs.size (cellsFrom (s3.heap.objs.size + 1) scope.names (cloFrom X.env.cells scope.names [])) fp
  have tE := el s3 H3 s3.heap.objs.size (cellsFrom (s3.heap.objs.size + 1) scope.names (cloFrom X.env.cells scope.names [])) fp ⟨pins, σ, I3, fun b hb => (f3 b hb).1⟩ rfl
  have st4 : tn 0 ({ s3 with heap := pushCells (s3.heap.push { cls := .type "dict", data := .dict #[] }) scope.names } : Shared).heap := T.keep _ _ _ st3 fun b _ o z => pushCells_keeps _ _ _ _ (Heap.get?_push_of_some _ z)
  show codeAny _ _ (.compStart _ 0 (.ref it) (.ref D) (compEnvC scope (cellsFrom (s3.heap.objs.size + 1) scope.names (cloFrom X.env.cells scope.names [])) s3.heap.objs.size X.env)) _ { s3 with heap := pushCells (s3.heap.push { cls := .type "dict", data := .dict #[] }) scope.names }
  generalize hce : compEnvC scope (cellsFrom (s3.heap.objs.size + 1) scope.names (cloFrom X.env.cells scope.names [])) s3.heap.objs.size X.env = ce at I4 tG tT tE ⊢
  have cL : ce.locals = s3.heap.objs.size := by subst hce; rfl
  generalize ({ s3 with heap := pushCells (s3.heap.push { cls := .type "dict", data := .dict #[] }) scope.names } : Shared) = s4 at *
  have loop : codeAny (model X.prog X.w) X.A (.compLoop (.ListComp elt [⟨tg, iter, ifs, 0⟩] scope pos) 0 (.ref it) (.ref D) ce)
      (compPost (model X.prog X.w) X.A X.xe none (EP X pins σ Q) (.ref D) s3.heap.objs.size) s4 := by
    apply compLoop_any (fun n s' => ∃ i H', Inv (X.blk s3 H3 scope ce fp) [] (wipe σ (own.map (·.2))) H' s' ∧ tn i s'.heap ∧ (∀ b ∈ fp, H' b = none) ∧ W i n H') _ m0 ⟨0, H3, I4, st4, free3, w0⟩
    rintro n s5 ⟨i, H5, I5, st5, n5, w5⟩
    rcases turn i n H5 w5 with ⟨stop, qq⟩ | ⟨go, Nx, hNx, step⟩
    · refine thnF (T.done (X.blk s3 H3 scope ce fp) rfl rfl rfl calm i [] s5 _ H5 (fun _ _ => False) I5 (fp_in I5 n5) st5 stop) fun r s6 z6 => ?_
      obtain ⟨rfl, I6⟩ := z6
      have I7 : Inv X pins σ H5 s6 := I3.call' (ch := fp) I6.os I6.base I6.hok I6.bare fun b hb => ⟨(f3 b hb).1.2.2.2.1, (f3 b hb).1.2.1, (f3 b hb).1.2.2.2.2.1, (f3 b hb).1.2.2.2.2.2⟩
      have nC : H5 s3.heap.objs.size = none := by
        rw [← cL]
        exact I6.free
      obtain ⟨mm, hn, _⟩ := I6.loc
      have hn2 : s6.heap.Ns s3.heap.objs.size mm := by
        rw [← cL]
        exact hn
      refine ⟨mm, hn2, fun h7 sb => ?_⟩
      obtain ⟨g0, g1, g2, g3, g4, g5⟩ := I3.fpOk (Nat.le_refl _) nC
      exact ⟨.ref D, H5, I7.turned (t' := s6.toks) (fun b o nb z => (sb.2 b nb).trans z) g0 g1 g3 g4 g5, rfl, qq⟩
    · refine thnF (T.item (X.blk s3 H3 scope ce fp) rfl rfl rfl calm i [] s5 _ H5 (fun _ _ => False) I5 (fp_in I5 n5) st5 go) fun r s6 z6 => ?_
      obtain ⟨u, rfl, z6⟩ := z6
      refine thnF z6 fun _ s7 z7 => ?_
      obtain ⟨x, H7, I7, r7, y7, st7, n7⟩ := z7
      have I7p := I7.pinned (fp_in I7 n7) (T.obj _ _ st7)
      refine thnF (tG.run _ s7 _ H7 x _ _ I7p r7 (step x H7 y7)) fun _ s8 z => ?_
      obtain ⟨σ8, H8, I8, hw8, q8⟩ := z
      refine thnF (tT.run _ s8 σ8 H8 _ I8 q8) fun b s9 z => ?_
      obtain ⟨H9, I9, q9⟩ := z
      have fin : ∀ {s' : Shared} {H' : Hp}, Inv (X.blk s3 H3 scope ce fp) ([] ++ pinsAt fp s7.heap) σ8 H' s' → Nx H' →
          ∃ m, m < n ∧ ∃ i H', Inv (X.blk s3 H3 scope ce fp) [] (wipe σ (own.map (·.2))) H' s' ∧ tn i s'.heap ∧ (∀ b ∈ fp, H' b = none) ∧ W i m H' := by
        intro s' H' K nx
        obtain ⟨m1, hm1, w1⟩ := hNx H' nx
        have stays : ∀ b ∈ fp, ∀ o, s7.heap.get? b = some o → s'.heap.get? b = some o ∧ H' b = none := by
          intro b hb o z
          have y := K.pin (b, o) (List.mem_append_right _ (List.mem_append_right _ (mem_pinsAt hb z)))
          exact ⟨y.1, y.2.1⟩
        refine ⟨m1, hm1, i + 1, H', (K.unpinned (pins := [])).weak (by rw [← hw8, wipe_length]) (fun j v z => ?_), T.keep _ _ _ st7 fun b hb o z => (stays b hb o z).1, fun b hb => ?_, w1⟩
        · rw [← hw8] at z
          exact (wipe_some z).1
        · obtain ⟨o, z, _⟩ := T.obj _ _ st7 b hb
          exact (stays b hb o z).2
      cases b with
      | false => exact fin I9 q9
      | true =>
        refine thnF (tE.run _ s9 σ8 H9 _ I9 q9) fun zz s10 z => ?_
        obtain ⟨yv, H10, I10, r10, acc, hD10, hz10, nx⟩ := z
        exact app_ok (X := X.blk s3 H3 scope ce fp) I10 hD10 hz10 r10 fun s11 I11 => fin I11 nx
  exact codeAny_compStart_list loop (T.self X.A 0 _ _ _ st4 loop)
end
/-! ### the set of two clauses -/
section
variable {prog : Program} {w : World} {A : Around} {R : Result → Shared → Prop} {s : Shared} {elt t0 i0 t1 i1 : Expr} {scope : Scope} {pos : Pos} {it acc : Value} {env : Env}
theorem turn_out : compTurn (.SetComp elt [⟨t0, i0, [], 0⟩, ⟨t1, i1, [], 0⟩] scope pos) 0 it acc env = (do
      standAt i0.pos
      match ← pyNext it with
      | none => pure (.done .next)
      | some v =>
        letOwnedTupleGo t0 it v
        assign t0 env v
        let x ← eval i1 env
        standAt i1.pos
        let x ← foldedSetIterable i1 env x
        let _ ← runOwn (.compStart (.SetComp elt [⟨t0, i0, [], 0⟩, ⟨t1, i1, [], 0⟩] scope pos) 1 (← holding [x] (pyIter x)) acc env) env
        again (.compLoop (.SetComp elt [⟨t0, i0, [], 0⟩, ⟨t1, i1, [], 0⟩] scope pos) 0 it acc env)) := by rfl
theorem turn_in : ∃ f : Value → Sem PySem.Fin, compTurn (.SetComp elt [⟨t0, i0, [], 0⟩, ⟨t1, i1, [], 0⟩] scope pos) 1 it acc env = (do
      standAt i1.pos
      match ← pyNext it with
      | none => pure (.done .next)
      | some v => f v) := ⟨_, rfl⟩
/-- the first clause's loop -/
theorem loop_out (hs : ∀ x, foldedSetIterable i1 env x = pure x) (I : Nat → Shared → Prop)
    (turn : ∀ n s, I n s → wpAny (model prog w) A (pyNext it) (fun r s1 => match r with
      | none => R (.ok .next) s1
      | some v => wpAny (model prog w) A (letOwnedTupleGo t0 it v) (fun _ s2 => wpAny (model prog w) A (assign t0 env v) (fun _ s3 => wpAny (model prog w) A (eval i1 env) (fun x s4 => wpAny (model prog w) A (pyIter x) (fun it1 s5 =>
          codeAny (model prog w) A (.compStart (.SetComp elt [⟨t0, i0, [], 0⟩, ⟨t1, i1, [], 0⟩] scope pos) 1 it1 acc env) (fun r s6 => match r with
            | .ok _ => ∃ m, m < n ∧ I m s6
            | .error _ => False) s5) (fun _ _ => False) s4) (fun _ _ => False) s3) (fun _ _ => False) s2) (fun _ _ => False) s1) (fun _ _ => False) s)
    (n : Nat) (h : I n s) : codeAny (model prog w) A (.compLoop (.SetComp elt [⟨t0, i0, [], 0⟩, ⟨t1, i1, [], 0⟩] scope pos) 0 it acc env) R s := by
  apply codeAny_loop rfl I _ n h
  intro n s hI
  show wpAny _ A ((compTurn (.SetComp elt [⟨t0, i0, [], 0⟩, ⟨t1, i1, [], 0⟩] scope pos) 0 it acc env).onRaise (fun x => do noteFrame x env; theTreesLotGoes x)) _ _ s
  apply wpAny_noted
  rw [turn_out]
  refine wpAny_bind (wpAny_standAt (wpAny_bind (thnF (turn n s hI) fun r s1 h1 => ?_)))
  cases r with
  | none => exact wpAny_pure h1
  | some v =>
    refine wpAny_bind (thnF h1 fun _ s2 h2 => wpAny_bind (thnF h2 fun _ s3 h3 => wpAny_bind (thnF h3 fun x s4 h4 => ?_)))
    refine wpAny_bind (wpAny_standAt (wpAny_bind (wpAny_of_eq (hs x) (wpAny_bind (wpAny_holding (thnF h4 fun it1 s5 h5 => ?_))))))
    refine wpAny_bind (wpAny_runOwn (?own))
    rw [Around.mark_none]
    refine codeAny_mono h5 fun r s6 h6 => ?_
    cases r with
    | ok f => exact wpAny_pure ⟨rfl, h6⟩
    | error e => exact h6.elim
/-- the second clause over nothing -/
theorem loop_in (h : wpAny (model prog w) A (pyNext it) (fun r s1 => r = none ∧ R (.ok .next) s1) (fun _ _ => False) s) :
    codeAny (model prog w) A (.compLoop (.SetComp elt [⟨t0, i0, [], 0⟩, ⟨t1, i1, [], 0⟩] scope pos) 1 it acc env) R s := by
  apply codeAny_loop rfl (fun n s' => n = 0 ∧ s' = s) _ 0 ⟨rfl, rfl⟩
  rintro n s' ⟨rfl, rfl⟩
  show wpAny _ A ((compTurn (.SetComp elt [⟨t0, i0, [], 0⟩, ⟨t1, i1, [], 0⟩] scope pos) 1 it acc env).onRaise (fun x => do noteFrame x env; theTreesLotGoes x)) _ _ _
  apply wpAny_noted
  obtain ⟨f, e⟩ := turn_in (elt := elt) (t0 := t0) (i0 := i0) (t1 := t1) (i1 := i1) (scope := scope) (pos := pos) (it := it) (acc := acc) (env := env)
  rw [e]
  refine wpAny_bind (wpAny_standAt (wpAny_bind (thnF h fun r s1 h1 => ?_)))
  obtain ⟨rfl, h1⟩ := h1
  exact wpAny_pure h1
theorem start_in (h0 : codeAny (model prog w) A (.compLoop (.SetComp elt [⟨t0, i0, [], 0⟩, ⟨t1, i1, [], 0⟩] scope pos) 1 it acc env) R s)
    (h : wpAny (model prog w) A (pyIter it) (fun it' s' => codeAny (model prog w) A (.compLoop (.SetComp elt [⟨t0, i0, [], 0⟩, ⟨t1, i1, [], 0⟩] scope pos) 1 it' acc env) R s') (fun _ _ => False) s) :
    codeAny (model prog w) A (.compStart (.SetComp elt [⟨t0, i0, [], 0⟩, ⟨t1, i1, [], 0⟩] scope pos) 1 it acc env) R s := by
  apply codeAny_of_tree
  show wpAny _ _ ((compStart (.SetComp elt [⟨t0, i0, [], 0⟩, ⟨t1, i1, [], 0⟩] scope pos) 1 it acc env).onRaise (fun x => do noteFrame x env; standAt theWindowsPlace)) _ _ s
  apply wpAny_notedAt
  unfold compStart
  show wpAny _ _ (ask >>= _) _ _ s
  apply wpAny_bind
  apply wpAny_askSetting
  apply wpAny_ite
  split
  · exact wpAny_pure (And.intro rfl h0)
  · refine wpAny_bind (wpAny_rule ?_)
    show wpAny _ _ (standAt i1.pos >>= _) _ _ s
    exact wpAny_bind (wpAny_standAt (wpAny_bind (thnF h fun it' s' h' => wpAny_pure (And.intro rfl h'))))
end
section
variable {X : Cx}
/-- {elt for tg in iter for tg1 in iter1}, the second source always at its end -/
def tSc0 (w : World) (wi : TI) (g : TG) (wi1 : TI) (vs : List Nat) : TE := fun σ H Q => wi σ H fun J H1 => ∀ D, H1 D = none → ∃ W : Nat → Nat → Hp → Prop, (∃ m, W 0 m (upd H1 D (SetO w D (fun _ => false) 0))) ∧ ∀ i m H, W i m H →
  (J.stop i H ∧ Q (.ref D) H) ∨ (J.go i H ∧ ∃ Nx : Hp → Prop, (∀ H', Nx H' → ∃ m', m' < m ∧ W (i + 1) m' H') ∧ ∀ x H', J.yld i H x H' → g x (wipe σ vs) H' fun σ2 H2 => wipe σ2 vs = wipe σ vs ∧ wi1 σ2 H2 fun J1 H3 => J1.stop 0 H3 ∧ Nx H3)
theorem pe_sc0 {elt tg iter tg1 iter1 : Expr} {scope : Scope} {own : List (Str × Nat)} {pos : Pos} {wi wi1 : TI} {g : TG} (calm : X.calm = true) (nd : X.N.Nodup) (src : PI X tg iter wi) (ok : BlkOk X.N X.env.scope scope own)
    (tgt : ∀ (s : Shared) (H : Hp) (C : Addr) (cl : List (Str × Addr)) (fp : List Addr), PG (X.blk s H scope (compEnvC scope cl C X.env) fp) tg g)
    (src1 : ∀ (s : Shared) (H : Hp) (C : Addr) (cl : List (Str × Addr)) (fp : List Addr), PI (X.blk s H scope (compEnvC scope cl C X.env) fp) tg1 iter1 wi1)
    (hfs : ∀ x, foldedSetIterable iter X.env x = pure x := by intro _; rfl) (hfs1 : ∀ (ce : Env) x, foldedSetIterable iter1 ce x = pure x := by intro _ _; rfl) :
    PE X (.SetComp elt [⟨tg, iter, [], 0⟩, ⟨tg1, iter1, [], 0⟩] scope pos) (tSc0 X.w wi g wi1 (own.map (·.2))) := by
  constructor
  intro pins s σ H Q I h
  rw [PpSet.eval_SetComp]
  have fr : ∀ y ∈ scope.names, y.2 = .free → ∃ c, X.env.cells.lookup y.1 = some c := by
    intro y hy e
    cases ok.free y hy e with
    | inl k => exact I.ok.has _ (.inl k)
    | inr k => exact I.ok.has _ (.inr k)
  apply wpAny_comprehension_free (use := none) rfl hfs (closure_ok fr) ok.kind (fun y hy e => by rw [ok.uniq y hy, e])
  refine thn (src.run pins s σ H _ I h) fun xv s1 z1 => thn z1 fun itv s2 z2 => ?_
  obtain ⟨it, fp, tn, J, H2, rfl, I2, T, st2, f2, q⟩ := z2
  refine PpSet.newSet_ok (newEnv_comp ?_)
  have fD : H2 s2.heap.objs.size = none := I2.hok.fresh (Nat.le_refl _)
  obtain ⟨W, ⟨m0, w0⟩, turn⟩ := q s2.heap.objs.size fD
  have I3 : Inv X pins σ (upd H2 s2.heap.objs.size (SetO X.w s2.heap.objs.size (fun _ => false) 0)) { s2 with heap := s2.heap.push { cls := .type "set", dict := none, data := .set #[] 0 (.fresh 0 0 (!X.w.params.followText "set-order")) } } :=
    I2.laid (t' := s2.toks) (fun b o z => Heap.get?_push_of_some _ z) (Nat.le_refl _) (setO_new (setR_fresh X.w))
  have lt2 : ∀ b ∈ fp, b < s2.heap.objs.size := by
    intro b hb
    obtain ⟨o, z, _⟩ := T.obj _ _ st2 b hb
    exact Heap.lt_size z
  have f3 : ∀ b ∈ fp, FpOk X pins (upd H2 s2.heap.objs.size (SetO X.w s2.heap.objs.size (fun _ => false) 0)) b ∧ b < ({ s2 with heap := s2.heap.push { cls := .type "set", dict := none, data := .set #[] 0 (.fresh 0 0 (!X.w.params.followText "set-order")) } } : Shared).heap.objs.size := by
    intro b hb
    refine ⟨⟨?_, (f2 b hb).2⟩, ?_⟩
    · rw [upd_ne (Nat.ne_of_lt (lt2 b hb))]
      exact (f2 b hb).1
    · show b < (s2.heap.push _).objs.size
      rw [Heap.size_push]
      exact Nat.lt_succ_of_lt (lt2 b hb)
  have st3 : tn 0 ({ s2 with heap := s2.heap.push { cls := .type "set", dict := none, data := .set #[] 0 (.fresh 0 0 (!X.w.params.followText "set-order")) } } : Shared).heap := T.keep _ _ _ st2 fun b _ o z => Heap.get?_push_of_some _ z
  generalize ({ s2 with heap := s2.heap.push { cls := .type "set", dict := none, data := .set #[] 0 (.fresh 0 0 (!X.w.params.followText "set-order")) } } : Shared) = s3 at *
  generalize s2.heap.objs.size = D at *
  generalize upd H2 D (SetO X.w D (fun _ => false) 0) = H3 at *
  have I4 := block_start I3 ok nd f3
  have free3 : ∀ b ∈ fp, H3 b = none := fun b hb => (f3 b hb).1.1
  have tG := tgt s3 H3 s3.heap.objs.size (cellsFrom (s3.heap.objs.size + 1) scope.names (cloFrom X.env.cells scope.names [])) fp
  have tS := src1 s3 H3 s3.heap.objs.size (cellsFrom (s3.heap.objs.size + 1) scope.names (cloFrom X.env.cells scope.names [])) fp
  have st4 : tn 0 ({ s3 with heap := pushCells (s3.heap.push { cls := .type "dict", data := .dict #[] }) scope.names } : Shared).heap := T.keep _ _ _ st3 fun b _ o z => pushCells_keeps _ _ _ _ (Heap.get?_push_of_some _ z)
  show codeAny _ _ (.compStart _ 0 (.ref it) (.ref D) (compEnvC scope (cellsFrom (s3.heap.objs.size + 1) scope.names (cloFrom X.env.cells scope.names [])) s3.heap.objs.size X.env)) _ { s3 with heap := pushCells (s3.heap.push { cls := .type "dict", data := .dict #[] }) scope.names }
  generalize hce : compEnvC scope (cellsFrom (s3.heap.objs.size + 1) scope.names (cloFrom X.env.cells scope.names [])) s3.heap.objs.size X.env = ce at I4 tG tS ⊢
  have cL : ce.locals = s3.heap.objs.size := by subst hce; rfl
  generalize ({ s3 with heap := pushCells (s3.heap.push { cls := .type "dict", data := .dict #[] }) scope.names } : Shared) = s4 at *
  have loop : codeAny (model X.prog X.w) X.A (.compLoop (.SetComp elt [⟨tg, iter, [], 0⟩, ⟨tg1, iter1, [], 0⟩] scope pos) 0 (.ref it) (.ref D) ce)
      (compPost (model X.prog X.w) X.A X.xe none (EP X pins σ Q) (.ref D) s3.heap.objs.size) s4 := by
    apply loop_out (hfs1 ce) (fun n s' => ∃ i H', Inv (X.blk s3 H3 scope ce fp) [] (wipe σ (own.map (·.2))) H' s' ∧ tn i s'.heap ∧ (∀ b ∈ fp, H' b = none) ∧ W i n H') _ m0 ⟨0, H3, I4, st4, free3, w0⟩
    rintro n s5 ⟨i, H5, I5, st5, n5, w5⟩
    rcases turn i n H5 w5 with ⟨stop, qq⟩ | ⟨go, Nx, hNx, step⟩
    · refine thnF (T.done (X.blk s3 H3 scope ce fp) rfl rfl rfl calm i [] s5 _ H5 (fun _ _ => False) I5 (fp_in I5 n5) st5 stop) fun r s6 z6 => ?_
      obtain ⟨rfl, I6⟩ := z6
      have I7 : Inv X pins σ H5 s6 := I3.call' (ch := fp) I6.os I6.base I6.hok I6.bare fun b hb => ⟨(f3 b hb).1.2.2.2.1, (f3 b hb).1.2.1, (f3 b hb).1.2.2.2.2.1, (f3 b hb).1.2.2.2.2.2⟩
      have nC : H5 s3.heap.objs.size = none := by
        rw [← cL]
        exact I6.free
      obtain ⟨mm, hn, _⟩ := I6.loc
      have hn2 : s6.heap.Ns s3.heap.objs.size mm := by
        rw [← cL]
        exact hn
      refine ⟨mm, hn2, fun h7 sb => ?_⟩
      obtain ⟨g0, g1, g2, g3, g4, g5⟩ := I3.fpOk (Nat.le_refl _) nC
      exact ⟨.ref D, H5, I7.turned (t' := s6.toks) (fun b o nb z => (sb.2 b nb).trans z) g0 g1 g3 g4 g5, rfl, qq⟩
    · refine thnF (T.item (X.blk s3 H3 scope ce fp) rfl rfl rfl calm i [] s5 _ H5 (fun _ _ => False) I5 (fp_in I5 n5) st5 go) fun r s6 z6 => ?_
      obtain ⟨u, rfl, z6⟩ := z6
      refine thnF z6 fun _ s7 z7 => ?_
      obtain ⟨x, H7, I7, r7, y7, st7, n7⟩ := z7
      have I7p := I7.pinned (fp_in I7 n7) (T.obj _ _ st7)
      refine thnF (tG.run _ s7 _ H7 x _ _ I7p r7 (step x H7 y7)) fun _ s8 z => ?_
      obtain ⟨σ8, H8, I8, hw8, q8⟩ := z
      have fin : ∀ {s' : Shared} {H' : Hp}, Inv (X.blk s3 H3 scope ce fp) ([] ++ pinsAt fp s7.heap) σ8 H' s' → Nx H' →
          ∃ m, m < n ∧ ∃ i H', Inv (X.blk s3 H3 scope ce fp) [] (wipe σ (own.map (·.2))) H' s' ∧ tn i s'.heap ∧ (∀ b ∈ fp, H' b = none) ∧ W i m H' := by
        intro s' H' K nx
        obtain ⟨m1, hm1, w1⟩ := hNx H' nx
        have stays : ∀ b ∈ fp, ∀ o, s7.heap.get? b = some o → s'.heap.get? b = some o ∧ H' b = none := by
          intro b hb o z
          have y := K.pin (b, o) (List.mem_append_right _ (List.mem_append_right _ (mem_pinsAt hb z)))
          exact ⟨y.1, y.2.1⟩
        refine ⟨m1, hm1, i + 1, H', (K.unpinned (pins := [])).weak (by rw [← hw8, wipe_length]) (fun j v z => ?_), T.keep _ _ _ st7 fun b hb o z => (stays b hb o z).1, fun b hb => ?_, w1⟩
        · rw [← hw8] at z
          exact (wipe_some z).1
        · obtain ⟨o, z, _⟩ := T.obj _ _ st7 b hb
          exact (stays b hb o z).2
      refine thnF (tS.run _ s8 σ8 H8 _ I8 q8) fun xv s9 z9 => thnF z9 fun itv s10 z10 => ?_
      obtain ⟨it1, fp1, tn1, J1, H10, rfl, I10, T1, st10, f10, stop1, nx⟩ := z10
      have lp : codeAny (model X.prog X.w) X.A (.compLoop (.SetComp elt [⟨tg, iter, [], 0⟩, ⟨tg1, iter1, [], 0⟩] scope pos) 1 (.ref it1) (.ref D) ce) (fun r s6 => match r with
            | .ok _ => ∃ m, m < n ∧ ∃ i H', Inv (X.blk s3 H3 scope ce fp) [] (wipe σ (own.map (·.2))) H' s6 ∧ tn i s6.heap ∧ (∀ b ∈ fp, H' b = none) ∧ W i m H'
            | .error _ => False) s10 := by
        apply loop_in
        refine thn (T1.done (X.blk s3 H3 scope ce fp) rfl rfl rfl calm 0 _ s10 σ8 H10 (fun _ _ => False) I10 f10 st10 stop1) fun r s11 z11 => ?_
        obtain ⟨rfl, I11⟩ := z11
        exact ⟨rfl, fin I11 nx⟩
      exact start_in lp (T1.self X.A 0 _ _ _ st10 lp)
  exact PpSet.codeAny_compStart_set loop (T.self X.A 0 _ _ _ st4 loop)
end
end NC
set_option Elab.async false
set_option linter.all false
set_option maxRecDepth 100000
set_option maxHeartbeats 4000000
/-! ## a lambda handed on within comprehensions -/
namespace NL
open PySem PySem.Spec PyProof.Rows L2 LamX NdefX KG KL NC
section
variable {X : Cx} {pins : List (Addr × Obj)} {σ : L2.St} {H : Hp} {s : Shared} {F : NF} {ob : Obj} {f : Addr} {fr : List Str} {ws : List (Option V)}
/-- the lambda and its cells are none of these -/
structure Off (F : NF) (f : Addr) (ex : List Addr) : Prop where
  fn : f ∉ ex
  cs : ∀ y c, F.cl.lookup y = some c → c ∉ ex
theorem Off.nil (F : NF) (f : Addr) : Off F f [] := ⟨(fun z => by cases z), (fun _ _ _ z => by cases z)⟩
theorem laterX (L : LamAt F ob f fr ws X.s_0.heap X.H_0 X.outer) (o : Off F f X.ex) (I : Inv X pins σ H s) : LamAt F ob f fr ws s.heap H X.stack := by
  refine ⟨I.base.keep f ob L.fn L.fnN L.fnF o.fn, I.base.free f ob L.fn L.fnN o.fn, old_not_stack I L.fn L.fnF, L.cells.later L.cellF o.cs I, fun y c e => ?_⟩
  obtain ⟨_, v, o', ho, _⟩ := L.cells.all y c e
  exact old_not_stack I ho (L.cellF y c e)
/-- at a block's begin -/
theorem blk_lam {fp : List Addr} (L : LamAt F ob f fr ws X.s_0.heap X.H_0 X.outer) (hx : X.ex = []) (B : BlkIn X s H fp) : LamAt F ob f fr ws s.heap H X.stack ∧ Off F f fp := by
  obtain ⟨pins, σ, I, hf⟩ := B
  have young : ∀ b ∈ fp, X.s_0.heap.objs.size ≤ b := fun b hb => by
    rcases (hf b hb).2.2.2.1 with z | z
    · rw [hx] at z
      cases z
    · exact z
  refine ⟨laterX L (by rw [hx]; exact .nil _ _) I, fun z => ?_, fun y c e z => ?_⟩
  · exact absurd (Heap.lt_size L.fn) (Nat.not_lt.mpr (young _ z))
  · obtain ⟨_, v, o', ho, _⟩ := L.cells.all y c e
    exact absurd (Heap.lt_size ho) (Nat.not_lt.mpr (young _ z))
end
section
variable {X : Cx} {F : NF} {ob : Obj} {fl : Addr} {fr : List Str} {ws : List (Option V)} {k : Nat} {f : Addr} {fd : FuncData} {ps : List Str} {sp : Sp} {x : Str} {p pos : Pos} {e : Expr} {es : List Expr} {t : TA}
/-- f(e, ..) where the lambda stands -/
theorem pe_callLX (G : FnL X.prog X.w X.K X.mg X.base F ob fl fr ws k f fd ps sp) (L : LamAt F ob fl fr ws X.s_0.heap X.H_0 X.outer) (o : Off F fl X.ex) (hr : Room k X.A) (hg : Gl X x) (hm : X.mg x = some (.ref f)) (hk : PySem.W.keepIn X.K (.ref f) = true) (hb : Binds X.K fd ps [])
    (ha : PA X (e :: es) t) (hdb : (x == ("__debug__" : Str)) = false := by decide) (he : starEach (e :: es) X.env = (false, eval e X.env) :: starEach es X.env := by rfl) (hpl : (backTo pos (starEach es X.env)).any (·.1) = false := by rfl) :
    PE X (.Call (.Name x p) (e :: es) [] pos) (fun σ H Q => t σ H fun vs H1 => sp vs H1 Q E0) := by
  constructor
  intro pins s σ H Q I h
  refine wpAny_Call_Name_kw (ld_glob I hg hm ?_ hdb)
  refine PySem.W.callWith_K (h₀ := X.base) I.ok.mod.kin hk (thn (ha.run pos pins s σ H _ I h) fun us s1 z => ?_) he hpl
  obtain ⟨vs, H1, I1, r, q⟩ := z
  refine ⟨I1.kIn, wpAny_call ?_⟩
  have hl : us.length = ps.length := r.length.symm.trans (G.len _ _ _ _ q)
  have bb : BindsTo s1 fd ⟨us, []⟩ (ps.zip us) := by
    have z := hb s1 us I1.kIn (by rw [List.append_nil]; exact hl)
    rwa [List.append_nil] at z
  exact afterL I1 (G.go X.A X.stack s1 H1 ⟨us, []⟩ us vs Q hr I1.env0 (laterX L o I1) bb r q)
end
/-- f(d, e, lambda ..): the lambda is made -/
theorem pe_makeLX {X : Cx} {T : List (Addr × Str)} {c P : Addr} {lparams : Arguments} {body : Expr} {lscope : Scope} {lpos : Pos} {fr : List Str} {js : List Nat} {k : Nat} {f : Addr} {fd : FuncData} {ps : List Str} {sp : NF → Addr → L2.St → Sp} {x : Str} {p pos : Pos} {d e : Expr} {td te : TE}
    (TB : TabB X.base X.mg c P) (hcode : X.env.code = .ref c) (hmT : (P, X.env.qual ++ "<lambda>") ∈ T) (huT : ∀ p ∈ T, p.1 = P → p.2 = X.env.qual ++ "<lambda>") (hdef : defaultsOf lparams X.env = ([], []))
    (hfree : ∀ y ∈ lscope.names, y.2 = .free → X.env.scope.names.lookup y.1 = some .cell ∨ X.env.scope.names.lookup y.1 = some .free) (hfr : ∀ y ∈ fr, (y, NameKind.free) ∈ lscope.names) (hjs : js.map (fun j => X.N[j]?) = fr.map some)
    (hout : ∀ y ∈ lscope.names, y.2 = .free → ∀ c, X.env.cells.lookup y.1 = some c → c ∉ frs X.stack)
    (G : ∀ (F : NF) (fl : Addr) (pm ctv : Value) (σ : L2.St), F.name = "<lambda>" → F.qual = X.env.qual ++ "<lambda>" → F.params = lparams → F.scope = lscope →
      FnL X.prog X.w X.K X.mg X.base F (lamO F body pm ctv) fl fr (js.map (slotAt σ)) k f fd ps (sp F fl σ))
    (hr : Room k X.A) (hg : Gl X x) (hm : X.mg x = some (.ref f)) (hk : PySem.W.keepIn X.K (.ref f) = true) (hb : Binds X.K fd ps []) (hd : PE X d td) (he : PE X e te)
    (hdb : (x == ("__debug__" : Str)) = false := by decide) (hst : starEach [d, e, .Lambda lparams body lscope lpos] X.env = (false, eval d X.env) :: starEach [e, .Lambda lparams body lscope lpos] X.env := by rfl)
    (hst1 : starEach [e, .Lambda lparams body lscope lpos] X.env = (false, eval e X.env) :: starEach [.Lambda lparams body lscope lpos] X.env := by rfl)
    (hst2 : starEach [.Lambda lparams body lscope lpos] X.env = (false, eval (.Lambda lparams body lscope lpos) X.env) :: starEach [] X.env := by rfl)
    (hpl : (backTo pos (starEach [e, .Lambda lparams body lscope lpos] X.env)).any (·.1) = false := by rfl) :
    PE X (.Call (.Name x p) [d, e, .Lambda lparams body lscope lpos] [] pos) (fun σ H Q => td σ H fun w H0 => te σ H0 fun v H1 => Tabs T H1 ∧
      ∀ (F : NF) (fl : Addr) (H2 : Hp), ExtN H1 H2 → Tabs T H2 → H2 F.c = some (CodeO F.c F.qual) → sp F fl σ [w, v, .ref fl] H2 Q E0) := by
  constructor
  intro pins s σ H Q I h
  have hfree' : ∀ y ∈ lscope.names, y.2 = .free → ∃ c, X.env.cells.lookup y.1 = some c := fun y hy ey => (hfree y hy ey).elim (fun z => I.ok.has y.1 (.inl z)) fun z => I.ok.has y.1 (.inr z)
  refine wpAny_Call_Name_kw (ld_glob I hg hm ?_ hdb)
  refine PySem.W.callWith_K (h₀ := X.base) I.ok.mod.kin hk ?_ hst hpl
  rw [hst]
  show wpAny _ _ (spliced ((false, eval d X.env) :: backTo pos (starEach [e, .Lambda lparams body lscope lpos] X.env))) _ _ s
  refine Calls.spliced_cons (thn (hd.run pins s σ H _ I h) fun u0 s0 z0 => ?_)
  obtain ⟨w0, H0, I0, r0, h0⟩ := z0
  rw [hst1]
  show wpAny _ _ (spliced ((false, eval e X.env) :: backTo pos (starEach [.Lambda lparams body lscope lpos] X.env))) _ _ s0
  refine Calls.spliced_cons (thn (he.run pins s0 σ H0 _ I0 h0) fun u s1 z => ?_)
  obtain ⟨v, H1, I1, r1, hT, q⟩ := z
  rw [hst2]
  show wpAny _ _ (spliced ((false, eval (.Lambda lparams body lscope lpos) X.env) :: backTo pos (starEach [] X.env))) _ _ s1
  refine Calls.spliced_cons (lam_make2 I1 TB hcode hmT huT hT hdef hfree' fun fl c' pm ctv H2 s2 I2 hE hT2 hobj hn hst hco => ?_)
  refine Calls.spliced_nil ⟨I2.kIn, wpAny_call ?_⟩
  obtain ⟨F, eF⟩ : ∃ F : NF, F = ⟨"<lambda>", X.env.qual ++ "<lambda>", lparams, [], lscope, cloFrom X.env.cells lscope.names [], c'⟩ := ⟨_, rfl⟩
  have cp : Caps X F.cl fr js := by
    rw [eF]
    exact Caps.made I2.ok hfree hfr hjs
  have C := cells_of I2 cp
  have L : LamAt F (lamO F body pm ctv) fl fr (js.map (slotAt σ)) s2.heap H2 X.stack := by
    refine ⟨by rw [eF]; exact hobj, hn, hst, C, fun y cc ey => ?_⟩
    have ey1 : (cloFrom X.env.cells lscope.names []).lookup y = some cc := by
      rw [eF] at ey
      exact ey
    rcases cloFrom_mem (PySem.mem_of_lookup ey1) with hmm | ⟨h1, h2⟩
    · cases hmm
    · exact hout (y, .free) h1 rfl cc (clo_cm (names := lscope.names) hfree' ey1)
  have hsp := q F fl H2 hE hT2 (by rw [eF]; exact hco)
  have G1 := G F fl pm ctv σ (by rw [eF]) (by rw [eF]) (by rw [eF]) (by rw [eF])
  have r2 : Vals [w0, v, .ref fl] [u0, u, .ref fl] := .cons r0 (.cons r1 (.cons rfl .nil))
  have bb : BindsTo s2 fd ⟨[u0, u, .ref fl], []⟩ (ps.zip [u0, u, .ref fl]) := by
    have z := hb s2 [u0, u, .ref fl] I2.kIn (by rw [List.append_nil]; exact r2.length.symm.trans (G1.len _ _ _ _ hsp))
    rwa [List.append_nil] at z
  exact afterL I2 (G1.go X.A X.stack s2 H2 ⟨[u0, u, .ref fl], []⟩ [u0, u, .ref fl] [w0, v, .ref fl] Q hr I2.env0 L bb r2 hsp)
/-- a cell of the def around is no frame -/
theorem blk_out {X : Cx} {s : Shared} {H : Hp} {fp : List Addr} {scope : Scope} {cl : List (Str × Addr)} (B : BlkIn X s H fp) (hcl : cl = cellsFrom (s.heap.objs.size + 1) scope.names (cloFrom X.env.cells scope.names [])) (hfn : ∀ y, X.fn y = true)
    (hc : cellsFrom (s.heap.objs.size + 1) scope.names (cloFrom X.env.cells scope.names []) = cloFrom X.env.cells scope.names []) (ok : ∀ y ∈ scope.names, y.2 = .free → X.env.scope.names.lookup y.1 = some .cell ∨ X.env.scope.names.lookup y.1 = some .free) :
    ∀ y c, cl.lookup y = some c → c ∉ frs X.stack := by
  intro y c e z
  obtain ⟨pins, σ, I, _⟩ := B
  rw [hcl, hc] at e
  have e2 := clo_cm (names := scope.names) (fun y hy ey => (ok y hy ey).elim (fun z => I.ok.has y.1 (.inl z)) fun z => I.ok.has y.1 (.inr z)) e
  cases List.mem_cons.mp (I.stkSub c z) with
  | inl e1 => exact I.cne y c e2 e1
  | inr e1 =>
    have h1 := I.ok.cab y c (hfn y) e2
    obtain ⟨_, o, ho, _⟩ := I.ok.funs.mem e1
    exact absurd (Nat.lt_of_lt_of_le (Heap.lt_size ho) h1) (Nat.lt_irrefl _)
end NL
set_option Elab.async false
set_option linter.all false
set_option maxRecDepth 100000
set_option maxHeartbeats 4000000
/-! ## sums on the heap -/
namespace SA
open PySem PySem.Spec PyProof.Rows L2 NR SU
/-- tuples stay -/
structure Tk (H H' : Hp) : Prop where
  tup : ∀ b xs, H b = some (.tup xs) → H' b = some (.tup xs)
  frz : ∀ b o u, H b = some (.frz o u) → H' b = some (.frz o u)
theorem Tk.refl (H : Hp) : Tk H H := ⟨fun _ _ h => h, fun _ _ _ h => h⟩
theorem Tk.trans {H H1 H2 : Hp} (a : Tk H H1) (b : Tk H1 H2) : Tk H H2 := ⟨fun c x h => b.tup c x (a.tup c x h), fun c o u h => b.frz c o u (a.frz c o u h)⟩
theorem Tk.of {H H' : Hp} (s : Same H H') : Tk H H' := ⟨fun b xs h => s b _ h, fun b o u h => s b _ h⟩
theorem Tk.upd {H : Hp} {a : Addr} {o : HO} (h1 : ∀ xs, H a ≠ some (.tup xs)) (h2 : ∀ o u, H a ≠ some (.frz o u)) : Tk H (upd H a o) := by
  refine ⟨fun b xs h => ?_, fun b p u h => ?_⟩
  · have ne : b ≠ a := fun e => by
      subst e
      exact h1 xs h
    rw [upd_ne ne]
    exact h
  · have ne : b ≠ a := fun e => by
      subst e
      exact h2 p u h
    rw [upd_ne ne]
    exact h
theorem Tk.sq {K : PySem.W.Frag} {H H' : Hp} {a : Addr} {xs : List V} (k : Tk H H') (h : SqT K H a xs) : SqT K H' a xs := by
  rcases h with (h | ⟨o, h⟩) | h
  · exact .inl (.inl (k.tup _ _ h))
  · exact .inl (.inr ⟨o, k.frz _ _ _ h⟩)
  · exact .inr h
theorem Tk.tn {K : PySem.W.Frag} {H H' : Hp} {a : Addr} {xs : List V} (k : Tk H H') (h : TN K H a xs) : TN K H' a xs := by
  rcases h with ⟨o, h, d⟩ | h
  · exact .inl ⟨o, k.frz _ _ _ h, d⟩
  · exact .inr h
theorem same_new {H : Hp} {p : Addr} {o : HO} (h : H p = none) : Same H (upd H p o) := fun b x e => by
  rw [upd_ne (ne_of_none e h)]
  exact e
theorem tn_new {K : PySem.W.Frag} {H : Hp} {p : Addr} {o : Obj} {xs : List V} (h : o.dict = none) : TN K (upd H p (.frz o (.tup xs))) p xs := .inl ⟨o, upd_same, h⟩
theorem sq_new {K : PySem.W.Frag} {H : Hp} {p : Addr} {xs : List V} : SqT K (upd H p (.tup xs)) p xs := .inl (.inl upd_same)
theorem Paired.imp {α β : Type} {F G : α → β → Prop} (h : ∀ a b, F a b → G a b) : ∀ {l : List α} {m : List β}, Paired F l m → Paired G l m
  | _, _, .nil => .nil
  | _, _, .cons a b => .cons (h _ _ a) (Paired.imp h b)
theorem Paired.at {α β : Type} {F : α → β → Prop} : ∀ {l : List α} {m : List β}, Paired F l m → ∀ (i : Nat) (b : β), m[i]? = some b → ∃ a, l[i]? = some a ∧ F a b
  | _, _, .nil, i, b, h => by simp at h
  | _, _, .cons x y, 0, b, h => by
    cases h
    exact ⟨_, rfl, x⟩
  | _, _, .cons x y, i + 1, b, h => Paired.at y i b (by simpa using h)
theorem Paired.atL {α β : Type} {F : α → β → Prop} : ∀ {l : List α} {m : List β}, Paired F l m → ∀ (i : Nat) (a : α), l[i]? = some a → ∃ b, m[i]? = some b ∧ F a b
  | _, _, .nil, i, b, h => by simp at h
  | _, _, .cons x y, 0, b, h => by
    cases h
    exact ⟨_, rfl, x⟩
  | _, _, .cons x y, i + 1, b, h => Paired.atL y i b (by simpa using h)
section
variable {α : Type}
/-- rows of a sum -/
abbrev RowsAt (e : α → Key) (K : PySem.W.Frag) (H : Hp) (ts : List Addr) (r : List (α × Int)) : Prop := Paired (fun t (p : α × Int) => SqT K H t [kV (e p.1), .int p.2]) ts r
/-- the value is the sum -/
def SmAt (e : α → Key) (K : PySem.W.Frag) (H : Hp) (v : V) (x : Sm α) : Prop := ∃ (a b : Addr) (ts : List Addr), v = .ref a ∧ SqT K H a [.int x.1, .ref b] ∧ TN K H b (ts.map V.ref) ∧ RowsAt e K H ts x.2
theorem RowsAt.tk {e : α → Key} {K : PySem.W.Frag} {H H' : Hp} {ts : List Addr} {r : List (α × Int)} (k : Tk H H') (h : RowsAt e K H ts r) : RowsAt e K H' ts r := Paired.imp (fun _ _ z => k.sq z) h
theorem SmAt.tk {e : α → Key} {K : PySem.W.Frag} {H H' : Hp} {v : V} {x : Sm α} (k : Tk H H') (h : SmAt e K H v x) : SmAt e K H' v x := by
  obtain ⟨a, b, ts, rfl, h1, h2, h3⟩ := h
  exact ⟨a, b, ts, rfl, k.sq h1, k.tn h2, RowsAt.tk k h3⟩
variable [DecidableEq α]
/-! ### factors by atoms -/
structure Fac (e : α → Key) (kvs : List (Key × V)) (ks : List α) (c : α → Int) : Prop where
  keys : kvs.map (·.1) = ks.map e
  nd : ks.Nodup
  hit : ∀ a ∈ ks, valV kvs (e a) = some (.int (c a))
  out : ∀ a, a ∉ ks → valV kvs (e a) = none ∧ c a = 0
theorem Fac.nil (e : α → Key) : Fac e [] [] (fun _ => 0) := ⟨rfl, .nil, (fun _ h => nomatch h), fun _ _ => ⟨rfl, rfl⟩⟩
theorem Fac.put {e : α → Key} (inj : ∀ a b, e a = e b → a = b) {kvs : List (Key × V)} {ks : List α} {c : α → Int} (h : Fac e kvs ks c) (a : α) (x : Int) :
    Fac e (putK kvs (e a) (.int x)) (if a ∈ ks then ks else ks ++ [a]) (fun b => if b = a then x else c b) := by
  have any : (kvs.any fun kv => decide (kv.1 = e a)) = decide (a ∈ ks) := by
    rw [valV_any]
    by_cases m : a ∈ ks
    · rw [h.hit a m, decide_eq_true m]
      rfl
    · rw [(h.out a m).1, decide_eq_false m]
      rfl
  have val : ∀ b, valV (putK kvs (e a) (.int x)) (e b) = if b = a then some (.int x) else valV kvs (e b) := fun b => by
    rw [valV_put]
    by_cases m : b = a
    · rw [if_pos m, if_pos (by rw [m])]
    · rw [if_neg m, if_neg (fun z => m (inj _ _ z))]
  refine ⟨?_, ?_, fun b hb => ?_, fun b hb => ?_⟩
  · unfold putK
    rw [any]
    by_cases m : a ∈ ks
    · rw [if_pos (decide_eq_true m), if_pos m, List.map_map, ← h.keys]
      refine List.map_congr_left fun p hp => ?_
      show (if p.1 = e a then (p.1, V.int x) else p).1 = p.1
      split <;> rfl
    · rw [if_neg (by rw [decide_eq_false m]; exact Bool.false_ne_true), if_neg m, List.map_append, h.keys, List.map_append]
      rfl
  · by_cases m : a ∈ ks
    · rw [if_pos m]; exact h.nd
    · rw [if_neg m, List.nodup_append]
      refine ⟨h.nd, by simp, fun y hy z hz => ?_⟩
      rw [List.mem_singleton.mp hz]
      intro q
      exact m (q ▸ hy)
  · rw [val]
    by_cases m : b = a
    · rw [if_pos m, if_pos m]
    · rw [if_neg m, if_neg m]
      refine h.hit b ?_
      by_cases q : a ∈ ks
      · rwa [if_pos q] at hb
      · rw [if_neg q] at hb
        rcases List.mem_append.mp hb with z | z
        · exact z
        · exact absurd (List.mem_singleton.mp z) m
  · have m : b ≠ a := fun z => hb (by
      by_cases q : a ∈ ks
      · rw [if_pos q, z]; exact q
      · rw [if_neg q, z]; exact List.mem_append_right _ (List.mem_singleton.mpr rfl))
    have nb : b ∉ ks := fun z => hb (by
      by_cases q : a ∈ ks
      · rw [if_pos q]; exact z
      · rw [if_neg q]; exact List.mem_append_left _ z)
    rw [val, if_neg m, if_neg m]
    exact h.out b nb
theorem put_len {ks : List α} {a : α} : (if a ∈ ks then ks else ks ++ [a]).length ≤ ks.length + 1 := by
  split
  · omega
  · simp
theorem Fac.len {e : α → Key} {kvs : List (Key × V)} {ks : List α} {c : α → Int} (h : Fac e kvs ks c) : kvs.length = ks.length := by
  have z := congrArg List.length h.keys
  simpa using z
theorem Fac.get {e : α → Key} {kvs : List (Key × V)} {ks : List α} {c : α → Int} (h : Fac e kvs ks c) (a : α) : (valV kvs (e a)).getD (.int 0) = .int (c a) := by
  by_cases m : a ∈ ks
  · rw [h.hit a m]
    rfl
  · rw [(h.out a m).1, (h.out a m).2]
    rfl
/-- dict of rows -/
theorem Fac.merge {e : α → Key} (inj : ∀ a b, e a = e b → a = b) {lt : α → α → Prop} (O : Lo α lt) : ∀ {r : List (α × Int)} {kvs : List (Key × V)} {ks : List α} {c : α → Int}, r.Pairwise (fun p q => lt p.1 q.1) → Fac e kvs ks c →
    ∃ ks' c', Fac e (mergeK kvs (r.map fun p => (e p.1, V.int p.2))) ks' c' ∧ ks'.length ≤ ks.length + r.length ∧ ∀ b, c' b = if (∃ p ∈ r, p.1 = b) then cf r b else c b
  | [], kvs, ks, c, _, h => ⟨ks, c, h, Nat.le_refl _, fun b => by rw [if_neg (by rintro ⟨p, hp, _⟩; cases hp)]⟩
  | (a, f) :: r, kvs, ks, c, hs, h => by
    obtain ⟨h1, h2⟩ := List.pairwise_cons.mp hs
    obtain ⟨ks', c', hf, hl, hc⟩ := Fac.merge inj O h2 (h.put inj a f)
    have pl := put_len (ks := ks) (a := a)
    refine ⟨ks', c', hf, by simp only [List.length_cons]; omega, fun b => ?_⟩
    rw [hc b, cf]
    by_cases e1 : ∃ p ∈ r, p.1 = b
    · obtain ⟨p, hp, z⟩ := e1
      have ne : a ≠ b := fun y => O.irr b (by
        have q := h1 p hp
        rw [z] at q
        exact (y ▸ q : lt b b))
      rw [if_pos ⟨p, hp, z⟩, if_pos ⟨p, List.mem_cons_of_mem _ hp, z⟩, if_neg ne]
    · rw [if_neg e1]
      by_cases ab : b = a
      · rw [if_pos ab, if_pos ⟨_, List.mem_cons_self, ab.symm⟩, if_pos ab.symm]
      · rw [if_neg ab, if_neg]
        rintro ⟨p, hp, z⟩
        rcases List.mem_cons.mp hp with y | y
        · rw [y] at z
          exact ab z.symm
        · exact e1 ⟨p, y, z⟩
theorem Fac.of {e : α → Key} (inj : ∀ a b, e a = e b → a = b) {lt : α → α → Prop} (O : Lo α lt) {r : List (α × Int)} (hs : r.Pairwise fun p q => lt p.1 q.1) :
    ∃ ks c, Fac e (mergeK [] (r.map fun p => (e p.1, V.int p.2))) ks c ∧ ks.length ≤ r.length ∧ ∀ b, c b = cf r b := by
  obtain ⟨ks, c, h1, h2, h3⟩ := Fac.merge inj O hs (Fac.nil e)
  refine ⟨ks, c, h1, by simpa using h2, fun b => ?_⟩
  rw [h3 b]
  split
  · rfl
  · rename_i z
    exact (cf_out fun p hp y => z ⟨p, hp, y⟩).symm
/-- row by row -/
theorem cf_take {lt : α → α → Prop} (O : Lo α lt) : ∀ {r : List (α × Int)} {i : Nat} {a : α} {f : Int}, r.Pairwise (fun p q => lt p.1 q.1) → r[i]? = some (a, f) → cf (r.take i) a = 0 ∧ ∀ b, cf (r.take (i + 1)) b = if b = a then f else cf (r.take i) b
  | (c, g) :: r, 0, a, f, hs, h => by
    cases h
    refine ⟨rfl, fun b => ?_⟩
    show (if c = b then g else cf [] b) = if b = c then g else cf [] b
    by_cases e : b = c
    · rw [if_pos e, if_pos e.symm]
    · rw [if_neg e, if_neg (Ne.symm e)]
  | (c, g) :: r, i + 1, a, f, hs, h => by
    obtain ⟨h1, h2⟩ := List.pairwise_cons.mp hs
    have h' : r[i]? = some (a, f) := by simpa using h
    obtain ⟨e1, e2⟩ := cf_take O h2 h'
    have ne : c ≠ a := fun z => O.irr a (by
      have q := h1 (a, f) (List.mem_of_getElem? h')
      exact (z ▸ q : lt a a))
    refine ⟨?_, fun b => ?_⟩
    · show (if c = a then g else cf (r.take i) a) = 0
      rw [if_neg ne, e1]
    · show (if c = b then g else cf (r.take (i + 1)) b) = if b = a then f else (if c = b then g else cf (r.take i) b)
      rw [e2 b]
      by_cases e : b = a
      · rw [if_pos e, if_pos e, if_neg (fun z => ne (z.trans e))]
      · rw [if_neg e, if_neg e]
/-- a turn of the sum -/
theorem fac_turn {e : α → Key} (inj : ∀ a b, e a = e b → a = b) {lt : α → α → Prop} [DecidableRel lt] (O : Lo α lt) {p q : Sm α} {k : Int} {i : Nat} {a : α} {f : Int} (hp : Ok lt p) (hq : Ok lt q) (h : q.2[i]? = some (a, f)) {kvs : List (Key × V)} {ks : List α} {c : α → Int}
    (F : Fac e kvs ks c) (hc : ∀ b, c b = (cf p.2 b + cf (q.2.take i) b * k) % 65536) : ∃ ks' c', Fac e (putK kvs (e a) (.int ((c a + f * k) % 65536))) ks' c' ∧ ks'.length ≤ ks.length + 1 ∧ ∀ b, c' b = (cf p.2 b + cf (q.2.take (i + 1)) b * k) % 65536 := by
  obtain ⟨e1, e2⟩ := cf_take O hq.cn.srt h
  refine ⟨_, _, F.put inj a _, put_len, fun b => ?_⟩
  rw [e2 b]
  by_cases m : b = a
  · rw [if_pos m, if_pos m, hc a, e1, m]
    omega
  · rw [if_neg m, if_neg m, hc b]
/-- the rows that are told at last -/
theorem rows_end {lt : α → α → Prop} [DecidableRel lt] (O : Lo α lt) {ys : List α} {c : α → Int} (hs : ys.Pairwise lt) (hc : ∀ a, 0 ≤ c a ∧ c a < 65536) (ho : ∀ a, a ∉ ys → c a = 0) {r : List (α × Int)} (hr : Cn lt r) (he : ∀ a, cf r a = c a) :
    (ys.map fun y => (y, c y)).filter (fun p => decide (p.2 ≠ 0)) = r := by
  have sub : ∀ {l : List α}, l.Pairwise lt → Cn lt ((l.map fun y => (y, c y)).filter (fun p => decide (p.2 ≠ 0))) := by
    intro l hl
    refine ⟨List.Pairwise.filter _ (List.pairwise_map.mpr hl), fun p hp => ?_⟩
    obtain ⟨h1, h2⟩ := List.mem_filter.mp hp
    obtain ⟨y, _, rfl⟩ := List.mem_map.mp h1
    have z := hc y
    have n := of_decide_eq_true h2
    show 0 < c y ∧ c y < 65536
    have n' : c y ≠ 0 := n
    omega
  refine cn_ext O (sub hs) hr fun a => ?_
  rw [he a]
  by_cases m : c a = 0
  · rw [m]
    refine cf_out fun p hp z => ?_
    obtain ⟨h1, h2⟩ := List.mem_filter.mp hp
    obtain ⟨y, _, rfl⟩ := List.mem_map.mp h1
    have n : c y ≠ 0 := of_decide_eq_true h2
    have z' : y = a := z
    rw [z'] at n
    exact n m
  · have ma : a ∈ ys := Classical.byContradiction fun z => m (ho a z)
    exact cf_in O (sub hs).srt (List.mem_filter.mpr ⟨List.mem_map.mpr ⟨a, ma, rfl⟩, decide_eq_true m⟩)
/-- so many times -/
theorem scale_rows {lt : α → α → Prop} [DecidableRel lt] (O : Lo α lt) {x : Sm α} (hx : Ok lt x) (k : Int) : (x.2.map fun p => (p.1, p.2 * k % 65536)).filter (fun p => decide (p.2 ≠ 0)) = (addBy lt (0, []) x k).2 := by
  have e : (x.2.map fun p => (p.1, p.2 * k % 65536)) = (x.2.map (·.1)).map fun y => (y, cf x.2 y * k % 65536) := by
    rw [List.map_map]
    refine List.map_congr_left fun p hp => ?_
    show (p.1, p.2 * k % 65536) = (p.1, cf x.2 p.1 * k % 65536)
    rw [cf_in O hx.cn.srt (a := p.1) (f := p.2) hp]
  rw [e]
  refine rows_end O (c := fun y => cf x.2 y * k % 65536) (List.pairwise_map.mpr hx.cn.srt) (fun a => ⟨Int.emod_nonneg _ (by decide), Int.emod_lt_of_pos _ (by decide)⟩) (fun a ha => ?_) (addBy_ok O .nil).cn fun a => ?_
  · show cf x.2 a * k % 65536 = 0
    rw [cf_out fun p hp z => ha (List.mem_map.mpr ⟨p, hp, z⟩), Int.zero_mul]
    rfl
  · rw [cf_addBy O .nil hx]
    show (0 + _) % 65536 = _
    rw [Int.zero_add]
end
/-! ### data -/
theorem dp_rowsP {K : PySem.W.Frag} {H : Hp} : ∀ {ts : List Addr} {r : List (Int × Int)}, RowsAt Sum.inl K H ts r → DpAll K H (ts.map V.ref) (r.map rP)
  | _, _, .nil => .nil
  | _, _, .cons (b := p) h t => .cons (.tup h (.cons (.int p.1) (.cons (.int p.2) .nil))) (dp_rowsP t)
theorem dp_rowsL {K : PySem.W.Frag} {H : Hp} : ∀ {ts : List Addr} {r : List (Str × Int)}, RowsAt Sum.inr K H ts r → DpAll K H (ts.map V.ref) (r.map rL)
  | _, _, .nil => .nil
  | _, _, .cons (b := p) h t => .cons (.tup h (.cons (.str p.1) (.cons (.int p.2) .nil))) (dp_rowsL t)
abbrev PsAt (K : PySem.W.Frag) (H : Hp) (v : V) (p : PS) : Prop := SmAt (α := Int) Sum.inl K H v p
abbrev LsAt (K : PySem.W.Frag) (H : Hp) (v : V) (l : LS) : Prop := SmAt (α := Str) Sum.inr K H v l
theorem PsAt.dp {K : PySem.W.Frag} {H : Hp} {v : V} {p : PS} (h : PsAt K H v p) : Dp K H v (dP p) := by
  obtain ⟨a, b, ts, rfl, h1, h2, h3⟩ := h
  exact .tup h1 (.cons (.int _) (.cons (.tup h2.sq (dp_rowsP h3)) .nil))
theorem LsAt.dp {K : PySem.W.Frag} {H : Hp} {v : V} {l : LS} (h : LsAt K H v l) : Dp K H v (dL l) := by
  obtain ⟨a, b, ts, rfl, h1, h2, h3⟩ := h
  exact .tup h1 (.cons (.int _) (.cons (.tup h2.sq (dp_rowsL h3)) .nil))
theorem inl_inj : ∀ a b : Int, (Sum.inl a : Key) = Sum.inl b → a = b := fun _ _ h => Sum.inl.inj h
theorem inr_inj : ∀ a b : Str, (Sum.inr a : Key) = Sum.inr b → a = b := fun _ _ h => Sum.inr.inj h
theorem kvs_of {α : Type} {e : α → Key} {K : PySem.W.Frag} {H : Hp} : ∀ {ts : List Addr} {r : List (α × Int)}, RowsAt e K H ts r → Paired (fun p kv => SqT K H p [kV kv.1, kv.2]) ts (r.map fun p => (e p.1, V.int p.2))
  | _, _, .nil => .nil
  | _, _, .cons h t => .cons h (kvs_of t)
theorem rows_len {α : Type} {e : α → Key} {K : PySem.W.Frag} {H : Hp} {ts : List Addr} {r : List (α × Int)} (h : RowsAt e K H ts r) : ts.length = r.length := Paired.length h
/-! ### equal data -/
open PySem.SeqAt in
theorem eq_rows_P : ∀ r s : List (Int × Int), PyData.eqvAll (r.map rP) (s.map rP) = decide (r = s)
  | [], [] => rfl
  | [], q :: s => rfl
  | p :: r, [] => rfl
  | (i, f) :: r, (j, g) :: s => by
    have ih := eq_rows_P r s
    have e0 : PyData.eqv (rP (i, f)) (rP (j, g)) = decide ((i, f) = (j, g)) := by
      show (decide (i = j) && (decide (f = g) && true)) = _
      by_cases h1 : i = j <;> by_cases h2 : f = g <;> simp [h1, h2]
    show (PyData.eqv (rP (i, f)) (rP (j, g)) && PyData.eqvAll (r.map rP) (s.map rP)) = _
    rw [e0, ih]
    by_cases h1 : (i, f) = (j, g) <;> by_cases h2 : r = s <;> simp [h1, h2]
theorem eq_P (p q : PS) : PyData.eqv (dP p) (dP q) = decide (p = q) := by
  show (decide (p.1 = q.1) && (PyData.eqvAll (p.2.map rP) (q.2.map rP) && true)) = _
  rw [eq_rows_P]
  obtain ⟨n, r⟩ := p
  obtain ⟨m, s⟩ := q
  by_cases h1 : n = m <;> by_cases h2 : r = s <;> simp [h1, h2]
theorem eq_rows_L : ∀ r s : List (Str × Int), PyData.eqvAll (r.map rL) (s.map rL) = decide (r = s)
  | [], [] => rfl
  | [], q :: s => rfl
  | p :: r, [] => rfl
  | (i, f) :: r, (j, g) :: s => by
    have ih := eq_rows_L r s
    have e0 : PyData.eqv (rL (i, f)) (rL (j, g)) = decide ((i, f) = (j, g)) := by
      show (decide (i = j) && (decide (f = g) && true)) = _
      by_cases h1 : i = j <;> by_cases h2 : f = g <;> simp [h1, h2]
    show (PyData.eqv (rL (i, f)) (rL (j, g)) && PyData.eqvAll (r.map rL) (s.map rL)) = _
    rw [e0, ih]
    by_cases h1 : (i, f) = (j, g) <;> by_cases h2 : r = s <;> simp [h1, h2]
theorem eq_L (p q : LS) : PyData.eqv (dL p) (dL q) = decide (p = q) := by
  show (decide (p.1 = q.1) && (PyData.eqvAll (p.2.map rL) (q.2.map rL) && true)) = _
  rw [eq_rows_L]
  obtain ⟨n, r⟩ := p
  obtain ⟨m, s⟩ := q
  by_cases h1 : n = m <;> by_cases h2 : r = s <;> simp [h1, h2]
end SA
set_option Elab.async false
set_option linter.all false
set_option maxRecDepth 100000
set_option maxHeartbeats 4000000
/-! ## sums stay small -/
namespace SA
open PySem PySem.Spec PyProof.Rows L2 NR SU
section
variable {α : Type} [DecidableEq α] {lt : α → α → Prop} [DecidableRel lt]
theorem ins_len {a : α} {f : Int} : ∀ r : List (α × Int), (ins lt a f r).length ≤ r.length + 1
  | [] => by unfold ins; split <;> simp
  | (b, g) :: r => by
    have ih := ins_len (a := a) (f := f) r
    unfold ins
    split
    · split
      · simp only [List.length_cons]; omega
      · simp only [List.length_cons]; omega
    · split
      · split
        · omega
        · simp only [List.length_cons]; omega
      · simp only [List.length_cons]; omega
theorem insAll_len {k : Int} : ∀ rows acc : List (α × Int), (insAll lt k acc rows).length ≤ acc.length + rows.length
  | [], acc => Nat.le_refl _
  | p :: r, acc => by
    have h1 := insAll_len (k := k) r (ins lt p.1 (p.2 * k) acc)
    have h2 := ins_len (lt := lt) (a := p.1) (f := p.2 * k) acc
    show (insAll lt k (ins lt p.1 (p.2 * k) acc) r).length ≤ _
    simp only [List.length_cons]
    omega
theorem addBy_len (x y : Sm α) (k : Int) : (addBy lt x y k).2.length ≤ x.2.length + y.2.length := insAll_len _ _
theorem insAll_mem {k : Int} : ∀ {rows acc : List (α × Int)} {p : α × Int}, p ∈ insAll lt k acc rows → (∃ q ∈ rows, q.1 = p.1) ∨ ∃ q ∈ acc, q.1 = p.1
  | [], acc, p, h => .inr ⟨p, h, rfl⟩
  | q :: r, acc, p, h => by
    rcases insAll_mem (rows := r) (acc := ins lt q.1 (q.2 * k) acc) h with ⟨z, hz, e⟩ | ⟨z, hz, e⟩
    · exact .inl ⟨z, List.mem_cons_of_mem _ hz, e⟩
    · rcases ins_mem hz with y | y
      · exact .inl ⟨q, List.mem_cons_self, y ▸ e⟩
      · exact .inr ⟨z, y, e⟩
end
theorem winAdd {n : Nat} {p q : PS} {k : Int} (hp : Win n p) (hq : Win n q) : Win n (addP p q k) := fun r hr => by
  rcases insAll_mem hr with ⟨z, hz, e⟩ | ⟨z, hz, e⟩
  · rw [← e]; exact hq z hz
  · rw [← e]; exact hp z hz
theorem winMono {n m : Nat} {p : PS} (h : Win n p) (l : n ≤ m) : Win m p := fun r hr => by
  have := h r hr
  omega
theorem winNum {n : Nat} {k : Int} : Win n (k, []) := fun r hr => nomatch hr
/-- what a sum at work keeps -/
structure Wk (ks : List AKey) (m : Nat) (p : PS) : Prop where
  ok : Ok ltI p
  win : Win ks.length p
  len : p.2.length ≤ m
theorem sgl_wk (ks : List AKey) (K : AKey) {m : Nat} (hm : 1 ≤ m) : Wk (sgl ks K).1 m (sgl ks K).2 ∧ ks.length ≤ (sgl ks K).1.length ∧ (sgl ks K).1.length ≤ ks.length + 1 := by
  unfold sgl
  by_cases c : K ∈ ks
  · rw [if_pos c]
    refine ⟨⟨single_ok _, fun r hr => ?_, hm⟩, Nat.le_refl _, Nat.le_succ _⟩
    rw [List.mem_singleton.mp hr]
    have := List.idxOf_lt_length_of_mem c
    show 0 ≤ ((ks.idxOf K : Nat) : Int) ∧ ((ks.idxOf K : Nat) : Int) < (ks.length : Int)
    omega
  · rw [if_neg c]
    refine ⟨⟨single_ok _, fun r hr => ?_, hm⟩, by simp, by simp⟩
    rw [List.mem_singleton.mp hr]
    show 0 ≤ ((ks.length : Nat) : Int) ∧ ((ks.length : Nat) : Int) < ((ks ++ [K]).length : Int)
    rw [List.length_append, List.length_singleton]
    omega
theorem numWk (ks : List AKey) {m : Nat} {n : Int} (h0 : 0 ≤ n) (h1 : n < 65536) : Wk ks m (n, []) := ⟨⟨h0, h1, .nil⟩, winNum, Nat.zero_le _⟩
theorem Wk.add {ks : List AKey} {m n : Nat} {p q : PS} {k : Int} (h : Wk ks m p) (g : Wk ks n q) : Wk ks (m + n) (addP p q k) := ⟨addBy_ok Lo.int h.ok, winAdd h.win g.win, Nat.le_trans (addBy_len _ _ _) (Nat.add_le_add h.len g.len)⟩
theorem Wk.scl {ks : List AKey} {m : Nat} {p : PS} {k : Int} (h : Wk ks m p) : Wk ks m (addP (0, []) p k) := by
  have z := (numWk ks (m := 0) (n := 0) (by decide) (by decide)).add (k := k) h
  rw [Nat.zero_add] at z
  exact z
theorem Wk.le {ks : List AKey} {m n : Nat} {p : PS} (h : Wk ks m p) (l : m ≤ n) : Wk ks n p := ⟨h.ok, h.win, Nat.le_trans h.len l⟩
theorem Wk.more {ks ks' : List AKey} {m : Nat} {p : PS} (h : Wk ks m p) (l : ks.length ≤ ks'.length) : Wk ks' m p := ⟨h.ok, winMono h.win l, h.len⟩
theorem divRng {a b : Int} (h0 : 0 ≤ a) (h1 : a < 65536) (hb : 0 ≤ b) : 0 ≤ a / b ∧ a / b < 65536 := by
  refine ⟨Int.ediv_nonneg h0 hb, ?_⟩
  have := Int.ediv_le_self b h0
  omega
theorem joinP_wk {ks : List AKey} {w : Str} {m n : Nat} {p q : PS} (hp : Wk ks m p) (hq : Wk ks n q) (h1 : 1 ≤ m) : Wk (joinP ks w p q).1 (m + n) (joinP ks w p q).2 ∧ ks.length ≤ (joinP ks w p q).1.length ∧ (joinP ks w p q).1.length ≤ ks.length + 1 := by
  have here : ∀ {r : PS}, Wk ks (m + n) r → Wk (ks, r).1 (m + n) (ks, r).2 ∧ ks.length ≤ (ks, r).1.length ∧ (ks, r).1.length ≤ ks.length + 1 := fun h => ⟨h, Nat.le_refl _, Nat.le_succ _⟩
  have S : ∀ K, Wk (sgl ks K).1 (m + n) (sgl ks K).2 ∧ ks.length ≤ (sgl ks K).1.length ∧ (sgl ks K).1.length ≤ ks.length + 1 := fun K => sgl_wk ks K (by omega)
  have flag : ∀ (c : Prop) [Decidable c], Wk ks (m + n) ((if c then 1 else 0 : Int), []) := fun c _ => by
    by_cases h : c
    · rw [if_pos h]; exact numWk ks (by decide) (by decide)
    · rw [if_neg h]; exact numWk ks (by decide) (by decide)
  unfold joinP
  split
  · exact here (hp.add hq)
  · split
    · exact here (hp.add hq)
    · split
      · unfold timesP
        split
        · exact here (hp.scl.le (by omega))
        · split
          · exact here (hq.scl.le (by omega))
          · split
            · exact S _
            · exact S _
      · split
        · unfold overP
          split
          · exact here (numWk ks (by decide) (by decide))
          · split
            · have z := divRng hp.ok.n0 hp.ok.n1 hq.ok.n0
              exact here (numWk ks z.1 z.2)
            · exact S _
        · split
          · unfold belowP
            split
            · exact here (numWk ks (by decide) (by decide))
            · split
              · exact here (flag _)
              · exact S _
          · unfold noughtP
            split
            · exact here (flag _)
            · exact S _
def Trm.lv : Trm → Nat
  | .num _ => 1
  | .nam _ => 1
  | .op _ a b => Trm.lv a + Trm.lv b
theorem Trm.lv_pos : ∀ t : Trm, 1 ≤ Trm.lv t
  | .num _ => Nat.le_refl _
  | .nam _ => Nat.le_refl _
  | .op _ a b => Nat.le_trans (Trm.lv_pos a) (Nat.le_add_right _ _)
theorem sumP_wk : ∀ (t : Trm) (ks : List AKey), Wk (sumP ks t).1 (Trm.lv t) (sumP ks t).2 ∧ ks.length ≤ (sumP ks t).1.length ∧ (sumP ks t).1.length + 1 ≤ ks.length + 2 * Trm.lv t
  | .num k, ks => ⟨numWk ks (Int.emod_nonneg _ (by decide)) (Int.emod_lt_of_pos _ (by decide)), Nat.le_refl _, by show ks.length + 1 ≤ ks.length + 2; omega⟩
  | .nam x, ks => by
    have z := sgl_wk ks (.leaf x) (Nat.le_refl 1)
    exact ⟨z.1, z.2.1, by show (sgl ks (.leaf x)).1.length + 1 ≤ ks.length + 2; omega⟩
  | .op w a b, ks => by
    obtain ⟨a1, a2, a3⟩ := sumP_wk a ks
    obtain ⟨b1, b2, b3⟩ := sumP_wk b (sumP ks a).1
    have j := joinP_wk (w := w) (a1.more b2) b1 (Trm.lv_pos a)
    refine ⟨j.1, Nat.le_trans a2 (Nat.le_trans b2 j.2.1), ?_⟩
    show (joinP _ w _ _).1.length + 1 ≤ ks.length + 2 * (Trm.lv a + Trm.lv b)
    have := j.2.2
    omega
/-! ### keys as data -/
def encS (p : PS) : NestedKey := .tup [.num p.1, .tup (p.2.map fun r => .tup [.num r.1, .num r.2])]
def enc : AKey → NestedKey
  | .leaf x => .tup [.text "leaf", .tup [.text "name", .text x]]
  | .two w p q => .tup [.text w, encS p, encS q]
  | .nought p => .tup [.text "nought", encS p]
theorem encR_inj : ∀ {r s : List (Int × Int)}, (r.map fun r => NestedKey.tup [.num r.1, .num r.2]) = (s.map fun r => NestedKey.tup [.num r.1, .num r.2]) → r = s
  | [], [], _ => rfl
  | [], q :: s, h => by cases h
  | p :: r, [], h => by cases h
  | (i, f) :: r, (j, g) :: s, h => by
    obtain ⟨h1, h2⟩ := List.cons.inj h
    cases h1
    rw [encR_inj h2]
theorem encS_inj {p q : PS} (h : encS p = encS q) : p = q := by
  obtain ⟨n, r⟩ := p
  obtain ⟨m, s⟩ := q
  unfold encS at h
  injection h with h
  obtain ⟨h1, h2⟩ := List.cons.inj h
  obtain ⟨h3, _⟩ := List.cons.inj h2
  injection h1 with h1
  injection h3 with h3
  have h1' : n = m := h1
  have h3' : r = s := encR_inj h3
  rw [h1', h3']
theorem enc_inj {k l : AKey} (h : enc k = enc l) : k = l := by
  cases k with
  | leaf x =>
    cases l with
    | leaf y =>
      unfold enc at h
      injection h with h
      obtain ⟨_, h2⟩ := List.cons.inj h
      obtain ⟨h3, _⟩ := List.cons.inj h2
      injection h3 with h3
      obtain ⟨_, h4⟩ := List.cons.inj h3
      obtain ⟨h5, _⟩ := List.cons.inj h4
      injection h5 with h5
      rw [h5]
    | two w p q =>
      unfold enc at h
      injection h with h
      cases (List.cons.inj (List.cons.inj h).2).2
    | nought p =>
      unfold enc at h
      injection h with h
      have z := (List.cons.inj (List.cons.inj h).2).1
      unfold encS at z
      injection z with z
      cases (List.cons.inj z).1
  | two w p q =>
    cases l with
    | leaf y =>
      unfold enc at h
      injection h with h
      cases (List.cons.inj (List.cons.inj h).2).2
    | two w' p' q' =>
      unfold enc at h
      injection h with h
      obtain ⟨h1, h2⟩ := List.cons.inj h
      obtain ⟨h3, h4⟩ := List.cons.inj h2
      obtain ⟨h5, _⟩ := List.cons.inj h4
      injection h1 with h1
      rw [h1, encS_inj h3, encS_inj h5]
    | nought p' =>
      unfold enc at h
      injection h with h
      cases (List.cons.inj (List.cons.inj h).2).2
  | nought p =>
    cases l with
    | leaf y =>
      unfold enc at h
      injection h with h
      have z := (List.cons.inj (List.cons.inj h).2).1
      unfold encS at z
      injection z with z
      cases (List.cons.inj z).1
    | two w' p' q' =>
      unfold enc at h
      injection h with h
      cases (List.cons.inj (List.cons.inj h).2).2
    | nought p' =>
      unfold enc at h
      injection h with h
      obtain ⟨h1, h2⟩ := List.cons.inj h
      obtain ⟨h3, _⟩ := List.cons.inj h2
      rw [encS_inj h3]
end SA
set_option Elab.async false
set_option linter.all false
set_option maxRecDepth 100000
set_option maxHeartbeats 4000000
/-! ## sums by texts stay small -/
namespace SA
open PySem PySem.Spec PyProof.Rows L2 NR SU RI
theorem len_cd (x : Str) : x.length = (cd x).length := rfl
theorem esc_len (q : Nat) : ∀ l : List Nat, (esc q l).length ≤ 2 * l.length
  | [] => Nat.le_refl _
  | c :: l => by
    have ih := esc_len q l
    rw [esc_cons, List.length_append, List.length_cons]
    split
    · simp only [List.length_cons, List.length_nil]; omega
    · simp only [List.length_cons, List.length_nil]; omega
theorem repr_len {x : Str} (h : Pr x) : (cd (reprText x)).length ≤ 2 * x.length + 2 := by
  rw [show cd (reprText x) = _ from repr_codes h, List.length_cons, List.length_append, List.length_singleton]
  have := esc_len (reprQuote x) x.cps.toList
  have e : x.cps.toList.length = x.length := rfl
  omega
theorem num_len {n : Int} (h0 : 0 ≤ n) (h1 : n < 65536) : (nC n).length ≤ 5 := by
  obtain ⟨k, rfl⟩ := Int.eq_ofNat_of_zero_le h0
  rw [nC_nat]
  exact TL.numL_len (by decide) (by
    have : (10 : Nat) ^ 5 = 100000 := by decide
    omega)
/-- what a text of a row takes -/
def rwt (p : Str × Int) : Nat := 2 * p.1.length + 30
theorem rwt_mk (a : Str) (f : Int) : rwt (a, f) = 2 * a.length + 30 := rfl
def wts (r : List (Str × Int)) : Nat := (r.map rwt).sum
def wt (l : LS) : Nat := 30 + wts l.2
theorem wts_cons (p : Str × Int) (r : List (Str × Int)) : wts (p :: r) = rwt p + wts r := by simp [wts]
theorem row_len {p : Str × Int} (h : Pr p.1) (f0 : 0 ≤ p.2) (f1 : p.2 < 65536) : (rowC p).length + 4 ≤ rwt p := by
  unfold rowC rwt
  have h1 := repr_len h
  have h2 := num_len f0 f1
  simp only [List.length_cons, List.length_append, List.length_nil]
  omega
def Pt2 (r : List (Str × Int)) : Prop := ∀ p ∈ r, Pr p.1 ∧ 0 ≤ p.2 ∧ p.2 < 65536
theorem tl_len : ∀ {r : List (Str × Int)}, Pt2 r → (tlC r).length ≤ 1 + wts r
  | [], _ => by decide
  | p :: r, h => by
    have ih := tl_len (r := r) fun q hq => h q (List.mem_cons_of_mem _ hq)
    have z := h p List.mem_cons_self
    have y := row_len z.1 z.2.1 z.2.2
    rw [wts_cons]
    unfold tlC
    simp only [List.length_cons, List.length_append]
    omega
theorem rows_len2 {r : List (Str × Int)} (h : Pt2 r) : (rowsC r).length ≤ 10 + wts r := by
  match r, h with
  | [], _ => decide
  | [p], h =>
    have z := h p List.mem_cons_self
    have y := row_len z.1 z.2.1 z.2.2
    rw [wts_cons]
    unfold rowsC
    simp only [List.length_cons, List.length_append, List.length_nil]
    omega
  | p :: q :: r, h =>
    have z := h p List.mem_cons_self
    have y := row_len z.1 z.2.1 z.2.2
    have t := tl_len (r := q :: r) fun q hq => h q (List.mem_cons_of_mem _ hq)
    rw [wts_cons]
    unfold rowsC
    simp only [List.length_cons, List.length_append]
    omega
/-- a sum by texts as it should be -/
structure Lk (l : LS) : Prop where
  ok : Ok ltS l
  pr : ∀ p ∈ l.2, Pr p.1
theorem Lk.pt2 {l : LS} (h : Lk l) : Pt2 l.2 := fun p hp => ⟨h.pr p hp, Int.le_of_lt (h.ok.cn.rng p hp).1, (h.ok.cn.rng p hp).2⟩
theorem Lk.gd {l : LS} (h : Lk l) : Gd l := ⟨h.ok.n0, fun p hp => ⟨h.pr p hp, Int.le_of_lt (h.ok.cn.rng p hp).1⟩⟩
theorem sh_len {l : LS} (h : Lk l) : (sh l).length ≤ wt l := by
  rw [len_cd, sh_codes]
  unfold shC wt
  have h1 := num_len h.ok.n0 h.ok.n1
  have h2 := rows_len2 h.pt2
  simp only [List.length_cons, List.length_append, List.length_nil]
  omega
theorem ins_wt {a : Str} {f : Int} : ∀ r : List (Str × Int), wts (ins ltS a f r) ≤ wts r + (2 * a.length + 30)
  | [] => by
    unfold ins
    split
    · exact Nat.zero_le _
    · rw [wts_cons, rwt_mk]; show 2 * a.length + 30 + 0 ≤ 0 + _; omega
  | (b, g) :: r => by
    have ih := ins_wt (a := a) (f := f) r
    unfold ins
    split
    · rename_i e
      subst e
      split
      · rw [wts_cons]; omega
      · rw [wts_cons, wts_cons, rwt_mk, rwt_mk]; omega
    · split
      · split
        · omega
        · rw [wts_cons (a, f % 65536), rwt_mk]; omega
      · rw [wts_cons, wts_cons]; omega
theorem insAll_wt {k : Int} : ∀ rows acc : List (Str × Int), wts (insAll ltS k acc rows) ≤ wts acc + wts rows
  | [], acc => by show wts acc ≤ wts acc + 0; omega
  | p :: r, acc => by
    have h1 := insAll_wt (k := k) r (ins ltS p.1 (p.2 * k) acc)
    have h2 := ins_wt (a := p.1) (f := p.2 * k) acc
    show wts (insAll ltS k (ins ltS p.1 (p.2 * k) acc) r) ≤ _
    rw [wts_cons]
    have e : rwt p = 2 * p.1.length + 30 := rfl
    omega
theorem add_wt (l m : LS) (k : Int) : wt (addL l m k) + 30 ≤ wt l + wt m := by
  have z := insAll_wt (k := k) m.2 l.2
  show 30 + wts (insAll ltS k l.2 m.2) + 30 ≤ 30 + wts l.2 + (30 + wts m.2)
  omega
theorem single_wt (T : Str) : wt (single T) = 60 + 2 * T.length := by
  show 30 + (2 * T.length + 30 + 0) = _
  omega
theorem Lk.num {n : Int} (h0 : 0 ≤ n) (h1 : n < 65536) : Lk (n, []) := ⟨⟨h0, h1, .nil⟩, fun _ h => nomatch h⟩
theorem Lk.add {l m : LS} {k : Int} (h : Lk l) (g : Lk m) : Lk (addL l m k) := ⟨addBy_ok Lo.str h.ok, fun p hp => by
  rcases insAll_mem hp with ⟨q, hq, e⟩ | ⟨q, hq, e⟩
  · rw [← e]; exact g.pr q hq
  · rw [← e]; exact h.pr q hq⟩
theorem Lk.single {T : Str} (h : Pr T) : Lk (SU.single T) := ⟨single_ok T, fun p hp => by rw [List.mem_singleton.mp hp]; exact h⟩
theorem txTwo_len {w : Str} {l m : LS} (h : Lk l) (g : Lk m) : (txTwo w l m).length ≤ w.length + 2 + wt l + wt m := by
  have h1 := sh_len h
  have h2 := sh_len g
  rw [len_cd, tx_two_codes]
  rw [len_cd] at h1 h2
  simp only [List.length_append, List.length_cons]
  have e : (cd w).length = w.length := rfl
  omega
theorem txTimes_len {l m : LS} (h : Lk l) (g : Lk m) : (txTimes l m).length ≤ 7 + wt l + wt m := by
  have h1 := sh_len h
  have h2 := sh_len g
  rw [len_cd, tx_times_codes]
  rw [len_cd] at h1 h2
  rcases sort2_or (sh l) (sh m) with ⟨a, b⟩ | ⟨a, b⟩ <;> rw [a, b] <;> simp only [List.length_append, List.length_cons, List.length_nil] <;> omega
theorem txNought_len {l m : LS} (h : Lk l) (g : Lk m) : (txNought l m).length ≤ 7 + wt l + wt m := by
  have h1 := sh_len h
  have h2 := sh_len g
  rw [len_cd, tx_nought_codes]
  rw [len_cd] at h1 h2
  rcases minS_or (sh l) (sh m) with a | a <;> rw [a] <;> simp only [List.length_append, List.length_cons, List.length_nil] <;> omega
theorem pr_blank : Pr (" " : Str) := pr_lit (by decide +kernel)
theorem txTwo_pr {w : Str} {l m : LS} (hw : Pr w) (h : Lk l) (g : Lk m) : Pr (txTwo w l m) := Pr.app (Pr.app (Pr.app (Pr.app hw pr_blank) (sh_pr h.gd)) pr_blank) (sh_pr g.gd)
theorem txTimes_pr {l m : LS} (h : Lk l) (g : Lk m) : Pr (txTimes l m) := by
  unfold txTimes
  refine Pr.app (pr_lit (by decide +kernel)) ?_
  rcases sort2_or (sh l) (sh m) with ⟨a, b⟩ | ⟨a, b⟩ <;> rw [a, b]
  · exact Pr.app (Pr.app (sh_pr h.gd) pr_blank) (sh_pr g.gd)
  · exact Pr.app (Pr.app (sh_pr g.gd) pr_blank) (sh_pr h.gd)
theorem txNought_pr {l m : LS} (h : Lk l) (g : Lk m) : Pr (txNought l m) := by
  unfold txNought
  refine Pr.app (pr_lit (by decide +kernel)) ?_
  rcases minS_or (sh l) (sh m) with a | a <;> rw [a]
  · exact sh_pr h.gd
  · exact sh_pr g.gd
theorem flagLk (c : Prop) [Decidable c] : Lk ((if c then 1 else 0 : Int), []) := by
  by_cases h : c
  · rw [if_pos h]; exact Lk.num (by decide) (by decide)
  · rw [if_neg h]; exact Lk.num (by decide) (by decide)
theorem num_wt (n : Int) : wt (n, []) = 30 := rfl
/-- a step -/
theorem join_lk {w : Str} {l m : LS} (hw : Pr w) (wl : w.length ≤ 10) (h : Lk l) (g : Lk m) : Lk (joinL w l m) ∧ wt (joinL w l m) ≤ 100 + 2 * (wt l + wt m) ∧ (joinL w l m).2.length ≤ max 1 (l.2.length + m.2.length) := by
  have N : ∀ {n : Int}, Lk (n, []) → Lk (n, []) ∧ wt (n, []) ≤ 100 + 2 * (wt l + wt m) ∧ ((n, []) : LS).2.length ≤ max 1 (l.2.length + m.2.length) := fun z => ⟨z, by rw [num_wt]; omega, Nat.zero_le _⟩
  have S : ∀ {T : Str}, Pr T → T.length ≤ 12 + wt l + wt m → Lk (single T) ∧ wt (single T) ≤ 100 + 2 * (wt l + wt m) ∧ (single T).2.length ≤ max 1 (l.2.length + m.2.length) := fun {T} z y => ⟨Lk.single z, by rw [single_wt]; omega, by show 1 ≤ _; omega⟩
  have A : ∀ {x y : LS} {k : Int}, Lk x → Lk y → wt x + wt y ≤ 30 + wt l + wt m → x.2.length + y.2.length ≤ l.2.length + m.2.length → Lk (addL x y k) ∧ wt (addL x y k) ≤ 100 + 2 * (wt l + wt m) ∧ (addL x y k).2.length ≤ max 1 (l.2.length + m.2.length) := fun {x y k} hx hy hz hn => by
    have z := add_wt x y k
    have n := addBy_len (lt := ltS) x y k
    exact ⟨hx.add hy, by omega, by show (addBy ltS x y k).2.length ≤ _; omega⟩
  have z0 : Lk (0, []) := Lk.num (by decide) (by decide)
  have w0 : wt (0, []) = 30 := rfl
  have l0 : ((0, []) : LS).2.length = 0 := rfl
  unfold joinL
  split
  · exact A h g (by omega) (Nat.le_refl _)
  · split
    · exact A h g (by omega) (Nat.le_refl _)
    · split
      · unfold timesL
        split
        · exact A z0 h (by omega) (by omega)
        · split
          · exact A z0 g (by omega) (by omega)
          · exact S (txTimes_pr h g) (by have := txTimes_len h g; omega)
      · split
        · unfold sameL
          split
          · exact N (flagLk _)
          · have a1 := h.add (k := 65535) g
            have a2 := g.add (k := 65535) h
            refine S (txNought_pr a1 a2) ?_
            have z := txNought_len a1 a2
            have y1 := add_wt l m 65535
            have y2 := add_wt m l 65535
            rcases minS_or (sh (addL l m 65535)) (sh (addL m l 65535)) with a | a
            · have q := sh_len a1
              rw [len_cd] at q
              rw [len_cd, tx_nought_codes, a]
              simp only [List.length_append, List.length_cons, List.length_nil]
              omega
            · have q := sh_len a2
              rw [len_cd] at q
              rw [len_cd, tx_nought_codes, a]
              simp only [List.length_append, List.length_cons, List.length_nil]
              omega
        · unfold twoL
          split
          · exact N z0
          · split
            · rename_i e
              refine N ?_
              split
              · have r := divRng h.ok.n0 h.ok.n1 g.ok.n0
                exact Lk.num r.1 r.2
              · exact flagLk _
            · exact S (txTwo_pr hw h g) (by have := txTwo_len (w := w) h g; omega)
end SA
set_option Elab.async false
set_option linter.all false
set_option maxRecDepth 100000
set_option maxHeartbeats 4000000
namespace K15
open PySem PySem.Spec PyProof.Rows L2 NR SU SA NC
def topS (i : Nat) : Stmt := PySem.Challenge.pw_midferry_k16_nought_one_and_bounds.main.body.getD i (.Pass ⟨0, 0, 0, 0⟩)
structure Def (K : PySem.W.Frag) (mg : Str → Option Value) (x : Str) (st : Stmt) (ps : List Str) (f : Addr) (fd : FuncData) : Prop where
  fn : Fun K x x st f fd
  at_ : mg x = some (.ref f)
  b : Binds K fd ps []
/-- names of the top -/
structure Glob (K : PySem.W.Frag) (mg : Str → Option Value) (pW pN : Addr) : Prop where
  isi : mg "isinstance" = none
  int : mg "int" = none
  len : mg "len" = none
  list : mg "list" = none
  tuple : mg "tuple" = none
  dict : mg "dict" = none
  range : mg "range" = none
  repr : mg "repr" = none
  sorted : mg "sorted" = none
  min : mg "min" = none
  max : mg "max" = none
  zip : mg "zip" = none
  ROUND : ∃ t, mg "ROUND" = some (.int 65536 t)
  NUM : ∃ t, mg "NUM" = some (.str "num" t)
  CELL : ∃ t, mg "CELL" = some (.str "cell" t)
  WORDS : mg "WORDS" = some (.ref pW)
  words : ∀ H, SqT K H pW (six.map V.str)
  NOUGHT : mg "NOUGHT" = some (.ref pN)
  nought : ∀ H, PsAt K H (.ref pN) (0, [])
/-! ### joined -/
abbrev sJoined : Stmt := topS 13
abbrev nJoined : List Str := ["rows", "row", "number"]
theorem scJoined : FnScope nJoined ["rows"] (defScope sJoined) := ⟨rfl, rfl, rfl, by decide +kernel, rfl, by decide +kernel, by decide +kernel⟩
section
variable {P : Program} {w : World} {K : PySem.W.Frag} {mg : Str → Option Value} {base : Heap} {pW pN : Addr}
theorem SL {H : Hp} {p : Addr} {xs : List V} (h : H p = some (.lst xs)) : SqL K H p xs := .inl (.inl h)
theorem ixTK {X : Cx} (h : X.K = K) : IxR X (rIxT K) := h ▸ ix_tup
def spJoined (K : PySem.W.Frag) : Sp := fun vs H Q _ => ∃ (a : Addr) (ts : List Addr), vs = [.ref a] ∧ SqL K H a (ts.map V.ref) ∧ (∀ t ∈ ts, SqT K H t []) ∧ ∀ p H', Same H H' → SqT K H' p [] → Q (.ref p) H'
theorem ok_joined {f : Addr} {fd : FuncData} {k : Nat} (F : Fun K "joined" "joined" sJoined f fd) (G : Glob K mg pW pN) : FnOk P w K mg base CX0 (k + 1) f fd ["rows"] (spJoined K) := by
  refine F.ok scJoined (fun vs H Q E h => ?_) (fun cdv A outer s H vs Q E hr h => ?_)
  · obtain ⟨a, ts, rfl, _⟩ := h
    rfl
  · obtain ⟨a, ts, rfl, ha, ht, q⟩ := h
    refine ⟨_, pss_one (ps_ret (pe_callTy call_tuple_of (by rfl) G.tuple (by decide +kernel) (pa_cons (pe_callB (cr_sortedSet rfl) (by rfl) G.sorted (by decide +kernel) (pa_cons
      (pe_sc0 (own := [("row", 1), ("number", 2)]) (g := gName 1) (wi1 := iTup K (tVar 1)) rfl scJoined.nd (pi_list (pv 0)) (blkOk_by (own := [("row", 1), ("number", 2)]) (N := nJoined) (sc := defScope sJoined) (by decide +kernel))
        (fun _ _ _ _ _ => pg_name (i := 1) scJoined.nd rfl (Or.inl rfl)) (fun _ _ _ _ _ => pi_tup (pv 1))) pa_nil)) pa_nil))), ?_⟩
    refine ⟨_, rfl, a, rfl, ⟨_, ha⟩, fun D hD => ⟨fun i m H' => m = ts.length - i ∧ i ≤ ts.length ∧ H' = upd H D (SetO w D (fun _ => false) 0), ⟨ts.length, by simp, Nat.zero_le _, rfl⟩, ?_⟩⟩
    have sm := same_new (o := SetO w D (fun _ => false) 0) hD
    have ha' := sm.seq ha
    rintro i m H' ⟨rfl, hi, rfl⟩
    by_cases c : i < ts.length
    · refine .inr ⟨⟨ts.map V.ref, .ref ts[i], ha', by simp [c]⟩, fun H' => H' = upd H D (SetO w D (fun _ => false) 0), fun H' e => ⟨ts.length - (i + 1), by omega, rfl, c, e⟩, fun x H' y => ?_⟩
      obtain ⟨rfl, y⟩ := y
      have ex := y _ ha'
      rw [List.getElem?_map, List.getElem?_eq_getElem c] at ex
      cases ex
      have et := (Tk.of sm).sq (ht ts[i] (List.getElem_mem c))
      exact ⟨rfl, _, rfl, ts[i], rfl, ⟨_, et⟩, ⟨[], et, Nat.zero_le _⟩, rfl⟩
    · refine .inl ⟨⟨_, ha', by simp; omega⟩, D, _, 0, rfl, upd_same, by decide, fun ns p _ hm hl hp => ?_⟩
      have e0 : ns = [] := List.eq_nil_of_length_eq_zero hl
      subst e0
      refine ⟨p, [], rfl, .inl ⟨SL upd_same, fun l hl => ?_⟩⟩
      exact q l _ ((sm.trans (same_new hp)).trans (same_new hl)) sq_new
/-! ### is_cell -/
abbrev sIsCell : Stmt := topS 14
theorem scIsCell : FnScope ["worth"] ["worth"] (defScope sIsCell) := ⟨rfl, rfl, rfl, by decide +kernel, rfl, by decide +kernel, by decide +kernel⟩
def spIsCell (K : PySem.W.Frag) : Sp := fun vs H Q _ => ∃ (a : Addr) (n : Int) (v : V), vs = [.ref a] ∧ SqT K H a [.int n, v] ∧ Q (.bl false) H
theorem ok_isCell {f : Addr} {fd : FuncData} {k : Nat} (F : Fun K "is_cell" "is_cell" sIsCell f fd) (G : Glob K mg pW pN) : FnOk P w K mg base CX0 (k + 1) f fd ["worth"] (spIsCell K) := by
  obtain ⟨tc, gC⟩ := G.CELL
  refine F.ok scIsCell (fun vs H Q E h => ?_) (fun cdv A outer s H vs Q E hr h => ?_)
  · obtain ⟨a, n, v, rfl, _⟩ := h
    rfl
  · obtain ⟨a, n, v, rfl, ha, q⟩ := h
    refine ⟨_, pss_one (ps_ret (pe_cmpR op_eq (pe_ix ix_tup (pv 0) pe_int (fun _ _ => rfl)) (pe_glob (v := .str "cell") (by rfl) gC ⟨_, rfl⟩) (nomark _))), ?_⟩
    refine ⟨_, rfl, a, _, 0, .int n, rfl, rfl, ha, rfl, rfl, ?_⟩
    exact q
/-! ### scaled -/
abbrev sScaled : Stmt := topS 15
abbrev nScaled : List Str := ["one", "many", "rows", "atom", "factor", "row"]
theorem scScaled : FnScope nScaled ["one", "many"] (defScope sScaled) := ⟨rfl, rfl, rfl, by decide +kernel, rfl, by decide +kernel, by decide +kernel⟩
/-- a list of rows is being made at D -/
structure RowsIn {α : Type} (e : α → Key) (K : PySem.W.Frag) (H0 : Hp) (D : Addr) (r : List (α × Int)) (H : Hp) : Prop where
  same : Same H0 H
  ex : ∃ ts : List Addr, H D = some (.lst (ts.map V.ref)) ∧ RowsAt e K H ts r
theorem RowsIn.zero {α : Type} {e : α → Key} {H0 : Hp} {D : Addr} (h : H0 D = none) : RowsIn e K H0 D [] (upd H0 D (.lst [])) := ⟨same_new h, [], upd_same, .nil⟩
theorem Same.put {H0 H : Hp} {D : Addr} {o : HO} (s : Same H0 H) (h : H0 D = none) : Same H0 (upd H D o) := fun b x e => by
  rw [upd_ne (ne_of_none e h)]
  exact s b x e
/-- one more -/
theorem RowsIn.snoc {α : Type} {e : α → Key} {H0 : Hp} {D : Addr} {r : List (α × Int)} {H : Hp} (hD : H0 D = none) {ts : List Addr} (s : Same H0 H) (h1 : H D = some (.lst (ts.map V.ref))) (h2 : RowsAt e K H ts r) {t : Addr} {p : α × Int} (ht : SqT K H t [kV (e p.1), .int p.2]) :
    RowsIn e K H0 D (r ++ [p]) (upd H D (.lst (ts.map V.ref ++ [.ref t]))) := by
  have k : Tk H (upd H D (.lst (ts.map V.ref ++ [.ref t]))) := Tk.upd (by rw [h1]; exact fun _ z => nomatch z) (by rw [h1]; exact fun _ _ z => nomatch z)
  refine ⟨Same.put s hD, ts ++ [t], by rw [upd_same, List.map_append]; rfl, ?_⟩
  exact Paired.snoc (RowsAt.tk k h2) (k.sq ht)
theorem take_snoc {α : Type} {l : List α} {i : Nat} {x : α} (h : l[i]? = some x) : l.take (i + 1) = l.take i ++ [x] := by
  rw [List.take_add_one, h]
  rfl
/-- rows that are not nought are kept -/
theorem filt {α : Type} {e : α → Key} {H : Hp} {a : Addr} {ts : List Addr} {r : List (α × Int)} {σ : L2.St} {Qd : Hp → Prop} {vs : List Nat} {g : TG} {tt : TT} {te : TE} {D : Addr} (hD : H D = none) (ha : SqL K H a (ts.map V.ref)) (hr : RowsAt e K H ts r) (hz : r.length ≤ 1000)
    (turn : ∀ (t : Addr) (p : α × Int) (H' : Hp) (acc : List V) (N : Hp → Prop), SqT K H' t [kV (e p.1), .int p.2] → H' D = some (.lst acc) → acc.length < sizeLine → (p.2 ≠ 0 → N (upd H' D (.lst (acc ++ [.ref t])))) → (p.2 = 0 → N H') →
      g (.ref t) (wipe σ vs) H' fun σ2 H2 => wipe σ2 vs = wipe σ vs ∧ tt σ2 H2 fun b H3 => if b = true then te σ2 H3 fun y H4 => ∃ acc, H4 D = some (.lst acc) ∧ acc.length < sizeLine ∧ N (upd H4 D (.lst (acc ++ [y]))) else N H3)
    (hd : ∀ H', RowsIn e K H D (r.filter fun p => decide (p.2 ≠ 0)) H' → Qd H') :
    ∃ W : Nat → Nat → Hp → Prop, (∃ m, W 0 m (upd H D (.lst []))) ∧ ∀ i m H, W i m H →
      ((Itl K a).stop i H ∧ Qd H) ∨ ((Itl K a).go i H ∧ ∃ Nx : Hp → Prop, (∀ H', Nx H' → ∃ m', m' < m ∧ W (i + 1) m' H') ∧ ∀ x H', (Itl K a).yld i H x H' → g x (wipe σ vs) H' fun σ2 H2 => wipe σ2 vs = wipe σ vs ∧ tt σ2 H2 fun b H3 =>
        if b = true then te σ2 H3 fun y H4 => ∃ acc, H4 D = some (.lst acc) ∧ acc.length < sizeLine ∧ Nx (upd H4 D (.lst (acc ++ [y]))) else Nx H3) := by
  have hl := rows_len hr
  refine lc_list (K := K) (a := a) (xs := ts.map V.ref) (fun i H' => RowsIn e K H D ((r.take i).filter fun p => decide (p.2 ≠ 0)) H') (by simpa using RowsIn.zero hD) (fun i H' _ z => z.same.seq ha) ?_ ?_
  · intro i x H' hx z
    rw [List.getElem?_map] at hx
    obtain ⟨t, ht, rfl⟩ := Option.map_eq_some_iff.mp hx
    obtain ⟨p, hp, hq⟩ := Paired.atL hr i t ht
    obtain ⟨ts', e1, e2⟩ := z.ex
    have hq' := (Tk.of z.same).sq hq
    have ln : ts'.length ≤ 1000 := by
      rw [rows_len e2]
      refine Nat.le_trans (List.length_filter_le _ _) ?_
      rw [List.length_take]
      omega
    refine turn t p H' _ _ hq' e1 (by rw [List.length_map, sizeLine_eq]; omega) (fun n => ?_) (fun n => ?_)
    · have ef : [p].filter (fun p => decide (p.2 ≠ 0)) = [p] := by simp [n]
      rw [take_snoc hp, List.filter_append, ef]
      exact RowsIn.snoc hD z.same e1 e2 hq'
    · have ef : [p].filter (fun p => decide (p.2 ≠ 0)) = [] := by simp [n]
      rw [take_snoc hp, List.filter_append, ef, List.append_nil]
      exact z
  · intro H' z
    rw [List.length_map, hl, List.take_length] at z
    exact hd H' z
def spScaled (K : PySem.W.Frag) : Sp := fun vs H Q _ => ∃ (v : V) (k : Int) (p : PS), vs = [v, .int k] ∧ PsAt K H v p ∧ Ok ltI p ∧ 0 ≤ k ∧ k < 65536 ∧ p.2.length ≤ 900 ∧
  ∀ v' H', Same H H' → PsAt K H' v' (addP (0, []) p k) → Q v' H'
end
end K15
set_option Elab.async false
set_option linter.all false
set_option maxRecDepth 100000
set_option maxHeartbeats 4000000
namespace K15
open PySem PySem.Spec PyProof.Rows L2 NR SU SA NC
section
variable {P : Program} {w : World} {K : PySem.W.Frag} {mg : Str → Option Value} {base : Heap} {pW pN : Addr}
theorem ok_scaled {f : Addr} {fd : FuncData} {k : Nat} (F : Fun K "scaled" "scaled" sScaled f fd) (G : Glob K mg pW pN) : FnOk P w K mg base CX0 (k + 1) f fd ["one", "many"] (spScaled K) := by
  obtain ⟨tr, gR⟩ := G.ROUND
  refine F.ok scScaled (fun vs H Q E h => ?_) (fun cdv A outer s H vs Q E hr h => ?_)
  · obtain ⟨v, k, p, rfl, _⟩ := h
    rfl
  · obtain ⟨v, k, p, rfl, hv, hp, k0, k1, hz, q⟩ := h
    refine ⟨_, pss_cons (ps_setLc (i := 2) (own := [("atom", 3), ("factor", 4)]) (g := gTup K 2 (gCons (gName 3) (gCons (gName 4) gNil))) (tt := tYes) (by rfl) scScaled.nd rfl rfl (sw_true rfl rfl rfl (by decide +kernel)) (pi_tup (pe_ix ix_tup (pv 0) pe_int (fun _ _ => rfl))) (blkOk_by (own := [("atom", 3), ("factor", 4)]) (N := nScaled) (sc := defScope sScaled) (by decide +kernel))
        (fun _ _ _ _ _ => pg_tup rfl (pgs_cons (pg_name (i := 3) scScaled.nd rfl (Or.inl rfl)) (pgs_cons (pg_name (i := 4) scScaled.nd rfl (Or.inl rfl)) pgs_nil))) (fun _ _ _ _ _ => pts_nil)
        (fun _ _ _ _ _ => pe_tup (pa_cons (pv 3) (pa_cons (pe_op op_mod (pe_op op_mul (pv 4) (pv 1)) (pe_glob (v := .int 65536) (by rfl) gR ⟨_, rfl⟩)) pa_nil))))
      (pss_one (ps_ret (pe_tup (pa_cons (pe_op op_mod (pe_op op_mul (pe_ix ix_tup (pv 0) pe_int (fun _ _ => rfl)) (pv 1)) (pe_glob (v := .int 65536) (by rfl) gR ⟨_, rfl⟩))
        (pa_cons (pe_callTy call_tupleF (by rfl) G.tuple (by decide +kernel) (pa_cons (pe_lc (own := [("row", 5)]) (g := gName 5) rfl scScaled.nd (pi_list (pv 2)) (blkOk_by (own := [("row", 5)]) (N := nScaled) (sc := defScope sScaled) (by decide +kernel))
          (fun _ _ _ _ _ => pg_name (i := 5) scScaled.nd rfl (Or.inl rfl)) (fun _ _ _ _ _ => pts_one (pt_cmpR op_ne (pe_ix (ixTK (K := K) rfl) (pv 5) pe_int (fun _ _ => rfl)) pe_int (nomark _))) (fun _ _ _ _ _ => pv 5)) pa_nil)) pa_nil))))), ?_⟩
    obtain ⟨a, b, ts, rfl, ha, hb, hrow⟩ := hv
    have hl := rows_len hrow
    -- rows
    refine ⟨_, rfl, a, _, 1, .ref b, rfl, rfl, ha, rfl, b, rfl, ⟨_, hb.sq⟩, fun D hD => lc_tup (K := K) (a := b) (xs := ts.map V.ref) (fun i H' => RowsIn (α := Int) Sum.inl K H D ((p.2.take i).map fun p => (p.1, p.2 * k % 65536)) H') (RowsIn.zero hD) (fun i H' _ z => (Tk.of z.same).sq hb.sq) ?_ ?_⟩
    · intro i x H' hx z
      rw [List.getElem?_map] at hx
      obtain ⟨t, ht, rfl⟩ := Option.map_eq_some_iff.mp hx
      obtain ⟨pr, hpr, hq⟩ := SA.Paired.atL hrow i t ht
      obtain ⟨ts', e1, e2⟩ := z.ex
      have hq' := (Tk.of z.same).sq hq
      have fr := hp.cn.rng pr (List.mem_of_getElem? hpr)
      have il : i < p.2.length := (List.getElem?_eq_some_iff.mp hpr).1
      refine ⟨t, _, rfl, hq', rfl, _, _, rfl, _, _, rfl, rfl, rfl, ?_⟩
      refine ⟨_, rfl, _, rfl, _, rfl, _, _, rfl, rfl, .inl ⟨by omega, by omega⟩, _, _, rfl, rfl, (by decide : (0 : Int) < 65536), (by show 2 ≤ sizeLine; decide), fun t1 ht1 => ?_⟩
      have s1 := same_new (o := .tup [kV (Sum.inl pr.1), .int (pr.2 * k % 65536)]) ht1
      refine ⟨ts'.map V.ref, ?_, ?_, ?_⟩
      · exact s1 _ _ e1
      · rw [List.length_map, rows_len e2, List.length_map, List.length_take, sizeLine_eq]
        omega
      · rw [take_snoc hpr, List.map_append]
        exact RowsIn.snoc hD (z.same.trans s1) (s1 _ _ e1) (RowsAt.tk (Tk.of s1) e2) sq_new
    · intro H1 z
      rw [List.length_map, hl, List.take_length] at z
      obtain ⟨ts1, e1, e2⟩ := z.ex
      have ha1 := (Tk.of z.same).sq ha
      refine ⟨_, rfl, a, _, 0, .int p.1, rfl, rfl, ha1, rfl, _, rfl, _, _, rfl, rfl, .inr ⟨by omega, by omega⟩, _, _, rfl, rfl, (by decide : (0 : Int) < 65536), ?_⟩
      refine ⟨_, rfl, D, rfl, ⟨_, SL e1⟩, fun D2 hD2 => filt (K := K) (α := Int) (e := Sum.inl) hD2 (SL e1) e2 (by rw [List.length_map]; omega) ?_ ?_⟩
      · intro t pr H' acc N hq hacc hln h1 h2
        refine ⟨rfl, _, rfl, t, _, 1, .int pr.2, rfl, rfl, hq, rfl, rfl, _, rfl, ite2 (fun c => ?_) (fun c => ?_)⟩
        · exact ⟨_, rfl, acc, hacc, hln, h1 (by simpa using c)⟩
        · exact h2 (by simpa using c)
      · intro H2 z2
        obtain ⟨ts2, g1, g2⟩ := z2.ex
        rw [scale_rows Lo.int hp] at g2
        refine ⟨D2, _, rfl, SL g1, fun l o hl ho => ⟨(by show 2 ≤ sizeLine; decide), fun t ht => ?_⟩⟩
        have s2 := same_new (o := .frz o (.tup (ts2.map V.ref))) hl
        have s3 := same_new (o := .tup [.int (p.1 * k % 65536), .ref l]) ht
        refine q _ _ (((z.same.trans z2.same).trans s2).trans s3) ⟨t, l, ts2, rfl, ?_, (Tk.of s3).tn (tn_new ho), RowsAt.tk (Tk.of (s2.trans s3)) g2⟩
        have e0 : (addP (0, []) p k).1 = p.1 * k % 65536 := by
          show (0 + p.1 * k) % 65536 = _
          rw [Int.zero_add]
        rw [e0]
        exact sq_new
/-! ### added -/
abbrev sAdded : Stmt := topS 16
abbrev nAdded : List Str := ["one", "other", "factors", "atom", "factor", "rows", "row"]
theorem scAdded : FnScope nAdded ["one", "other"] (defScope sAdded) := ⟨rfl, rfl, rfl, by decide +kernel, rfl, by decide +kernel, by decide +kernel⟩
def spAdded (K : PySem.W.Frag) : Sp := fun vs H Q _ => ∃ (v u : V) (p r : PS), vs = [v, u] ∧ PsAt K H v p ∧ PsAt K H u r ∧ Ok ltI p ∧ Ok ltI r ∧ p.2.length + r.2.length < 64 ∧
  ∀ v' H', Same H H' → PsAt K H' v' (addP p r 1) → Q v' H'
theorem ok_added {f : Addr} {fd : FuncData} {k : Nat} (F : Fun K "added" "added" sAdded f fd) (G : Glob K mg pW pN) : FnOk P w K mg base CX0 (k + 1) f fd ["one", "other"] (spAdded K) := by
  obtain ⟨tr, gR⟩ := G.ROUND
  refine F.ok scAdded (fun vs H Q E h => ?_) (fun cdv A outer s H vs Q E hr h => ?_)
  · obtain ⟨v, u, p, r, rfl, _⟩ := h
    rfl
  · obtain ⟨v, u, p, r, rfl, hv, hu1, hp, hq, hz, q⟩ := h
    have hu := hu_of hr
    refine ⟨_, pss_cons (ps_set (i := 2) scAdded.nd rfl (.inr rfl) (pe_callTy (call_dictT rfl) (by rfl) G.dict (by decide +kernel) (pa_cons (pe_ix ix_tup (pv 0) pe_int (fun _ _ => rfl)) pa_nil)))
      (pss_cons (ps_for PassesOwn.never rfl (pi_tup (pe_ix ix_tup (pv 1) pe_int (fun _ _ => rfl))) (pg_tup rfl (pgs_cons (pg_name (i := 3) scAdded.nd rfl (.inl rfl)) (pgs_cons (pg_name (i := 4) scAdded.nd rfl (.inl rfl)) pgs_nil)))
        (pss_one (ps_dput hu (pv 2) (pv 3) (pe_op op_mod (pe_op op_add (pe_dget2 hu (pv 2) (pv 3) pe_int ⟨rfl, rfl, rfl, rfl⟩) (pv 4)) (pe_glob (v := .int 65536) (by rfl) gR ⟨_, rfl⟩)) rfl)))
      (pss_cons (ps_setLc (i := 5) (own := [("atom", 3)]) (g := gName 3) (tt := tYes) (by rfl) scAdded.nd rfl rfl (sw_true rfl rfl rfl (by decide +kernel)) (pi_list (pe_callB (call_sortedDI rfl) (by rfl) G.sorted (by decide +kernel) (pa_cons (pv 2) pa_nil))) (blkOk_by (own := [("atom", 3)]) (N := nAdded) (sc := defScope sAdded) (by decide +kernel))
        (fun _ _ _ _ _ => pg_name (i := 3) scAdded.nd rfl (Or.inl rfl)) (fun _ _ _ _ _ => pts_nil)
        (fun _ _ _ _ _ => pe_tup (pa_cons (pv 3) (pa_cons (pe_dget hu (pv 2) (pv 3) (fun _ _ => rfl)) pa_nil))))
      (pss_one (ps_ret (pe_tup (pa_cons (pe_op op_mod (pe_op op_add (pe_ix ix_tup (pv 0) pe_int (fun _ _ => rfl)) (pe_ix ix_tup (pv 1) pe_int (fun _ _ => rfl))) (pe_glob (v := .int 65536) (by rfl) gR ⟨_, rfl⟩))
        (pa_cons (pe_callTy call_tupleF (by rfl) G.tuple (by decide +kernel) (pa_cons (pe_lc (own := [("row", 6)]) (g := gName 6) rfl scAdded.nd (pi_list (pv 5)) (blkOk_by (own := [("row", 6)]) (N := nAdded) (sc := defScope sAdded) (by decide +kernel))
          (fun _ _ _ _ _ => pg_name (i := 6) scAdded.nd rfl (Or.inl rfl)) (fun _ _ _ _ _ => pts_one (pt_cmpR op_ne (pe_ix (ixTK (K := K) rfl) (pv 6) pe_int (fun _ _ => rfl)) pe_int (nomark _))) (fun _ _ _ _ _ => pv 6)) pa_nil)) pa_nil))))))), ?_⟩
    obtain ⟨a, b, ts, rfl, ha, hb, hrow⟩ := hv
    obtain ⟨a2, b2, ts2, rfl, ha2, hb2, hrow2⟩ := hu1
    have hl := rows_len hrow
    have hl2 := rows_len hrow2
    obtain ⟨ks0, c0, F0, l0, hc0⟩ := Fac.of inl_inj Lo.int hp.cn.srt
    -- factors
    refine ⟨_, rfl, a, _, 1, .ref b, rfl, rfl, ha, rfl, b, ts, _, rfl, hb, kvs_of hrow, fun d hd => ?_⟩
    have sd := same_new (o := .dK (mergeK [] (p.2.map fun p => ((Sum.inl p.1 : Key), V.int p.2)))) hd
    refine ⟨_, rfl, a2, _, 1, .ref b2, rfl, rfl, (Tk.of sd).sq ha2, rfl, b2, rfl, ⟨_, (Tk.of sd).sq hb2.sq⟩, for_tup (K := K) (a := b2) (xs := ts2.map V.ref) (fun i σ H' => Same H H' ∧ ∃ (kvs : List (Key × V)) (ks : List Int) (c : Int → Int) (y z : Option V), σ = [some (.ref a), some (.ref a2), some (.ref d), y, z, none, none] ∧
      H' d = some (.dK kvs) ∧ Fac (α := Int) Sum.inl kvs ks c ∧ ks.length ≤ p.2.length + i ∧ ∀ b, c b = (cf p.2 b + cf (r.2.take i) b * 1) % 65536) ⟨sd, _, ks0, c0, none, none, rfl, upd_same, F0, by omega, fun b => ?_⟩ (fun i σ H' _ z => (Tk.of z.1).sq hb2.sq) ?_ ?_⟩
    · rw [hc0 b, List.take_zero]
      show cf p.2 b = (cf p.2 b + 0 * 1) % 65536
      have := cf_rng Lo.int hp.cn b
      omega
    · rintro i x σ H' hx ⟨sm, kvs, ks, c, y, z, rfl, hk, FF, lk, hc⟩
      rw [List.getElem?_map] at hx
      obtain ⟨t, ht, rfl⟩ := Option.map_eq_some_iff.mp hx
      obtain ⟨pr, hpr, ht2⟩ := SA.Paired.atL hrow2 i t ht
      have il : i < r.2.length := (List.getElem?_eq_some_iff.mp hpr).1
      obtain ⟨ks', c', F', lk', hc'⟩ := fac_turn inl_inj Lo.int (k := 1) hp hq hpr FF hc
      have ln := FF.len
      refine ⟨t, _, rfl, (Tk.of sm).sq ht2, rfl, _, _, rfl, _, _, rfl, rfl, ?_⟩
      refine ⟨_, rfl, d, rfl, .inl ⟨_, .inl hk⟩, _, rfl, _, DGet.k (k := Sum.inl pr.1) hk, _, rfl, c pr.1, pr.2, FF.get pr.1, rfl, _, _, rfl, rfl, (by decide : (0 : Int) < 65536), _, rfl, _, rfl, d, _, rfl, DPut.k (k := Sum.inl pr.1) hk (by rw [ln, sizeLine_eq]; omega), ?_⟩
      refine ⟨Same.put sm hd, _, ks', c', _, _, rfl, upd_same, ?_, by omega, hc'⟩
      rw [Int.mul_one] at F'
      exact F'
    · rintro σ H1 ⟨sm, kvs, ks, c, y, z, rfl, hk, FF, lk, hc⟩
      rw [List.length_map, hl2] at lk hc
      rw [List.take_length] at hc
      have ln := FF.len
      -- rows
      refine ⟨_, rfl, d, kvs, ks, rfl, .inl hk, FF.keys, by omega, fun ys l perm srt hl1 => ⟨l, rfl, ⟨_, SL upd_same⟩, fun D hD => ?_⟩⟩
      have s1 := same_new (o := .lst (ys.map V.int)) hl1
      have hk1 := s1 _ _ hk
      have el : upd H1 l (.lst (ys.map V.int)) l = some (.lst (ys.map V.int)) := upd_same
      revert s1 hk1 hD el
      generalize upd H1 l (.lst (ys.map V.int)) = H2
      intro hD s1 hk1 el
      have nd : ys.Nodup := perm.nodup_iff.mpr FF.nd
      have srt' : ys.Pairwise (· < ·) := by
        refine (List.pairwise_and_iff.mpr ⟨srt, nd⟩).imp fun {x y} h => ?_
        have h1 := h.1
        have h2 : x ≠ y := h.2
        omega
      have lys := perm.length_eq
      refine lc_list (K := K) (a := l) (xs := ys.map V.int) (fun i H' => RowsIn (α := Int) Sum.inl K H2 D ((ys.take i).map fun y => (y, c y)) H') (RowsIn.zero hD) (fun i H' _ z => SL (z.same _ _ el)) ?_ ?_
      · intro i x H' hx zz
        rw [List.getElem?_map] at hx
        obtain ⟨at_, hat, rfl⟩ := Option.map_eq_some_iff.mp hx
        obtain ⟨ts', e1, e2⟩ := zz.ex
        have mem : at_ ∈ ks := perm.mem_iff.mp (List.mem_of_getElem? hat)
        have il : i < ys.length := (List.getElem?_eq_some_iff.mp hat).1
        refine ⟨rfl, _, rfl, _, rfl, _, rfl, d, _, rfl, (by have g := DGet.k (k := (Sum.inl at_ : Key)) (zz.same _ _ hk1); rw [FF.hit at_ mem] at g; exact g), (by show 2 ≤ sizeLine; decide), fun t1 ht1 => ?_⟩
        have s2 := same_new (o := .tup [.int at_, .int (c at_)]) ht1
        refine ⟨ts'.map V.ref, s2 _ _ e1, ?_, ?_⟩
        · rw [List.length_map, rows_len e2, List.length_map, List.length_take, sizeLine_eq]
          omega
        · rw [take_snoc hat, List.map_append]
          exact RowsIn.snoc (p := (at_, c at_)) hD (zz.same.trans s2) (s2 _ _ e1) (RowsAt.tk (Tk.of s2) e2) sq_new
      · intro H3 zz
        rw [List.length_map, List.take_length] at zz
        obtain ⟨ts1, e1, e2⟩ := zz.ex
        have s3 : Same H H3 := (sm.trans s1).trans zz.same
        refine ⟨_, rfl, a, _, 0, .int p.1, rfl, rfl, (Tk.of s3).sq ha, rfl, _, rfl, a2, _, 0, .int r.1, rfl, rfl, (Tk.of s3).sq ha2, rfl, _, _, rfl, rfl, _, _, rfl, rfl, (by decide : (0 : Int) < 65536), ?_⟩
        refine ⟨_, rfl, D, rfl, ⟨_, SL e1⟩, fun D2 hD2 => filt (K := K) (α := Int) (e := Sum.inl) hD2 (SL e1) e2 (by rw [List.length_map]; omega) ?_ ?_⟩
        · intro t pr H' acc N hq hacc hln h1 h2
          refine ⟨rfl, _, rfl, t, _, 1, .int pr.2, rfl, rfl, hq, rfl, rfl, _, rfl, ite2 (fun c => ?_) (fun c => ?_)⟩
          · exact ⟨_, rfl, acc, hacc, hln, h1 (by simpa using c)⟩
          · exact h2 (by simpa using c)
        · intro H4 z4
          obtain ⟨ts4, g1, g2⟩ := z4.ex
          rw [rows_end Lo.int (r := (addP p r 1).2) srt' (fun a => by rw [hc a]; exact ⟨Int.emod_nonneg _ (by decide), Int.emod_lt_of_pos _ (by decide)⟩) (fun a ha => (FF.out a (fun m => ha (perm.mem_iff.mpr m))).2) (addBy_ok Lo.int hp).cn (fun a => by rw [cf_addBy Lo.int hp hq, hc a])] at g2
          refine ⟨D2, _, rfl, SL g1, fun l4 o hl4 ho => ⟨(by show 2 ≤ sizeLine; decide), fun t ht => ?_⟩⟩
          have s5 := same_new (o := .frz o (.tup (ts4.map V.ref))) hl4
          have s6 := same_new (o := .tup [.int ((p.1 + r.1) % 65536), .ref l4]) ht
          refine q _ _ (((s3.trans z4.same).trans s5).trans s6) ⟨t, l4, ts4, rfl, ?_, (Tk.of s6).tn (tn_new ho), RowsAt.tk (Tk.of (s5.trans s6)) g2⟩
          have e0 : (addP p r 1).1 = (p.1 + r.1) % 65536 := by
            show (p.1 + r.1 * 1) % 65536 = _
            rw [Int.mul_one]
          rw [e0]
          exact sq_new
end
end K15
set_option Elab.async false
set_option linter.all false
set_option maxRecDepth 100000
set_option maxHeartbeats 4000000
namespace K15
open PySem PySem.Spec PyProof.Rows L2 NR SU SA NC ND
/-! ### the class -/
abbrev sInit : Stmt := inClass (topS 17) 0
abbrev sSingle : Stmt := inClass (topS 17) 1
abbrev sOfTwo : Stmt := inClass (topS 17) 2
abbrev sLeaf : Stmt := inClass (topS 17) 3
abbrev sParts : Stmt := inClass (topS 17) 6
abbrev sNumber : Stmt := inClass (topS 17) 8
def flds (d r d2 r2 : Addr) : List (Str × V) := putF "cell_rows" (.ref r2) (putF "cell_numbers" (.ref d2) (putF "atom_rows" (.ref r) (putF "atom_numbers" (.ref d) [])))
theorem flds_eq (d r d2 r2 : Addr) : flds d r d2 r2 = ([("atom_numbers", .ref d), ("atom_rows", .ref r), ("cell_numbers", .ref d2), ("cell_rows", .ref r2)] : List (Str × V)) := by
  unfold flds
  have h1 : putF "atom_numbers" (.ref d) [] = ([("atom_numbers", .ref d)] : List (Str × V)) := rfl
  have n1 : ¬ (("atom_numbers" : Str) = "atom_rows") := by decide +kernel
  have n2 : ¬ (("atom_numbers" : Str) = "cell_numbers") := by decide +kernel
  have n3 : ¬ (("atom_rows" : Str) = "cell_numbers") := by decide +kernel
  have n4 : ¬ (("atom_numbers" : Str) = "cell_rows") := by decide +kernel
  have n5 : ¬ (("atom_rows" : Str) = "cell_rows") := by decide +kernel
  have n6 : ¬ (("cell_numbers" : Str) = "cell_rows") := by decide +kernel
  rw [h1]
  simp only [putF, n1, n2, n3, n4, n5, n6, if_false]
theorem flds_A (d r d2 r2 : Addr) : (flds d r d2 r2).lookup ("atom_numbers" : Str) = some (.ref d) := by
  unfold flds
  rw [lookup_putF, if_neg (by decide +kernel), lookup_putF, if_neg (by decide +kernel), lookup_putF, if_neg (by decide +kernel), lookup_putF, if_pos rfl]
theorem flds_R (d r d2 r2 : Addr) : (flds d r d2 r2).lookup ("atom_rows" : Str) = some (.ref r) := by
  unfold flds
  rw [lookup_putF, if_neg (by decide +kernel), lookup_putF, if_neg (by decide +kernel), lookup_putF, if_pos rfl]
theorem flds_no (d r d2 r2 : Addr) {m : Str} (h : decide (m ∈ (["atom_numbers", "atom_rows", "cell_numbers", "cell_rows"] : List Str)) = false) : (flds d r d2 r2).lookup m = none := by
  have h' := of_decide_eq_false h
  simp only [List.mem_cons, List.not_mem_nil, or_false, not_or] at h'
  unfold flds
  rw [lookup_putF, if_neg h'.2.2.2, lookup_putF, if_neg h'.2.2.1, lookup_putF, if_neg h'.2.1, lookup_putF, if_neg h'.1]
  rfl
structure Txt (K : PySem.W.Frag) (mg : Str → Option Value) (C : Addr) : Prop where
  cl : Cls K C
  nA : NoAttr K C "atom_numbers"
  nR : NoAttr K C "atom_rows"
  nB : NoAttr K C "cell_numbers"
  nS : NoAttr K C "cell_rows"
  mgC : mg "Sums" = some (.ref C)
structure MDef (K : PySem.W.Frag) (C : Addr) (x q : Str) (st : Stmt) (ps : List Str) (f : Addr) (fd : FuncData) : Prop where
  fn : Fun K x q st f fd
  m : Meth K C x f
  b : Binds K fd ps []
/-! ### the table of atoms -/
theorem NkAt.tk {K : PySem.W.Frag} {H H' : Hp} (k : Tk H H') : ∀ {v : V} {n : NestedKey}, NkAt K H v n → NkAt K H' v n
  | _, _, .non => .non
  | _, _, .num i => .num i
  | _, _, .text x => .text x
  | _, _, .tup h r => .tup (k.sq h) (nkAll k r)
where nkAll {K : PySem.W.Frag} {H H' : Hp} (k : Tk H H') : ∀ {vs : List V} {ns : List NestedKey}, NkAll K H vs ns → NkAll K H' vs ns
  | _, _, .nil => .nil
  | _, _, .cons h r => .cons (NkAt.tk k h) (nkAll k r)
theorem nk_rows {K : PySem.W.Frag} {H : Hp} : ∀ {ts : List Addr} {r : List (Int × Int)}, RowsAt Sum.inl K H ts r → NkAll K H (ts.map V.ref) (r.map fun r => .tup [.num r.1, .num r.2])
  | _, _, .nil => .nil
  | _, _, .cons h t => .cons (.tup h (.cons (.num _) (.cons (.num _) .nil))) (nk_rows t)
theorem nk_sum {K : PySem.W.Frag} {H : Hp} {v : V} {p : PS} (h : PsAt K H v p) : NkAt K H v (encS p) := by
  obtain ⟨a, b, ts, rfl, h1, h2, h3⟩ := h
  exact .tup h1 (.cons (.num _) (.cons (.tup h2.sq (nk_rows h3)) .nil))
theorem dep_rows : ∀ r : List (Int × Int), NestedKey.depthAll (r.map fun r => .tup [.num r.1, .num r.2]) ≤ 1
  | [] => Nat.zero_le _
  | p :: r => by
    have ih := dep_rows r
    rw [List.map_cons, NestedKey.depthAll]
    have e : (NestedKey.tup [.num p.1, .num p.2]).depth = 1 := rfl
    rw [e]
    omega
theorem dep_S (p : PS) : (encS p).depth ≤ 3 := by
  have h := dep_rows p.2
  unfold encS
  simp only [NestedKey.depth, NestedKey.depthAll]
  omega
theorem dep_K (k : AKey) : (enc k).depth ≤ 8 := by
  cases k with
  | leaf x => show 2 ≤ 8; decide
  | two w p q =>
    have h1 := dep_S p
    have h2 := dep_S q
    unfold enc
    simp only [NestedKey.depth, NestedKey.depthAll]
    omega
  | nought p =>
    have h1 := dep_S p
    unfold enc
    simp only [NestedKey.depth, NestedKey.depthAll]
    omega
/-- an entry's value is its place -/
theorem val_at : ∀ {ys : List (NestedKey × Addr × V)} {ks : List AKey} {n : Nat} {K : AKey}, ys.map (·.1) = ks.map enc → ys.map (·.2.2) = (List.range' n ks.length).map (fun i => V.int (i : Nat)) →
    valY ys (enc K) = if K ∈ ks then some (.int ((n + ks.idxOf K : Nat) : Int)) else none
  | [], [], n, K, _, _ => by rw [if_neg (by simp)]; rfl
  | [], k :: ks, n, K, h, _ => by cases h
  | y :: ys, [], n, K, h, _ => by cases h
  | y :: ys, k :: ks, n, K, h, h2 => by
    obtain ⟨h1, h3⟩ := List.cons.inj h
    rw [List.length_cons, List.range'_succ] at h2
    obtain ⟨h4, h5⟩ := List.cons.inj h2
    have ih := val_at (n := n + 1) (K := K) h3 h5
    have h1' : y.1 = enc k := h1
    have h4' : y.2.2 = V.int ((n : Nat) : Int) := h4
    by_cases e : k = K
    · subst e
      have z : valY (y :: ys) (enc k) = some y.2.2 := by simp [valY, h1']
      rw [z, if_pos List.mem_cons_self, h4', List.idxOf_cons_self]
      rfl
    · have ne : ¬ y.1 = enc K := fun z => e (enc_inj (h1'.symm.trans z))
      have z : valY (y :: ys) (enc K) = valY ys (enc K) := by simp [valY, ne]
      rw [z, ih]
      by_cases m : K ∈ ks
      · have ei : (k :: ks).idxOf K = ks.idxOf K + 1 := by
          rw [List.idxOf_cons, beq_eq_false_iff_ne.mpr e]
          rfl
        rw [if_pos m, if_pos (List.mem_cons_of_mem _ m), ei]
        have en : n + 1 + ks.idxOf K = n + (ks.idxOf K + 1) := by omega
        rw [en]
      · rw [if_neg m, if_neg]
        intro z
        rcases List.mem_cons.mp z with y | y
        · exact e y.symm
        · exact m y
/-- the instance, its table, its rows -/
structure SumsAt (P : Program) (w : World) (K : PySem.W.Frag) (C : Addr) (H : Hp) (x d r : Addr) (ks : List AKey) : Prop where
  ob : ∃ dx d2 r2, H x = some (.ins C dx (flds d r d2 r2))
  dc : ∃ ys, Nd P w K H d ys ∧ ys.map (·.1) = ks.map enc ∧ ys.map (·.2.2) = (List.range' 0 ks.length).map (fun i => V.int (i : Nat))
  rs : ∃ rs : List Addr, H r = some (.lst (rs.map V.ref)) ∧ rs.length = ks.length ∧ ∀ t ∈ rs, ∃ (v : V) (e : Addr), SqT K H t [v, .ref e] ∧ SqT K H e []
section
variable {P : Program} {w : World} {K : PySem.W.Frag} {mg : Str → Option Value} {base : Heap} {pW pN C : Addr}
theorem SumsAt.ext {H : Hp} {x d r : Addr} {ks : List AKey} (S : SumsAt P w K C H x d r ks) : (∃ φ, H d = some (.ext φ)) ∨ H d = some (.dK []) := by
  obtain ⟨ys, hn, _⟩ := S.dc
  rcases hn.at_ with h | ⟨_, h⟩
  · exact .inl ⟨_, h⟩
  · exact .inr h
theorem SumsAt.dr {H : Hp} {x d r : Addr} {ks : List AKey} (S : SumsAt P w K C H x d r ks) : d ≠ r := fun e => by
  obtain ⟨rs, h, _⟩ := S.rs
  subst e
  rcases S.ext with ⟨φ, z⟩ | z <;> rw [z] at h <;> cases h
theorem SumsAt.xd {H : Hp} {x d r : Addr} {ks : List AKey} (S : SumsAt P w K C H x d r ks) : x ≠ d := fun e => by
  obtain ⟨dx, d2, r2, h⟩ := S.ob
  subst e
  rcases S.ext with ⟨φ, z⟩ | z <;> rw [z] at h <;> cases h
theorem SumsAt.xr {H : Hp} {x d r : Addr} {ks : List AKey} (S : SumsAt P w K C H x d r ks) : x ≠ r := fun e => by
  obtain ⟨dx, d2, r2, h⟩ := S.ob
  obtain ⟨rs, h2, _⟩ := S.rs
  subst e
  rw [h] at h2
  cases h2
/-- all but the table and the rows stays -/
structure Mk (d r : Addr) (H H' : Hp) : Prop where
  keep : ∀ b o, H b = some o → b ≠ d → b ≠ r → H' b = some o
  tk : Tk H H'
theorem Mk.of {d r : Addr} {H H' : Hp} (s : Same H H') : Mk d r H H' := ⟨fun b o e _ _ => s b o e, Tk.of s⟩
theorem Mk.trans {d r : Addr} {H H1 H2 : Hp} (a : Mk d r H H1) (b : Mk d r H1 H2) : Mk d r H H2 := ⟨fun c o e h1 h2 => b.keep c o (a.keep c o e h1 h2) h1 h2, a.tk.trans b.tk⟩
theorem ndTk {H H' : Hp} {d : Addr} {ys : List (NestedKey × Addr × V)} (h : Nd P w K H d ys) (k : Tk H H') (e : ∀ o, H d = some o → H' d = some o) : Nd P w K H' d ys :=
  ⟨h.at_.imp (fun z => e _ z) (fun z => ⟨z.1, e _ z.2⟩), fun y hy => ⟨NkAt.tk k (h.keys y hy).1, (h.keys y hy).2⟩, h.len⟩
theorem SumsAt.same {H H' : Hp} {x d r : Addr} {ks : List AKey} (S : SumsAt P w K C H x d r ks) (s : Same H H') : SumsAt P w K C H' x d r ks := by
  obtain ⟨dx, d2, r2, h⟩ := S.ob
  obtain ⟨ys, h1, h2⟩ := S.dc
  obtain ⟨rs, g1, g2, g3⟩ := S.rs
  refine ⟨⟨dx, d2, r2, s _ _ h⟩, ⟨ys, ndTk h1 (Tk.of s) (fun o e => s _ _ e), h2⟩, ⟨rs, s _ _ g1, g2, fun t ht => ?_⟩⟩
  obtain ⟨v, e, q1, q2⟩ := g3 t ht
  exact ⟨v, e, (Tk.of s).sq q1, (Tk.of s).sq q2⟩
/-! ### __init__ -/
theorem scInit : FnScope ["self"] ["self"] (defScope sInit) := ⟨rfl, rfl, rfl, by decide +kernel, rfl, by decide +kernel, by decide +kernel⟩
def spInit (P : Program) (w : World) (K : PySem.W.Frag) (C : Addr) : Sp := fun vs H Q _ => ∃ (x dx : Addr), vs = [.ref x] ∧ H x = some (.ins C dx []) ∧
  ∀ (d r : Addr) (H' : Hp), H d = none → H r = none → SumsAt P w K C H' x d r [] → (∀ b o, H b = some o → b ≠ x → H' b = some o) → Q .non H'
theorem ok_init {f : Addr} {fd : FuncData} {k : Nat} (F : Fun K "__init__" "Sums.__init__" sInit f fd) (T : Txt K mg C) : FnOk P w K mg base CX0 (k + 1) f fd ["self"] (spInit P w K C) := by
  refine F.ok scInit (fun vs H Q E h => ?_) (fun cdv A outer s H vs Q E hr h => ?_)
  · obtain ⟨x, dx, rfl, _⟩ := h
    rfl
  · obtain ⟨x, dx, rfl, hx, q⟩ := h
    refine ⟨_, pss_cons (ps_fld (pv 0) pe_dnewK rfl) (pss_cons (ps_fld (pv 0) (pe_lst pa_nil) rfl) (pss_cons (ps_fld (pv 0) pe_dnewK rfl) (pss_one (ps_fld (pv 0) (pe_lst pa_nil) rfl)))), ?_⟩
    intro d hd
    have nd : x ≠ d := ne_of_none hx hd
    refine ⟨_, rfl, x, C, dx, [], rfl, (by rw [upd_ne nd]; exact hx), T.cl, T.nA, (by show 0 < 1000; decide), Nat.zero_le _, fun r hr1 => ?_⟩
    have h1 : upd (upd H d (.dK [])) x (.ins C dx (putF "atom_numbers" (.ref d) [])) x = some (.ins C dx (putF "atom_numbers" (.ref d) [])) := upd_same
    have h2 : upd (upd H d (.dK [])) x (.ins C dx (putF "atom_numbers" (.ref d) [])) d = some (.dK []) := by rw [upd_ne nd.symm, upd_same]
    have k1 : ∀ b o, H b = some o → b ≠ x → upd (upd H d (.dK [])) x (.ins C dx (putF "atom_numbers" (.ref d) [])) b = some o := fun b o e hb => by
      rw [upd_ne hb, upd_ne (ne_of_none e hd)]
      exact e
    revert hr1 h1 h2 k1
    show _ → _ → _ → _ → ∃ _, _
    generalize upd (upd H d (.dK [])) x (.ins C dx (putF "atom_numbers" (.ref d) [])) = H1
    intro hr1 h1 h2 k1
    have nr : x ≠ r := ne_of_none h1 hr1
    have hrN : H r = none := by
      cases e : H r with
      | none => rfl
      | some o =>
        rw [k1 r o e nr.symm] at hr1
        cases hr1
    refine ⟨_, rfl, x, C, dx, _, rfl, (by rw [upd_ne nr]; exact h1), T.cl, T.nR, (by show 1 < 1000; decide), fun d2 hd2 => ?_⟩
    have dr : d ≠ r := ne_of_none h2 hr1
    have g1 : upd (upd H1 r (.lst [])) x (.ins C dx (putF "atom_rows" (.ref r) (putF "atom_numbers" (.ref d) []))) x = some (.ins C dx (putF "atom_rows" (.ref r) (putF "atom_numbers" (.ref d) []))) := upd_same
    have g2 : upd (upd H1 r (.lst [])) x (.ins C dx (putF "atom_rows" (.ref r) (putF "atom_numbers" (.ref d) []))) d = some (.dK []) := by rw [upd_ne nd.symm, upd_ne dr]; exact h2
    have g3 : upd (upd H1 r (.lst [])) x (.ins C dx (putF "atom_rows" (.ref r) (putF "atom_numbers" (.ref d) []))) r = some (.lst []) := by rw [upd_ne nr.symm, upd_same]
    have k2 : ∀ b o, H b = some o → b ≠ x → upd (upd H1 r (.lst [])) x (.ins C dx (putF "atom_rows" (.ref r) (putF "atom_numbers" (.ref d) []))) b = some o := fun b o e hb => by
      rw [upd_ne hb, upd_ne (ne_of_none (k1 b o e hb) hr1)]
      exact k1 b o e hb
    revert hd2 g1 g2 g3 k2
    show _ → _ → _ → _ → _ → ∃ _, _
    generalize upd (upd H1 r (.lst [])) x (.ins C dx (putF "atom_rows" (.ref r) (putF "atom_numbers" (.ref d) []))) = H2
    intro hd2 g1 g2 g3 k2
    have nd2 : x ≠ d2 := ne_of_none g1 hd2
    refine ⟨_, rfl, x, C, dx, _, rfl, (by rw [upd_ne nd2]; exact g1), T.cl, T.nB, (by show 2 < 1000; decide), Nat.zero_le _, fun r2 hr2 => ?_⟩
    have j1 : upd (upd H2 d2 (.dK [])) x (.ins C dx (putF "cell_numbers" (.ref d2) (putF "atom_rows" (.ref r) (putF "atom_numbers" (.ref d) [])))) x = some (.ins C dx (putF "cell_numbers" (.ref d2) (putF "atom_rows" (.ref r) (putF "atom_numbers" (.ref d) [])))) := upd_same
    have j2 : upd (upd H2 d2 (.dK [])) x (.ins C dx (putF "cell_numbers" (.ref d2) (putF "atom_rows" (.ref r) (putF "atom_numbers" (.ref d) [])))) d = some (.dK []) := by rw [upd_ne nd.symm, upd_ne (ne_of_none g2 hd2)]; exact g2
    have j3 : upd (upd H2 d2 (.dK [])) x (.ins C dx (putF "cell_numbers" (.ref d2) (putF "atom_rows" (.ref r) (putF "atom_numbers" (.ref d) [])))) r = some (.lst []) := by rw [upd_ne nr.symm, upd_ne (ne_of_none g3 hd2)]; exact g3
    have k3 : ∀ b o, H b = some o → b ≠ x → upd (upd H2 d2 (.dK [])) x (.ins C dx (putF "cell_numbers" (.ref d2) (putF "atom_rows" (.ref r) (putF "atom_numbers" (.ref d) [])))) b = some o := fun b o e hb => by
      rw [upd_ne hb, upd_ne (ne_of_none (k2 b o e hb) hd2)]
      exact k2 b o e hb
    revert hr2 j1 j2 j3 k3
    show _ → _ → _ → _ → _ → ∃ _, _
    generalize upd (upd H2 d2 (.dK [])) x (.ins C dx (putF "cell_numbers" (.ref d2) (putF "atom_rows" (.ref r) (putF "atom_numbers" (.ref d) [])))) = H3
    intro hr2 j1 j2 j3 k3
    have nr2 : x ≠ r2 := ne_of_none j1 hr2
    refine ⟨_, rfl, x, C, dx, _, rfl, (by rw [upd_ne nr2]; exact j1), T.cl, T.nS, (by show 3 < 1000; decide), ?_⟩
    refine q d r _ hd hrN ⟨⟨dx, d2, r2, upd_same⟩, ⟨[], ⟨.inr ⟨rfl, ?_⟩, (fun _ z => nomatch z), Nat.zero_le _⟩, rfl, rfl⟩, ⟨[], ?_, rfl, (fun _ z => nomatch z)⟩⟩ fun b o e hb => ?_
    · rw [upd_ne nd.symm, upd_ne (ne_of_none j2 hr2)]
      exact j2
    · rw [upd_ne nr.symm, upd_ne (ne_of_none j3 hr2)]
      exact j3
    · rw [upd_ne hb, upd_ne (ne_of_none (k3 b o e hb) hr2)]
      exact k3 b o e hb
end
end K15
set_option Elab.async false
set_option linter.all false
set_option maxRecDepth 100000
set_option maxHeartbeats 4000000
namespace K15
open PySem PySem.Spec PyProof.Rows L2 NR SU SA NC ND
section
variable {P : Program} {w : World} {K : PySem.W.Frag} {mg : Str → Option Value} {base : Heap} {pW pN C : Addr}
theorem ixLK {X : Cx} (h : X.K = K) : IxR X (rIxL K) := h ▸ ix_list
theorem fldK {X : Cx} {e : Expr} {f : Str} {pos : Pos} {ta : TE} (h : X.K = K) (he : PE X e ta) (hb : attributeBase e f X.env (eval e X.env) = eval e X.env) : PE X (.Attribute e f pos) (tFld K ta f) := h ▸ pe_fld he hb
/-! ### single -/
theorem scSingle : FnScope ["self", "key", "parts"] ["self", "key", "parts"] (defScope sSingle) := ⟨rfl, rfl, rfl, by decide +kernel, rfl, by decide +kernel, by decide +kernel⟩
/-- what a step over the sums leaves -/
def spEnd (P : Program) (w : World) (K : PySem.W.Frag) (C : Addr) (H : Hp) (x d r : Addr) (res : List AKey × PS) (Q : VK) : Prop :=
  ∀ v' H', Mk d r H H' → SumsAt P w K C H' x d r res.1 → PsAt K H' v' res.2 → Q v' H'
def spSingle (P : Program) (w : World) (K : PySem.W.Frag) (C : Addr) : Sp := fun vs H Q _ => ∃ (x d r a e : Addr) (ks : List AKey) (k : AKey) (v : V) (more : List V), vs = [.ref x, .ref a, .ref e] ∧ SumsAt P w K C H x d r ks ∧ NkAt K H (.ref a) (enc k) ∧ SqT K H a (v :: more) ∧ SqT K H e [] ∧ ks.length ≤ 5000 ∧
  spEnd P w K C H x d r (sgl ks k) Q
theorem ok_single {f : Addr} {fd : FuncData} {k : Nat} (F : Fun K "single" "Sums.single" sSingle f fd) (T : Txt K mg C) (G : Glob K mg pW pN) : FnOk P w K mg base CX0 (k + 1) f fd ["self", "key", "parts"] (spSingle P w K C) := by
  refine F.ok scSingle (fun vs H Q E h => ?_) (fun cdv A outer s H vs Q E hr h => ?_)
  · obtain ⟨x, d, r, a, e, ks, kk, v, more, rfl, _⟩ := h
    rfl
  · obtain ⟨x, d, r, a, e, ks, kk, v, more, rfl, S, hk, ha, he, hz, q⟩ := h
    have hu := hr.units
    have tail : ∃ t, PSs (cxOf CX0 P w K mg base ["self", "key", "parts"] "Sums.single" (defScope sSingle) f cdv A outer s H E).nox ((defBody sSingle).drop 1) t ∧
        ∀ (H2 : Hp) (ks2 : List AKey), Mk d r H H2 → SumsAt P w K C H2 x d r ks2 → kk ∈ ks2 → (∀ v' H', Mk d r H H' → SumsAt P w K C H' x d r ks2 → PsAt K H' v' (SU.single ((ks2.idxOf kk : Nat) : Int)) → Q v' H') → t { nx := fun _ H' => Q .non H', rt := Q } [some (.ref x), some (.ref a), some (.ref e)] H2 := by
      refine ⟨_, pss_one (ps_ret (pe_tup (pa_cons pe_int (pa_cons (pe_tupF (pa_cons (pe_tup (pa_cons (pe_ix (ix_nd hu) (pe_fld (pv 0) rfl) (pv 1) (fun _ _ => rfl)) (pa_cons pe_int pa_nil))) pa_nil)) pa_nil)))), fun H2 ks2 m2 S2 hin q2 => ?_⟩
      obtain ⟨dx, d2, r2, ox⟩ := S2.ob
      obtain ⟨ys, hn, y1, y2⟩ := S2.dc
      have hv := val_at (K := kk) y1 y2
      rw [if_pos hin, Nat.zero_add] at hv
      refine ⟨_, rfl, x, C, dx, _, _, rfl, ox, T.cl, T.nA, flds_A _ _ _ _, _, rfl, a, d, ys, enc kk, _, rfl, rfl, NkAt.tk m2.tk hk, dep_K kk, hn, hv, (by show 2 ≤ sizeLine; decide), fun t ht => ⟨(by show 1 ≤ sizeLine; decide), fun t1 o1 ht1 ho1 => ⟨(by show 2 ≤ sizeLine; decide), fun t2 ht2 => ?_⟩⟩⟩
      have s1 := same_new (o := .tup [.int ((ks2.idxOf kk : Nat) : Int), .int 1]) ht
      have s2 := same_new (o := .frz o1 (.tup [.ref t])) ht1
      have s3 := same_new (o := .tup [.int 0, .ref t1]) ht2
      have sm := (s1.trans s2).trans s3
      refine q2 _ _ (m2.trans (Mk.of sm)) (S2.same sm) ⟨t2, t1, [t], rfl, sq_new, (Tk.of s3).tn (tn_new ho1), .cons ((Tk.of (s2.trans s3)).sq sq_new) .nil⟩
    obtain ⟨tt, ht, hq⟩ := tail
    refine ⟨_, pss_cons (ps_if (pt_cmpR (op_notInN hu) (pv 1) (pe_fld (pv 0) rfl) (by rfl))
      (pss_cons (ps_asg (pe_callB call_len_seq (by rfl) G.len PySem.boot_len (pa_cons (pe_fld (pv 0) rfl) pa_nil)) (pg_sub (pe_fld (pv 0) rfl) (pv 1) (set_nd hu)))
        (pss_one (ps_expr (pe_bm PySem.F.plainAttrs_list PySem.F.slot_list_append PySem.F.type_list_append mt_append (pe_fld (pv 0) rfl) (pa_cons (pe_tup (pa_cons (pe_ix ix_tup (pv 1) pe_int (fun _ _ => rfl)) (pa_cons (pv 2) pa_nil))) pa_nil))))) pss_nil) ht, ?_⟩
    obtain ⟨dx, d2, r2, ox⟩ := S.ob
    obtain ⟨ys, hn, y1, y2⟩ := S.dc
    obtain ⟨rs, or, rl, rr⟩ := S.rs
    have hv := val_at (K := kk) y1 y2
    refine ⟨_, rfl, _, rfl, x, C, dx, _, _, rfl, ox, T.cl, T.nA, flds_A _ _ _ _, a, d, ys, enc kk, rfl, rfl, hk, dep_K kk, hn, _, rfl, ?_⟩
    rw [hv]
    by_cases m : kk ∈ ks
    · rw [if_pos m]
      refine iteF ?_
      refine hq H ks (Mk.of (Same.refl _)) S m fun v' H' mm SS hp => q v' H' mm ?_ ?_
      · unfold sgl
        rw [if_pos m]
        exact SS
      · unfold sgl
        rw [if_pos m]
        exact hp
    · rw [if_neg m]
      refine iteT ?_
      have vn : valY ys (enc kk) = none := by rw [hv, if_neg m]
      refine ⟨_, rfl, x, C, dx, _, _, rfl, ox, T.cl, T.nR, flds_R _ _ _ _, r, _, rfl, .inl (SL or), _, rfl, x, C, dx, _, _, rfl, ox, T.cl, T.nA, flds_A _ _ _ _, _, rfl, a, d, ys, enc kk, rfl, rfl, hk, dep_K kk, hn, vn, ?_⟩
      have el : ((rs.map V.ref).length : Int) = ((ks.length : Nat) : Int) := by rw [List.length_map, rl]
      rw [el]
      have dr := S.dr
      have xd := S.xd
      have xr := S.xr
      have nt1 : ∀ xs, H d ≠ some (.tup xs) := fun xs z => by rcases S.ext with ⟨φ, y⟩ | y <;> rw [y] at z <;> cases z
      have nf1 : ∀ o u, H d ≠ some (.frz o u) := fun o u z => by rcases S.ext with ⟨φ, y⟩ | y <;> rw [y] at z <;> cases z
      have k1 : Tk H (upd H d (ndO P w d (ys ++ [(enc kk, a, .int ((ks.length : Nat) : Int))]))) := Tk.upd nt1 nf1
      have o1 : upd H d (ndO P w d (ys ++ [(enc kk, a, .int ((ks.length : Nat) : Int))])) x = some (.ins C dx (flds d r d2 r2)) := by rw [upd_ne xd]; exact ox
      have o2 : upd H d (ndO P w d (ys ++ [(enc kk, a, .int ((ks.length : Nat) : Int))])) r = some (.lst (rs.map V.ref)) := by rw [upd_ne dr.symm]; exact or
      have n1 : Nd P w K (upd H d (ndO P w d (ys ++ [(enc kk, a, .int ((ks.length : Nat) : Int))]))) d (ys ++ [(enc kk, a, .int ((ks.length : Nat) : Int))]) := by
        refine ⟨.inl upd_same, fun y hy => ?_, ?_⟩
        · rcases List.mem_append.mp hy with z | z
          · exact ⟨NkAt.tk k1 (hn.keys y z).1, (hn.keys y z).2⟩
          · rw [List.mem_singleton.mp z]
            exact ⟨NkAt.tk k1 hk, dep_K kk⟩
        · have z := congrArg List.length y1
          simp only [List.length_map] at z
          simp only [List.length_append, List.length_singleton]
          omega
      have kp1 : ∀ b o, H b = some o → b ≠ d → b ≠ r → upd H d (ndO P w d (ys ++ [(enc kk, a, .int ((ks.length : Nat) : Int))])) b = some o := fun b o z h1 _ => by
        rw [upd_ne h1]
        exact z
      revert k1 o1 o2 n1 kp1
      show _ → _ → _ → _ → _ → tSeq _ _ _ _ (upd H d (ndO P w d (ys ++ [(enc kk, a, .int ((ks.length : Nat) : Int))])))
      generalize upd H d (ndO P w d (ys ++ [(enc kk, a, .int ((ks.length : Nat) : Int))])) = H1
      intro k1 o1 o2 n1 kp1
      refine ⟨_, rfl, x, C, dx, _, _, rfl, o1, T.cl, T.nR, flds_R _ _ _ _, .inl ⟨rfl, _, SL o2⟩, _, rfl, a, _, 0, v, rfl, rfl, k1.sq ha, (show atI (v :: more) ((0 : Nat) : Int) = some v from atI_nat rfl), _, rfl, (by show 2 ≤ sizeLine; decide), fun t ht => ?_⟩
      have s2 := same_new (o := .tup [v, .ref e]) ht
      refine ⟨r, _, _, rfl, rfl, s2 _ _ o2, ?_, ?_⟩
      · rw [List.length_map, rl, sizeLine_eq]
        omega
      · have k2 : Tk H1 (upd H1 t (.tup [v, .ref e])) := Tk.of s2
        have k3 : Tk (upd H1 t (.tup [v, .ref e])) (upd (upd H1 t (.tup [v, .ref e])) r (.lst (rs.map V.ref ++ [.ref t]))) := Tk.upd (by rw [s2 _ _ o2]; exact fun _ z => nomatch z) (by rw [s2 _ _ o2]; exact fun _ _ z => nomatch z)
        have m3 : Mk d r H (upd (upd H1 t (.tup [v, .ref e])) r (.lst (rs.map V.ref ++ [.ref t]))) := ⟨fun b o z h1 h2 => by rw [upd_ne h2]; exact s2 _ _ (kp1 b o z h1 h2), (k1.trans k2).trans k3⟩
        have es : sgl ks kk = (ks ++ [kk], SU.single ((ks.length : Nat) : Int)) := by unfold sgl; rw [if_neg m]
        have S3 : SumsAt P w K C (upd (upd H1 t (.tup [v, .ref e])) r (.lst (rs.map V.ref ++ [.ref t]))) x d r (ks ++ [kk]) := by
          refine ⟨⟨dx, d2, r2, by rw [upd_ne xr]; exact s2 _ _ o1⟩, ⟨_, ndTk n1 (k2.trans k3) (fun o z => by rw [upd_ne dr]; exact s2 _ _ z), by rw [List.map_append, y1, List.map_append]; rfl, ?_⟩, ⟨rs ++ [t], by rw [upd_same, List.map_append]; rfl, by simp [rl], fun t' ht' => ?_⟩⟩
          · rw [List.map_append, y2, List.length_append, List.length_singleton, List.range'_1_concat, List.map_append, Nat.zero_add]
            rfl
          · rcases List.mem_append.mp ht' with z | z
            · obtain ⟨v1, e1, q1, q2⟩ := rr t' z
              exact ⟨v1, e1, k3.sq (k2.sq (k1.sq q1)), k3.sq (k2.sq (k1.sq q2))⟩
            · rw [List.mem_singleton.mp z]
              exact ⟨v, e, k3.sq sq_new, k3.sq (k2.sq (k1.sq he))⟩
        refine hq _ (ks ++ [kk]) m3 S3 (List.mem_append_right _ (List.mem_singleton.mpr rfl)) fun v' H' mm SS hp => q v' H' mm ?_ ?_
        · rw [es]
          exact SS
        · rw [es]
          have ei : (ks ++ [kk]).idxOf kk = ks.length := by
            rw [List.idxOf_append, if_neg m]
            simp
          rw [ei] at hp
          exact hp
/-! ### leaf, number -/
theorem scLeaf : FnScope ["self", "key"] ["self", "key"] (defScope sLeaf) := ⟨rfl, rfl, rfl, by decide +kernel, rfl, by decide +kernel, by decide +kernel⟩
def spLeaf (P : Program) (w : World) (K : PySem.W.Frag) (C : Addr) : Sp := fun vs H Q _ => ∃ (x d r a : Addr) (ks : List AKey) (nm : Str), vs = [.ref x, .ref a] ∧ SumsAt P w K C H x d r ks ∧ SqT K H a [.str "name", .str nm] ∧ ks.length ≤ 5000 ∧
  spEnd P w K C H x d r (sgl ks (.leaf nm)) Q
theorem ok_leaf {f fS : Addr} {fd fdS : FuncData} {k : Nat} (F : Fun K "leaf" "Sums.leaf" sLeaf f fd) (T : Txt K mg C) (G : Glob K mg pW pN) (DS : MDef K C "single" "Sums.single" sSingle ["self", "key", "parts"] fS fdS) : FnOk P w K mg base CX0 (k + 2) f fd ["self", "key"] (spLeaf P w K C) := by
  have GS : FnOk P w K mg base CX0 (k + 1) fS fdS ["self", "key", "parts"] (spSingle P w K C) := ok_single DS.fn T G
  refine F.ok scLeaf (fun vs H Q E h => ?_) (fun cdv A outer s H vs Q E hr h => ?_)
  · obtain ⟨x, d, r, a, ks, nm, rfl, _⟩ := h
    rfl
  · obtain ⟨x, d, r, a, ks, nm, rfl, S, ha, hz, q⟩ := h
    refine ⟨_, pss_one (ps_ret (pe_meth (pv 0) T.cl DS.m GS hr DS.b .nil pass0 (pa_cons (pe_tup (pa_cons pe_str (pa_cons (pv 1) pa_nil))) (pa_cons (pe_tup pa_nil) pa_nil)))), ?_⟩
    obtain ⟨dx, d2, r2, ox⟩ := S.ob
    refine ⟨_, rfl, x, dx, _, rfl, ox, flds_no _ _ _ _ (by decide +kernel), _, rfl, (by show 2 ≤ sizeLine; decide), fun t ht => ⟨Nat.zero_le _, fun t2 ht2 => ?_⟩⟩
    have s1 := same_new (o := .tup [.str "leaf", .ref a]) ht
    have s2 := same_new (o := .tup []) ht2
    have sm := s1.trans s2
    refine ⟨x, d, r, t, t2, ks, .leaf nm, .str "leaf", [.ref a], rfl, S.same sm, .tup ((Tk.of s2).sq sq_new) (.cons (.text _) (.cons (.tup ((Tk.of sm).sq ha) (.cons (.text _) (.cons (.text _) .nil))) .nil)), (Tk.of s2).sq sq_new, sq_new, hz, ?_⟩
    exact fun v' H' m S' hp => q v' H' ((Mk.of sm).trans m) S' hp
theorem scNumber : FnScope ["self", "many"] ["self", "many"] (defScope sNumber) := ⟨rfl, rfl, rfl, by decide +kernel, rfl, by decide +kernel, by decide +kernel⟩
def spNumber (K : PySem.W.Frag) : Sp := fun vs H Q _ => ∃ (v : V) (k : Int), vs = [v, .int k] ∧ ∀ v' H', Same H H' → PsAt K H' v' (k % 65536, []) → Q v' H'
theorem ok_number {f : Addr} {fd : FuncData} {k : Nat} (F : Fun K "number" "Sums.number" sNumber f fd) (G : Glob K mg pW pN) : FnOk P w K mg base CX0 (k + 1) f fd ["self", "many"] (spNumber K) := by
  obtain ⟨tr, gR⟩ := G.ROUND
  refine F.ok scNumber (fun vs H Q E h => ?_) (fun cdv A outer s H vs Q E hr h => ?_)
  · obtain ⟨v, k, rfl, _⟩ := h
    rfl
  · obtain ⟨v, k, rfl, q⟩ := h
    refine ⟨_, pss_one (ps_ret (pe_tup (pa_cons (pe_op op_mod (pv 1) (pe_glob (v := .int 65536) (by rfl) gR ⟨_, rfl⟩)) (pa_cons (pe_tupF pa_nil) pa_nil)))), ?_⟩
    refine ⟨_, rfl, _, _, rfl, rfl, (by decide : (0 : Int) < 65536), Nat.zero_le _, fun t o ht ho => ⟨(by show 2 ≤ sizeLine; decide), fun t2 ht2 => ?_⟩⟩
    have s1 := same_new (o := .frz o (.tup [])) ht
    have s2 := same_new (o := .tup [.int (k % 65536), .ref t]) ht2
    exact q _ _ (s1.trans s2) ⟨t2, t, [], rfl, sq_new, (Tk.of s2).tn (tn_new ho), .nil⟩
/-! ### parts_of -/
abbrev nParts : List Str := ["self", "worth", "atom", "factor"]
theorem scParts : FnScope nParts ["self", "worth"] (defScope sParts) := ⟨rfl, rfl, rfl, by decide +kernel, rfl, by decide +kernel, by decide +kernel⟩
def spParts (P : Program) (w : World) (K : PySem.W.Frag) (C : Addr) : Sp := fun vs H Q _ => ∃ (x d r : Addr) (ks : List AKey) (v : V) (p : PS), vs = [.ref x, v] ∧ SumsAt P w K C H x d r ks ∧ PsAt K H v p ∧ Win ks.length p ∧ p.2.length ≤ 900 ∧
  ∀ t H', Same H H' → SqT K H' t [] → Q (.ref t) H'
theorem ok_parts {f fC fJ : Addr} {fd fdC fdJ : FuncData} {k : Nat} (F : Fun K "parts_of" "Sums.parts_of" sParts f fd) (T : Txt K mg C) (G : Glob K mg pW pN) (DC : Def K mg "is_cell" sIsCell ["worth"] fC fdC) (DJ : Def K mg "joined" sJoined ["rows"] fJ fdJ) :
    FnOk P w K mg base CX0 (k + 2) f fd ["self", "worth"] (spParts P w K C) := by
  have GC : FnOk P w K mg base CX0 (k + 1) fC fdC ["worth"] (spIsCell K) := ok_isCell DC.fn G
  have GJ : FnOk P w K mg base CX0 (k + 1) fJ fdJ ["rows"] (spJoined K) := ok_joined DJ.fn G
  refine F.ok scParts (fun vs H Q E h => ?_) (fun cdv A outer s H vs Q E hr h => ?_)
  · obtain ⟨x, d, r, ks, v, p, rfl, _⟩ := h
    rfl
  · obtain ⟨x, d, r, ks, v, p, rfl, S, hv, hw, hz, q⟩ := h
    refine ⟨_, pss_cons (ps_if (pt_val (pe_call GC hr (by rfl) DC.at_ DC.fn.kp DC.b .nil pass0 (pa_cons (pv 1) pa_nil))) (pss_one ps_never) pss_nil)
      (pss_one (ps_ret (pe_call GJ hr (by rfl) DJ.at_ DJ.fn.kp DJ.b .nil pass0 (pa_cons (pe_lc (own := [("atom", 2), ("factor", 3)]) (g := gTup K 2 (gCons (gName 2) (gCons (gName 3) gNil))) (tt := tYes) rfl scParts.nd (pi_tup (pe_ix ix_tup (pv 1) pe_int (fun _ _ => rfl))) (blkOk_by (own := [("atom", 2), ("factor", 3)]) (N := nParts) (sc := defScope sParts) (by decide +kernel))
        (fun _ _ _ _ _ => pg_tup rfl (pgs_cons (pg_name (i := 2) scParts.nd rfl (Or.inl rfl)) (pgs_cons (pg_name (i := 3) scParts.nd rfl (Or.inl rfl)) pgs_nil))) (fun _ _ _ _ _ => pts_nil)
        (fun _ _ _ _ _ => pe_ix (ixTK (K := K) rfl) (pe_ix (ixLK (K := K) rfl) (fldK (K := K) rfl (pv 0) rfl) (pv 2) (fun _ _ => rfl)) pe_int (fun _ _ => rfl))) pa_nil)))), ?_⟩
    obtain ⟨dx, d2, r2, ox⟩ := S.ob
    obtain ⟨rs, or, rl, rr⟩ := S.rs
    obtain ⟨a, b, ts, rfl, ha, hb, hrow⟩ := hv
    have hl := rows_len hrow
    refine ⟨_, rfl, a, _, _, rfl, ha, _, rfl, iteF ?_⟩
    refine ⟨_, rfl, a, _, 1, .ref b, rfl, rfl, ha, rfl, b, rfl, ⟨_, hb.sq⟩, fun D hD => lc_tup (K := K) (a := b) (xs := ts.map V.ref) (fun i H' => Same H H' ∧ ∃ es : List Addr, H' D = some (.lst (es.map V.ref)) ∧ es.length = i ∧ ∀ e ∈ es, SqT K H' e []) ⟨same_new hD, [], upd_same, rfl, (fun _ z => nomatch z)⟩ (fun i H' _ z => (Tk.of z.1).sq hb.sq) ?_ ?_⟩
    · rintro i y H' hx ⟨sm, es, h1, h2, h3⟩
      rw [List.getElem?_map] at hx
      obtain ⟨t, ht, rfl⟩ := Option.map_eq_some_iff.mp hx
      obtain ⟨pr, hpr, ht2⟩ := SA.Paired.atL hrow i t ht
      have il : i < p.2.length := (List.getElem?_eq_some_iff.mp hpr).1
      have wn := hw pr (List.mem_of_getElem? hpr)
      obtain ⟨n, hn⟩ := Int.eq_ofNat_of_zero_le wn.1
      have nl : n < rs.length := by rw [rl]; omega
      obtain ⟨v1, e1, q1, q2⟩ := rr rs[n] (List.getElem_mem nl)
      have hat : atI (rs.map V.ref) pr.1 = some (.ref rs[n]) := by
        rw [hn]
        refine atI_nat ?_
        rw [List.getElem?_map, List.getElem?_eq_getElem nl]
        rfl
      refine ⟨t, _, rfl, (Tk.of sm).sq ht2, rfl, _, _, rfl, _, _, rfl, rfl, rfl, ?_⟩
      refine ⟨_, rfl, x, C, dx, _, _, rfl, sm _ _ ox, T.cl, T.nR, flds_R _ _ _ _, _, rfl, r, _, _, _, rfl, rfl, SL (sm _ _ or), hat, rs[n], _, 1, .ref e1, rfl, rfl, (Tk.of sm).sq q1, rfl, es.map V.ref, h1, (by rw [List.length_map, h2, sizeLine_eq]; omega), ?_⟩
      have k1 : Tk H' (upd H' D (.lst (es.map V.ref ++ [.ref e1]))) := Tk.upd (by rw [h1]; exact fun _ z => nomatch z) (by rw [h1]; exact fun _ _ z => nomatch z)
      refine ⟨Same.put sm hD, es ++ [e1], by rw [upd_same, List.map_append]; rfl, by simp [h2], fun e he => ?_⟩
      rcases List.mem_append.mp he with z | z
      · exact k1.sq (h3 e z)
      · rw [List.mem_singleton.mp z]
        exact k1.sq ((Tk.of sm).sq q2)
    · rintro H1 ⟨sm, es, h1, h2, h3⟩
      refine ⟨D, es, rfl, SL h1, h3, fun t H' s2 ht => q t H' (sm.trans s2) ht⟩
/-! ### of_two -/
theorem scOfTwo : FnScope ["self", "word", "one", "other"] ["self", "word", "one", "other"] (defScope sOfTwo) := ⟨rfl, rfl, rfl, by decide +kernel, rfl, by decide +kernel, by decide +kernel⟩
def spOfTwo (P : Program) (w : World) (K : PySem.W.Frag) (C : Addr) : Sp := fun vs H Q _ => ∃ (x d r : Addr) (ks : List AKey) (wd : Str) (v u : V) (p q : PS), vs = [.ref x, .str wd, v, u] ∧ SumsAt P w K C H x d r ks ∧ PsAt K H v p ∧ PsAt K H u q ∧ Wk ks 900 p ∧ Wk ks 900 q ∧ ks.length ≤ 5000 ∧
  spEnd P w K C H x d r (sgl ks (.two wd p q)) Q
theorem ok_ofTwo {f fS fP fC fJ : Addr} {fd fdS fdP fdC fdJ : FuncData} {k : Nat} (F : Fun K "of_two" "Sums.of_two" sOfTwo f fd) (T : Txt K mg C) (G : Glob K mg pW pN) (DS : MDef K C "single" "Sums.single" sSingle ["self", "key", "parts"] fS fdS) (DP : MDef K C "parts_of" "Sums.parts_of" sParts ["self", "worth"] fP fdP)
    (DC : Def K mg "is_cell" sIsCell ["worth"] fC fdC) (DJ : Def K mg "joined" sJoined ["rows"] fJ fdJ) : FnOk P w K mg base CX0 (k + 3) f fd ["self", "word", "one", "other"] (spOfTwo P w K C) := by
  have GS : FnOk P w K mg base CX0 (k + 1) fS fdS ["self", "key", "parts"] (spSingle P w K C) := ok_single DS.fn T G
  have GP : FnOk P w K mg base CX0 (k + 2) fP fdP ["self", "worth"] (spParts P w K C) := ok_parts DP.fn T G DC DJ
  have GJ : FnOk P w K mg base CX0 (k + 1) fJ fdJ ["rows"] (spJoined K) := ok_joined DJ.fn G
  refine F.ok scOfTwo (fun vs H Q E h => ?_) (fun cdv A outer s H vs Q E hr h => ?_)
  · obtain ⟨x, d, r, ks, wd, v, u, p, p2, rfl, _⟩ := h
    rfl
  · obtain ⟨x, d, r, ks, wd, v, u, p, p2, rfl, S, hv, hu, w1, w2, hz, q⟩ := h
    have hr1 : Room (k + 1) _ := hr.mono (by omega)
    refine ⟨_, pss_one (ps_ret (pe_meth (pv 0) T.cl DS.m GS hr1 DS.b .nil pass0 (pa_cons (pe_tup (pa_cons (pv 1) (pa_cons (pv 2) (pa_cons (pv 3) pa_nil)))) (pa_cons (pe_call GJ hr1 (by rfl) DJ.at_ DJ.fn.kp DJ.b .nil pass0
      (pa_cons (pe_lst (pa_cons (pe_meth (pv 0) T.cl DP.m GP hr DP.b .nil pass0 (pa_cons (pv 2) pa_nil)) (pa_cons (pe_meth (pv 0) T.cl DP.m GP hr DP.b .nil pass0 (pa_cons (pv 3) pa_nil)) pa_nil))) pa_nil)) pa_nil)))), ?_⟩
    obtain ⟨dx, d2, r2, ox⟩ := S.ob
    refine ⟨_, rfl, x, dx, _, rfl, ox, flds_no _ _ _ _ (by decide +kernel), _, rfl, _, rfl, _, rfl, (by show 3 ≤ sizeLine; decide), fun t ht => ?_⟩
    have s1 := same_new (o := .tup [.str wd, v, u]) ht
    have e1 : SqT K (upd H t (.tup [.str wd, v, u])) t [.str wd, v, u] := sq_new
    revert s1 e1
    generalize upd H t (.tup [.str wd, v, u]) = H1
    intro s1 e1
    refine ⟨_, rfl, x, dx, _, rfl, s1 _ _ ox, flds_no _ _ _ _ (by decide +kernel), _, rfl, x, d, r, ks, v, p, rfl, S.same s1, hv.tk (Tk.of s1), w1.win, w1.len, fun t1 H2 s2 h1 => ?_⟩
    refine ⟨_, rfl, x, dx, _, rfl, s2 _ _ (s1 _ _ ox), flds_no _ _ _ _ (by decide +kernel), _, rfl, x, d, r, ks, u, p2, rfl, (S.same s1).same s2, hu.tk (Tk.of (s1.trans s2)), w2.win, w2.len, fun t2 H3 s3 h2 => ?_⟩
    refine ⟨(by show 2 ≤ sizeLine; decide), fun l hl => ?_⟩
    have s4 := same_new (o := .lst [.ref t1, .ref t2]) hl
    refine ⟨l, [t1, t2], rfl, SL upd_same, fun t' ht' => ?_, fun t3 H4 s5 h3 => ?_⟩
    · rcases List.mem_cons.mp ht' with z | z
      · rw [z]; exact (Tk.of (s3.trans s4)).sq h1
      · rw [List.mem_singleton.mp z]; exact (Tk.of s4).sq h2
    · have sa : Same H1 H4 := ((s2.trans s3).trans s4).trans s5
      have sb := s1.trans sa
      refine ⟨x, d, r, t, t3, ks, .two wd p p2, .str wd, [v, u], rfl, S.same sb, .tup ((Tk.of sa).sq e1) (.cons (.text _) (.cons (nk_sum (hv.tk (Tk.of sb))) (.cons (nk_sum (hu.tk (Tk.of sb))) .nil))), (Tk.of sa).sq e1, h3, hz, ?_⟩
      exact fun v' H' m S' hp => q v' H' ((Mk.of sb).trans m) S' hp
end
end K15
set_option Elab.async false
set_option linter.all false
set_option maxRecDepth 100000
set_option maxHeartbeats 4000000
namespace K15
open PySem PySem.Spec PyProof.Rows L2 NR SU SA NC ND
/-! ### the data of sums can be compared -/
theorem lay_rowsP : ∀ r : List (Int × Int), PyData.canLayAll0 (r.map rP) = true
  | [] => rfl
  | p :: r => by
    rw [List.map_cons, PyData.canLayAll0, lay_rowsP r]
    rfl
theorem depth_rowsP : ∀ r : List (Int × Int), PyData.depthAll (r.map rP) ≤ 1
  | [] => Nat.zero_le _
  | p :: r => by
    have ih := depth_rowsP r
    rw [List.map_cons, PyData.depthAll]
    have e : (rP p).depth = 1 := rfl
    omega
theorem depth_P (p : PS) : (dP p).depth ≤ 3 := by
  have h := depth_rowsP p.2
  unfold dP
  simp only [PyData.depth, PyData.depthAll]
  omega
theorem shaped_rowsP (r : List (Int × Int)) : SeqAt.shaped (.tuple (r.map rP)) = true := by
  have h := depth_rowsP r
  unfold SeqAt.shaped
  rw [PyData.canLay0, lay_rowsP, PyData.depth, Bool.true_and]
  exact decide_eq_true (by omega)
theorem shaped_P (p : PS) : SeqAt.shaped (dP p) = true := by
  have h := depth_P p
  unfold SeqAt.shaped
  have e : (dP p).canLay0 = true := by
    unfold dP
    simp only [PyData.canLay0, PyData.canLayAll0, lay_rowsP, Bool.and_self]
  rw [e, Bool.true_and]
  exact decide_eq_true (by omega)
theorem alike_rowsP : ∀ r s : List (Int × Int), PySem.W.alikeAll (r.map rP) (s.map rP) = true
  | [], s => by cases s <;> rfl
  | p :: r, [] => rfl
  | p :: r, q :: s => by
    have ih := alike_rowsP r s
    show (PySem.W.alike (rP p) (rP q) && PySem.W.alikeAll (r.map rP) (s.map rP)) = true
    rw [ih]
    rfl
theorem alike_P (p q : PS) : PySem.W.alike (dP p) (dP q) = true := by
  show (PySem.W.alike (.int p.1) (.int q.1) && (PySem.W.alikeAll (p.2.map rP) (q.2.map rP) && true)) = true
  rw [alike_rowsP]
  rfl
theorem allAlike_P (p q : PS) : PySem.W.AllAlike [dP p, dP q] := by
  have e : ([dP p, dP q] : List PyData) = [p, q].map dP := rfl
  rw [e]
  exact PySem.W.AllAlike.of fun b b' => alike_P b b'
theorem sortable_P (p q : PS) : PySem.W.Sortable [dP p, dP q] := .inl fun d hd => by
  rcases List.mem_cons.mp hd with e | e
  · rw [e]; exact ⟨_, _, rfl⟩
  · rw [List.mem_singleton.mp e]; exact ⟨_, _, rfl⟩
theorem alikeAll_P (p q : PS) : PySem.W.AlikeAll [dP p, dP q] := ⟨fun x hx y hy => allAlike_P p q x hx y hy, fun x hx => by
  rcases List.mem_cons.mp hx with e | e
  · rw [e]; exact fun z => nomatch z
  · rw [List.mem_singleton.mp e]; exact fun z => nomatch z⟩
theorem dP_inj {p q : PS} (h : dP p = dP q) : p = q := toks_inj (by rw [h])
abbrev sPlus : Stmt := inClass (topS 17) 9
abbrev sLess : Stmt := inClass (topS 17) 10
abbrev sTimes : Stmt := inClass (topS 17) 11
abbrev sOver : Stmt := inClass (topS 17) 12
abbrev sBelow : Stmt := inClass (topS 17) 13
abbrev sNought : Stmt := inClass (topS 17) 14
abbrev sSame : Stmt := inClass (topS 17) 15
abbrev sByWord : Stmt := inClass (topS 17) 17
abbrev p3 : List Str := ["self", "one", "other"]
section
variable {P : Program} {w : World} {K : PySem.W.Frag} {mg : Str → Option Value} {base : Heap} {pW pN C : Addr}
theorem iteD {c A B : Prop} [Decidable c] (h1 : c → A) (h2 : ¬ c → B) : if decide c = true then A else B := by
  by_cases h : c
  · rw [decide_eq_true h, if_pos rfl]; exact h1 h
  · rw [decide_eq_false h, if_neg Bool.false_ne_true]; exact h2 h
/-- a step by two sums -/
def spBin (P : Program) (w : World) (K : PySem.W.Frag) (C : Addr) (op : List AKey → PS → PS → List AKey × PS) : Sp := fun vs H Q _ => ∃ (x d r : Addr) (ks : List AKey) (v u : V) (p q : PS), vs = [.ref x, v, u] ∧ SumsAt P w K C H x d r ks ∧ PsAt K H v p ∧ PsAt K H u q ∧ Wk ks 900 p ∧ Wk ks 900 q ∧ p.2.length + q.2.length < 64 ∧ ks.length ≤ 5000 ∧
  spEnd P w K C H x d r (op ks p q) Q
theorem spBin_len {op : List AKey → PS → PS → List AKey × PS} : ∀ (vs : List V) (H : Hp) (Q : VK) (E : XK), spBin P w K C op vs H Q E → vs.length = p3.length := fun vs H Q E h => by
  obtain ⟨x, d, r, ks, v, u, p, q, rfl, _⟩ := h
  rfl
theorem scPlus : FnScope p3 p3 (defScope sPlus) := ⟨rfl, rfl, rfl, by decide +kernel, rfl, by decide +kernel, by decide +kernel⟩
theorem ok_plus {f fA : Addr} {fd fdA : FuncData} {k : Nat} (F : Fun K "plus" "Sums.plus" sPlus f fd) (G : Glob K mg pW pN) (DA : Def K mg "added" sAdded ["one", "other"] fA fdA) : FnOk P w K mg base CX0 (k + 2) f fd p3 (spBin P w K C fun ks p q => (ks, addP p q 1)) := by
  have GA : FnOk P w K mg base CX0 (k + 1) fA fdA ["one", "other"] (spAdded K) := ok_added DA.fn G
  refine F.ok scPlus spBin_len (fun cdv A outer s H vs Q E hr h => ?_)
  obtain ⟨x, d, r, ks, v, u, p, p2, rfl, S, hv, hu, w1, w2, hz, hk, q⟩ := h
  refine ⟨_, pss_one (ps_ret (pe_call GA hr (by rfl) DA.at_ DA.fn.kp DA.b .nil pass0 (pa_cons (pv 1) (pa_cons (pv 2) pa_nil)))), ?_⟩
  exact ⟨_, rfl, _, rfl, v, u, p, p2, rfl, hv, hu, w1.ok, w2.ok, hz, fun v' H' sm hp => q v' H' (Mk.of sm) (S.same sm) hp⟩
theorem scLess : FnScope p3 p3 (defScope sLess) := ⟨rfl, rfl, rfl, by decide +kernel, rfl, by decide +kernel, by decide +kernel⟩
/-- less by way of a sum so many times -/
theorem less_eq {p q : PS} (hp : Ok ltI p) (hq : Ok ltI q) : addP p (addP (0, []) q 65535) 1 = addP p q 65535 := by
  refine ok_ext Lo.int (addBy_ok Lo.int hp) (addBy_ok Lo.int hp) ?_ fun c => ?_
  · show (p.1 + (0 + q.1 * 65535) % 65536 * 1) % 65536 = (p.1 + q.1 * 65535) % 65536
    omega
  · rw [cf_addBy Lo.int hp (addBy_ok Lo.int .nil), cf_addBy Lo.int .nil hq, cf_addBy Lo.int hp hq]
    show (cf p.2 c + (0 + cf q.2 c * 65535) % 65536 * 1) % 65536 = _
    omega
theorem ok_less {f fA fS : Addr} {fd fdA fdS : FuncData} {k : Nat} (F : Fun K "less" "Sums.less" sLess f fd) (G : Glob K mg pW pN) (DA : Def K mg "added" sAdded ["one", "other"] fA fdA) (DS : Def K mg "scaled" sScaled ["one", "many"] fS fdS) :
    FnOk P w K mg base CX0 (k + 2) f fd p3 (spBin P w K C fun ks p q => (ks, addP p q 65535)) := by
  have GA : FnOk P w K mg base CX0 (k + 1) fA fdA ["one", "other"] (spAdded K) := ok_added DA.fn G
  have GS : FnOk P w K mg base CX0 (k + 1) fS fdS ["one", "many"] (spScaled K) := ok_scaled DS.fn G
  obtain ⟨tr, gR⟩ := G.ROUND
  refine F.ok scLess spBin_len (fun cdv A outer s H vs Q E hr h => ?_)
  obtain ⟨x, d, r, ks, v, u, p, p2, rfl, S, hv, hu, w1, w2, hz, hk, q⟩ := h
  refine ⟨_, pss_one (ps_ret (pe_call GA hr (by rfl) DA.at_ DA.fn.kp DA.b .nil pass0 (pa_cons (pv 1) (pa_cons (pe_call GS hr (by rfl) DS.at_ DS.fn.kp DS.b .nil pass0 (pa_cons (pv 2) (pa_cons (pe_op op_sub (pe_glob (v := .int 65536) (by rfl) gR ⟨_, rfl⟩) pe_int) pa_nil))) pa_nil)))), ?_⟩
  refine ⟨_, rfl, _, rfl, _, _, rfl, rfl, u, 65535, p2, rfl, hu, w2.ok, by decide, by decide, w2.len, fun u1 H1 s1 h1 => ?_⟩
  have ln : (addP (0, []) p2 65535).2.length ≤ p2.2.length := by
    have z := addBy_len (lt := ltI) (0, []) p2 65535
    simpa using z
  refine ⟨v, u1, p, _, rfl, hv.tk (Tk.of s1), h1, w1.ok, addBy_ok Lo.int .nil, by omega, fun v' H' sm hp => ?_⟩
  rw [less_eq w1.ok w2.ok] at hp
  exact q v' H' (Mk.of (s1.trans sm)) (S.same (s1.trans sm)) hp
/-! ### times -/
abbrev nTimes : List Str := ["self", "one", "other", "low", "high"]
theorem scTimes : FnScope nTimes p3 (defScope sTimes) := ⟨rfl, rfl, rfl, by decide +kernel, rfl, by decide +kernel, by decide +kernel⟩
/-- what of_two rests on -/
structure TwoD (K : PySem.W.Frag) (mg : Str → Option Value) (C : Addr) (fT fS fP fC fJ : Addr) (fdT fdS fdP fdC fdJ : FuncData) : Prop where
  t : MDef K C "of_two" "Sums.of_two" sOfTwo ["self", "word", "one", "other"] fT fdT
  s : MDef K C "single" "Sums.single" sSingle ["self", "key", "parts"] fS fdS
  p : MDef K C "parts_of" "Sums.parts_of" sParts ["self", "worth"] fP fdP
  c : Def K mg "is_cell" sIsCell ["worth"] fC fdC
  j : Def K mg "joined" sJoined ["rows"] fJ fdJ
theorem TwoD.ok {fT fS fP fC fJ : Addr} {fdT fdS fdP fdC fdJ : FuncData} {k : Nat} (D : TwoD K mg C fT fS fP fC fJ fdT fdS fdP fdC fdJ) (T : Txt K mg C) (G : Glob K mg pW pN) : FnOk P w K mg base CX0 (k + 3) fT fdT ["self", "word", "one", "other"] (spOfTwo P w K C) :=
  ok_ofTwo D.t.fn T G D.s D.p D.c D.j
theorem dp_rows {H : Hp} {b : Addr} {ts : List Addr} {r : List (Int × Int)} (hb : TN K H b (ts.map V.ref)) (hr : RowsAt Sum.inl K H ts r) : Dp K H (.ref b) (.tuple (r.map rP)) := .tup hb.sq (dp_rowsP hr)
theorem dp_nil {H : Hp} {b : Addr} (h : SqT K H b []) : Dp K H (.ref b) (.tuple (([] : List (Int × Int)).map rP)) := .tup h .nil
theorem ok_times {f fA : Addr} {fd fdA : FuncData} {fT fS fP fC fJ : Addr} {fdT fdS fdP fdC fdJ : FuncData} {k : Nat} (F : Fun K "times" "Sums.times" sTimes f fd) (T : Txt K mg C) (G : Glob K mg pW pN) (DA : Def K mg "scaled" sScaled ["one", "many"] fA fdA) (DT : TwoD K mg C fT fS fP fC fJ fdT fdS fdP fdC fdJ) :
    FnOk P w K mg base CX0 (k + 4) f fd p3 (spBin P w K C timesP) := by
  have GA : FnOk P w K mg base CX0 (k + 1) fA fdA ["one", "many"] (spScaled K) := ok_scaled DA.fn G
  have GT : FnOk P w K mg base CX0 (k + 3) fT fdT ["self", "word", "one", "other"] (spOfTwo P w K C) := DT.ok T G
  refine F.ok scTimes spBin_len (fun cdv A outer s H vs Q E hr h => ?_)
  obtain ⟨x, d, r, ks, v, u, p, p2, rfl, S, hv, hu, w1, w2, hz, hk, q⟩ := h
  have hr1 : Room (k + 1) _ := hr.mono (by omega)
  refine ⟨_, pss_cons (ps_if (pt_cmpR (op_eqD hr.units) (pe_ix ix_tup (pv 2) pe_int (fun _ _ => rfl)) (pe_tup pa_nil) (nomark _)) (pss_one (ps_ret (pe_call GA hr1 (by rfl) DA.at_ DA.fn.kp DA.b .nil pass0 (pa_cons (pv 1) (pa_cons (pe_ix ix_tup (pv 2) pe_int (fun _ _ => rfl)) pa_nil))))) pss_nil)
    (pss_cons (ps_if (pt_cmpR (op_eqD hr.units) (pe_ix ix_tup (pv 1) pe_int (fun _ _ => rfl)) (pe_tup pa_nil) (nomark _)) (pss_one (ps_ret (pe_call GA hr1 (by rfl) DA.at_ DA.fn.kp DA.b .nil pass0 (pa_cons (pv 2) (pa_cons (pe_ix ix_tup (pv 1) pe_int (fun _ _ => rfl)) pa_nil))))) pss_nil)
    (pss_cons (ps_asg (pe_callB (cr_sort2 hr.units) (by rfl) G.sorted (by decide +kernel) (pa_cons (pe_lst (pa_cons (pv 1) (pa_cons (pv 2) pa_nil))) pa_nil)) (pg_unl rfl (pgs_cons (pg_name (i := 3) scTimes.nd rfl (.inl rfl)) (pgs_cons (pg_name (i := 4) scTimes.nd rfl (.inl rfl)) pgs_nil))))
    (pss_one (ps_ret (pe_meth (pv 0) T.cl DT.t.m GT hr DT.t.b .nil pass0 (pa_cons pe_str (pa_cons (pv 3) (pa_cons (pv 4) pa_nil)))))))), ?_⟩
  obtain ⟨a, b, ts, rfl, ha, hb, hrow⟩ := id hv
  obtain ⟨a2, b2, ts2, rfl, ha2, hb2, hrow2⟩ := id hu
  obtain ⟨dx, d2, r2, ox⟩ := S.ob
  unfold timesP at q
  refine ⟨_, rfl, a2, _, 1, .ref b2, rfl, rfl, ha2, rfl, Nat.zero_le _, fun t ht => ?_⟩
  have s1 := same_new (o := .tup []) ht
  refine ⟨_, _, dp_rows ((Tk.of s1).tn hb2) (RowsAt.tk (Tk.of s1) hrow2), dp_nil sq_new, shaped_rowsP _, shaped_rowsP _, _, rfl, ?_⟩
  have ev : PyData.eqv (.tuple (p2.2.map rP)) (.tuple (([] : List (Int × Int)).map rP)) = decide (p2.2 = []) := eq_rows_P _ _
  rw [ev]
  have ha' := (Tk.of s1).sq ha
  have ha2' := (Tk.of s1).sq ha2
  refine iteD (fun c => ?_) (fun c => ?_)
  · rw [if_pos c] at q
    refine ⟨_, rfl, _, rfl, a2, _, 0, .int p2.1, rfl, rfl, ha2', rfl, .ref a, p2.1, p, rfl, hv.tk (Tk.of s1), w1.ok, w2.ok.n0, w2.ok.n1, w1.len, fun v' H' sm hp => ?_⟩
    exact q v' H' (Mk.of (s1.trans sm)) (S.same (s1.trans sm)) hp
  · rw [if_neg c] at q
    have hb' := (Tk.of s1).tn hb
    have hr' := RowsAt.tk (Tk.of s1) hrow
    refine ⟨_, rfl, a, _, 1, .ref b, rfl, rfl, ha', rfl, Nat.zero_le _, fun t2 ht2 => ?_⟩
    have s2 := same_new (o := .tup []) ht2
    refine ⟨_, _, dp_rows ((Tk.of s2).tn hb') (RowsAt.tk (Tk.of s2) hr'), dp_nil sq_new, shaped_rowsP _, shaped_rowsP _, _, rfl, ?_⟩
    have ev : PyData.eqv (.tuple (p.2.map rP)) (.tuple (([] : List (Int × Int)).map rP)) = decide (p.2 = []) := eq_rows_P _ _
    rw [ev]
    have s12 := s1.trans s2
    revert s12
    generalize upd (upd H t (.tup [])) t2 (.tup []) = H2
    intro s12
    refine iteD (fun c2 => ?_) (fun c2 => ?_)
    · rw [if_pos c2] at q
      refine ⟨_, rfl, _, rfl, a, _, 0, .int p.1, rfl, rfl, (Tk.of s12).sq ha, rfl, .ref a2, p.1, p2, rfl, hu.tk (Tk.of s12), w2.ok, w1.ok.n0, w1.ok.n1, w2.len, fun v' H' sm hp => ?_⟩
      exact q v' H' (Mk.of (s12.trans sm)) (S.same (s12.trans sm)) hp
    · rw [if_neg c2] at q
      refine ⟨_, rfl, _, rfl, (by show 2 ≤ sizeLine; decide), fun l hl => ?_⟩
      have s3 := same_new (o := .lst [.ref a, .ref a2]) hl
      have k3 := Tk.of (s12.trans s3)
      refine ⟨l, .ref a, .ref a2, dP p, dP p2, rfl, SL upd_same, PsAt.dp (hv.tk k3), PsAt.dp (hu.tk k3), allAlike_P _ _, sortable_P _ _, Nat.le_trans (depth_P _) (by decide), Nat.le_trans (depth_P _) (by decide), fun l2 hl2 => ?_⟩
      have go : ∀ (y z : V) (py pz : PS), PsAt K H y py → PsAt K H z pz → Wk ks 900 py → Wk ks 900 pz → (if PySem.W.dataLt (dP p2) (dP p) = true then [V.ref a2, .ref a] else [.ref a, .ref a2]) = [y, z] → spEnd P w K C H x d r (sgl ks (.two "times" py pz)) Q →
          gUnl K 2 (gCons (gName 3) (gCons (gName 4) gNil)) (.ref l2) [some (.ref x), some (.ref a), some (.ref a2), none, none] (upd (upd H2 l (.lst [.ref a, .ref a2])) l2 (.lst (if PySem.W.dataLt (dP p2) (dP p) = true then [V.ref a2, .ref a] else [.ref a, .ref a2])))
            fun σ' H' => (tRet (tMeth C "of_two" (spOfTwo P w K C) [] E0 (tVar 0) (tCons (tC (.str "times")) (tCons (tVar 3) (tCons (tVar 4) tNil))))) { nx := fun _ H' => Q .non H', rt := Q } σ' H' := by
        intro y z py pz hy hz1 wy wz e qq
        rw [e]
        have s4 := same_new (o := .lst [y, z]) hl2
        have sA := (s12.trans s3).trans s4
        refine ⟨l2, _, rfl, SL upd_same, rfl, _, _, rfl, _, _, rfl, rfl, ?_⟩
        refine ⟨_, rfl, x, dx, _, rfl, sA _ _ ox, flds_no _ _ _ _ (by decide +kernel), _, rfl, _, rfl, x, d, r, ks, "times", y, z, py, pz, rfl, S.same sA, hy.tk (Tk.of sA), hz1.tk (Tk.of sA), wy, wz, hk, ?_⟩
        exact fun v' H' m S' hp => qq v' H' ((Mk.of sA).trans m) S' hp
      by_cases c3 : ltP p2 p
      · have c3' : PySem.W.dataLt (dP p2) (dP p) = true := c3
        rw [if_pos c3] at q
        exact go _ _ p2 p hu hv w2 w1 (by rw [if_pos c3']) q
      · have c3' : ¬ PySem.W.dataLt (dP p2) (dP p) = true := c3
        rw [if_neg c3] at q
        exact go _ _ p p2 hv hu w1 w2 (by rw [if_neg c3']) q
end
end K15
set_option Elab.async false
set_option linter.all false
set_option maxRecDepth 100000
set_option maxHeartbeats 4000000
namespace K15
open PySem PySem.Spec PyProof.Rows L2 NR SU SA NC ND
section
variable {P : Program} {w : World} {K : PySem.W.Frag} {mg : Str → Option Value} {base : Heap} {pW pN C : Addr}
theorem Wk.num0 {ks : List AKey} {m : Nat} {q : PS} (h : Wk ks m q) (e : q.2 = []) (n : ¬ q = (0, [])) : 0 < q.1 := by
  have z := SU.num0 e n
  have := h.ok.n0
  omega
/-- both are numbers: the chain of two == -/
theorem both (p q : PS) : (if decide (p.2 = q.2) = true then decide (q.2 = []) else false) = decide (p.2 = [] ∧ q.2 = []) := by
  by_cases h1 : p.2 = q.2
  · rw [decide_eq_true h1, if_pos rfl]
    by_cases h2 : q.2 = []
    · rw [decide_eq_true h2, decide_eq_true ⟨h1.trans h2, h2⟩]
    · rw [decide_eq_false h2, decide_eq_false fun z => h2 z.2]
  · rw [decide_eq_false h1, if_neg Bool.false_ne_true, decide_eq_false fun z => h1 (z.1.trans z.2.symm)]
theorem scOver : FnScope p3 p3 (defScope sOver) := ⟨rfl, rfl, rfl, by decide +kernel, rfl, by decide +kernel, by decide +kernel⟩
theorem ok_over {f : Addr} {fd : FuncData} {fT fS fP fC fJ : Addr} {fdT fdS fdP fdC fdJ : FuncData} {k : Nat} (F : Fun K "over" "Sums.over" sOver f fd) (T : Txt K mg C) (G : Glob K mg pW pN) (DT : TwoD K mg C fT fS fP fC fJ fdT fdS fdP fdC fdJ) :
    FnOk P w K mg base CX0 (k + 4) f fd p3 (spBin P w K C overP) := by
  have GT : FnOk P w K mg base CX0 (k + 3) fT fdT ["self", "word", "one", "other"] (spOfTwo P w K C) := DT.ok T G
  refine F.ok scOver spBin_len (fun cdv A outer s H vs Q E hr h => ?_)
  obtain ⟨x, d, r, ks, v, u, p, p2, rfl, S, hv, hu, w1, w2, hz, hk, q⟩ := h
  refine ⟨_, pss_cons (ps_if (pt_cmpR (op_eqD hr.units) (pv 2) (pe_glob (v := .ref pN) (by rfl) G.NOUGHT rfl) (nomark _)) (pss_one (ps_ret (pe_glob (v := .ref pN) (by rfl) G.NOUGHT rfl))) pss_nil)
    (pss_cons (ps_if (pt_chain (op_eqD hr.units) (op_eqD hr.units) (pe_ix ix_tup (pv 1) pe_int (fun _ _ => rfl)) (pe_ix ix_tup (pv 2) pe_int (fun _ _ => rfl)) (pe_tup pa_nil))
      (pss_one (ps_ret (pe_tup (pa_cons (pe_op op_fdiv (pe_ix ix_tup (pv 1) pe_int (fun _ _ => rfl)) (pe_ix ix_tup (pv 2) pe_int (fun _ _ => rfl))) (pa_cons (pe_tupF pa_nil) pa_nil))))) pss_nil)
    (pss_one (ps_ret (pe_meth (pv 0) T.cl DT.t.m GT hr DT.t.b .nil pass0 (pa_cons pe_str (pa_cons (pv 1) (pa_cons (pv 2) pa_nil))))))), ?_⟩
  obtain ⟨a, b, ts, rfl, ha, hb, hrow⟩ := id hv
  obtain ⟨a2, b2, ts2, rfl, ha2, hb2, hrow2⟩ := id hu
  obtain ⟨dx, d2, r2, ox⟩ := S.ob
  unfold overP at q
  refine ⟨_, rfl, _, _, PsAt.dp hu, PsAt.dp (G.nought H), shaped_P _, shaped_P _, _, rfl, ?_⟩
  rw [eq_P]
  refine iteD (fun c => ?_) (fun c => ?_)
  · rw [if_pos c] at q
    exact q _ _ (Mk.of (Same.refl _)) S (G.nought H)
  · rw [if_neg c] at q
    refine ⟨_, rfl, a, _, 1, .ref b, rfl, rfl, ha, rfl, _, rfl, a2, _, 1, .ref b2, rfl, rfl, ha2, rfl, _, _, dp_rows hb hrow, dp_rows hb2 hrow2, shaped_rowsP _, shaped_rowsP _, _, rfl, ?_⟩
    have ev : PyData.eqv (.tuple (p.2.map rP)) (.tuple (p2.2.map rP)) = decide (p.2 = p2.2) := eq_rows_P _ _
    rw [ev]
    have two : ∀ (H1 : Hp), Same H H1 → ¬ (p.2 = [] ∧ p2.2 = []) → (tRet (tMeth C "of_two" (spOfTwo P w K C) [] E0 (tVar 0) (tCons (tC (.str "over")) (tCons (tVar 1) (tCons (tVar 2) tNil))))) { nx := fun _ H' => Q .non H', rt := Q } [some (.ref x), some (.ref a), some (.ref a2)] H1 := by
      intro H1 sm nn
      rw [if_neg nn] at q
      refine ⟨_, rfl, x, dx, _, rfl, sm _ _ ox, flds_no _ _ _ _ (by decide +kernel), _, rfl, _, rfl, x, d, r, ks, "over", _, _, p, p2, rfl, S.same sm, hv.tk (Tk.of sm), hu.tk (Tk.of sm), w1, w2, hk, ?_⟩
      exact fun v' H' m S' hp => q v' H' ((Mk.of sm).trans m) S' hp
    refine iteD (fun c1 => ?_) (fun c1 => ?_)
    · refine ⟨Nat.zero_le _, fun t ht => ?_⟩
      have s1 := same_new (o := .tup []) ht
      refine ⟨_, _, dp_rows ((Tk.of s1).tn hb2) (RowsAt.tk (Tk.of s1) hrow2), dp_nil sq_new, shaped_rowsP _, shaped_rowsP _, _, rfl, ?_⟩
      have ev : PyData.eqv (.tuple (p2.2.map rP)) (.tuple (([] : List (Int × Int)).map rP)) = decide (p2.2 = []) := eq_rows_P _ _
      rw [ev]
      refine iteD (fun c2 => ?_) (fun c2 => ?_)
      · rw [if_pos ⟨c1.trans c2, c2⟩] at q
        have pos := Wk.num0 w2 c2 c
        have lt := w2.ok.n1
        refine ⟨_, rfl, a, _, 0, .int p.1, rfl, rfl, (Tk.of s1).sq ha, rfl, _, rfl, a2, _, 0, .int p2.1, rfl, rfl, (Tk.of s1).sq ha2, rfl, _, _, rfl, rfl, ⟨pos, by omega⟩, Nat.zero_le _, fun t2 o ht2 ho => ⟨(by show 2 ≤ sizeLine; decide), fun t3 ht3 => ?_⟩⟩
        have s2 := same_new (o := .frz o (.tup [])) ht2
        have s3 := same_new (o := .tup [.int (p.1 / p2.1), .ref t2]) ht3
        have sm := (s1.trans s2).trans s3
        exact q _ _ (Mk.of sm) (S.same sm) ⟨t3, t2, [], rfl, sq_new, (Tk.of s3).tn (tn_new ho), .nil⟩
      · exact two _ s1 fun z => c2 z.2
    · exact ⟨false, rfl, iteF (two _ (Same.refl _) fun z => c1 (z.1.trans z.2.symm))⟩
/-! ### below -/
theorem scBelow : FnScope p3 p3 (defScope sBelow) := ⟨rfl, rfl, rfl, by decide +kernel, rfl, by decide +kernel, by decide +kernel⟩
theorem ok_below {f : Addr} {fd : FuncData} {fT fS fP fC fJ : Addr} {fdT fdS fdP fdC fdJ : FuncData} {k : Nat} (F : Fun K "below" "Sums.below" sBelow f fd) (T : Txt K mg C) (G : Glob K mg pW pN) (DT : TwoD K mg C fT fS fP fC fJ fdT fdS fdP fdC fdJ) :
    FnOk P w K mg base CX0 (k + 4) f fd p3 (spBin P w K C belowP) := by
  have GT : FnOk P w K mg base CX0 (k + 3) fT fdT ["self", "word", "one", "other"] (spOfTwo P w K C) := DT.ok T G
  refine F.ok scBelow spBin_len (fun cdv A outer s H vs Q E hr h => ?_)
  obtain ⟨x, d, r, ks, v, u, p, p2, rfl, S, hv, hu, w1, w2, hz, hk, q⟩ := h
  refine ⟨_, pss_cons (ps_if (PW.pt (pw_or (pt_cmpR (op_eqD hr.units) (pv 2) (pe_glob (v := .ref pN) (by rfl) G.NOUGHT rfl) (nomark _)) (pw_or1 (pt_cmpR (op_eqD hr.units) (pv 1) (pv 2) (nomark _))))) (pss_one (ps_ret (pe_glob (v := .ref pN) (by rfl) G.NOUGHT rfl))) pss_nil)
    (pss_cons (ps_if (pt_chain (op_eqD hr.units) (op_eqD hr.units) (pe_ix ix_tup (pv 1) pe_int (fun _ _ => rfl)) (pe_ix ix_tup (pv 2) pe_int (fun _ _ => rfl)) (pe_tup pa_nil))
      (pss_one (ps_ret (pe_tup (pa_cons (pe_callTy call_int1 (by rfl) G.int (by decide +kernel) (pa_cons (pe_cmpR op_lt (pe_ix ix_tup (pv 1) pe_int (fun _ _ => rfl)) (pe_ix ix_tup (pv 2) pe_int (fun _ _ => rfl)) (nomark _)) pa_nil)) (pa_cons (pe_tupF pa_nil) pa_nil))))) pss_nil)
    (pss_one (ps_ret (pe_meth (pv 0) T.cl DT.t.m GT hr DT.t.b .nil pass0 (pa_cons pe_str (pa_cons (pv 1) (pa_cons (pv 2) pa_nil))))))), ?_⟩
  obtain ⟨a, b, ts, rfl, ha, hb, hrow⟩ := id hv
  obtain ⟨a2, b2, ts2, rfl, ha2, hb2, hrow2⟩ := id hu
  obtain ⟨dx, d2, r2, ox⟩ := S.ob
  unfold belowP at q
  refine ⟨_, rfl, _, _, PsAt.dp hu, PsAt.dp (G.nought H), shaped_P _, shaped_P _, _, rfl, ?_⟩
  rw [eq_P]
  refine iteD (fun c => ?_) (fun c => ?_)
  · rw [if_pos (.inl c)] at q
    exact q _ _ (Mk.of (Same.refl _)) S (G.nought H)
  refine ⟨_, rfl, _, rfl, _, _, PsAt.dp hv, PsAt.dp hu, shaped_P _, shaped_P _, _, rfl, ?_⟩
  rw [eq_P]
  refine iteD (fun c' => ?_) (fun c' => ?_)
  · rw [if_pos (.inr c')] at q
    exact q _ _ (Mk.of (Same.refl _)) S (G.nought H)
  · have nc : ¬ (p2 = (0, []) ∨ p = p2) := fun z => z.elim c c'
    rw [if_neg nc] at q
    refine ⟨_, rfl, a, _, 1, .ref b, rfl, rfl, ha, rfl, _, rfl, a2, _, 1, .ref b2, rfl, rfl, ha2, rfl, _, _, dp_rows hb hrow, dp_rows hb2 hrow2, shaped_rowsP _, shaped_rowsP _, _, rfl, ?_⟩
    have ev : PyData.eqv (.tuple (p.2.map rP)) (.tuple (p2.2.map rP)) = decide (p.2 = p2.2) := eq_rows_P _ _
    rw [ev]
    have two : ∀ (H1 : Hp), Same H H1 → ¬ (p.2 = [] ∧ p2.2 = []) → (tRet (tMeth C "of_two" (spOfTwo P w K C) [] E0 (tVar 0) (tCons (tC (.str "below")) (tCons (tVar 1) (tCons (tVar 2) tNil))))) { nx := fun _ H' => Q .non H', rt := Q } [some (.ref x), some (.ref a), some (.ref a2)] H1 := by
      intro H1 sm nn
      rw [if_neg nn] at q
      refine ⟨_, rfl, x, dx, _, rfl, sm _ _ ox, flds_no _ _ _ _ (by decide +kernel), _, rfl, _, rfl, x, d, r, ks, "below", _, _, p, p2, rfl, S.same sm, hv.tk (Tk.of sm), hu.tk (Tk.of sm), w1, w2, hk, ?_⟩
      exact fun v' H' m S' hp => q v' H' ((Mk.of sm).trans m) S' hp
    refine iteD (fun c1 => ?_) (fun c1 => ?_)
    · refine ⟨Nat.zero_le _, fun t ht => ?_⟩
      have s1 := same_new (o := .tup []) ht
      refine ⟨_, _, dp_rows ((Tk.of s1).tn hb2) (RowsAt.tk (Tk.of s1) hrow2), dp_nil sq_new, shaped_rowsP _, shaped_rowsP _, _, rfl, ?_⟩
      have ev : PyData.eqv (.tuple (p2.2.map rP)) (.tuple (([] : List (Int × Int)).map rP)) = decide (p2.2 = []) := eq_rows_P _ _
      rw [ev]
      refine iteD (fun c2 => ?_) (fun c2 => ?_)
      · rw [if_pos ⟨c1.trans c2, c2⟩] at q
        refine ⟨_, rfl, a, _, 0, .int p.1, rfl, rfl, (Tk.of s1).sq ha, rfl, _, rfl, a2, _, 0, .int p2.1, rfl, rfl, (Tk.of s1).sq ha2, rfl, _, _, rfl, rfl, .inr ⟨_, rfl, ?_⟩⟩
        have e1 : (if decide (p.1 < p2.1) = true then (1 : Int) else 0) = if p.1 < p2.1 then 1 else 0 := by
          by_cases y : p.1 < p2.1
          · rw [decide_eq_true y, if_pos rfl, if_pos y]
          · rw [decide_eq_false y, if_neg Bool.false_ne_true, if_neg y]
        refine ⟨Nat.zero_le _, fun t2 o ht2 ho => ⟨(by show 2 ≤ sizeLine; decide), fun t3 ht3 => ?_⟩⟩
        rw [e1]
        have s2 := same_new (o := .frz o (.tup [])) ht2
        have s3 := same_new (o := .tup [.int (if p.1 < p2.1 then 1 else 0), .ref t2]) ht3
        have sm := (s1.trans s2).trans s3
        exact q _ _ (Mk.of sm) (S.same sm) ⟨t3, t2, [], rfl, sq_new, (Tk.of s3).tn (tn_new ho), .nil⟩
      · exact two _ s1 fun z => c2 z.2
    · exact ⟨false, rfl, iteF (two _ (Same.refl _) fun z => c1 (z.1.trans z.2.symm))⟩
/-! ### nought -/
theorem scNought : FnScope ["self", "one", "low"] ["self", "one"] (defScope sNought) := ⟨rfl, rfl, rfl, by decide +kernel, rfl, by decide +kernel, by decide +kernel⟩
def spNought (P : Program) (w : World) (K : PySem.W.Frag) (C : Addr) : Sp := fun vs H Q _ => ∃ (x d r : Addr) (ks : List AKey) (v : V) (p : PS), vs = [.ref x, v] ∧ SumsAt P w K C H x d r ks ∧ PsAt K H v p ∧ Wk ks 900 p ∧ ks.length ≤ 5000 ∧ spEnd P w K C H x d r (noughtP ks p) Q
theorem ok_nought {f fA : Addr} {fd fdA : FuncData} {fT fS fP fC fJ : Addr} {fdT fdS fdP fdC fdJ : FuncData} {k : Nat} (F : Fun K "nought" "Sums.nought" sNought f fd) (T : Txt K mg C) (G : Glob K mg pW pN) (DA : Def K mg "scaled" sScaled ["one", "many"] fA fdA) (DT : TwoD K mg C fT fS fP fC fJ fdT fdS fdP fdC fdJ) :
    FnOk P w K mg base CX0 (k + 3) f fd ["self", "one"] (spNought P w K C) := by
  have GA : FnOk P w K mg base CX0 (k + 1) fA fdA ["one", "many"] (spScaled K) := ok_scaled DA.fn G
  have GS : FnOk P w K mg base CX0 (k + 1) fS fdS ["self", "key", "parts"] (spSingle P w K C) := ok_single DT.s.fn T G
  have GP : FnOk P w K mg base CX0 (k + 2) fP fdP ["self", "worth"] (spParts P w K C) := ok_parts DT.p.fn T G DT.c DT.j
  obtain ⟨tr, gR⟩ := G.ROUND
  refine F.ok scNought (fun vs H Q E h => ?_) (fun cdv A outer s H vs Q E hr h => ?_)
  · obtain ⟨x, d, r, ks, v, p, rfl, _⟩ := h
    rfl
  obtain ⟨x, d, r, ks, v, p, rfl, S, hv, w1, hk, q⟩ := h
  have hr1 : Room (k + 1) _ := hr.mono (by omega)
  refine ⟨_, pss_cons (ps_if (pt_cmpR (op_eqD hr.units) (pe_ix ix_tup (pv 1) pe_int (fun _ _ => rfl)) (pe_tup pa_nil) (nomark _)) (pss_one (ps_ret (pe_tup (pa_cons (pe_callTy call_int1 (by rfl) G.int (by decide +kernel) (pa_cons (pe_cmpR op_eq (pe_ix ix_tup (pv 1) pe_int (fun _ _ => rfl)) pe_int (nomark _)) pa_nil)) (pa_cons (pe_tupF pa_nil) pa_nil))))) pss_nil)
    (pss_cons (ps_set (i := 2) scNought.nd rfl (.inl rfl) (pe_callB (cr_min2D rfl hr.units) (by rfl) G.min (by decide +kernel) (pa_cons (pe_lst (pa_cons (pv 1) (pa_cons (pe_call GA hr1 (by rfl) DA.at_ DA.fn.kp DA.b .nil pass0 (pa_cons (pv 1) (pa_cons (pe_op op_sub (pe_glob (v := .int 65536) (by rfl) gR ⟨_, rfl⟩) pe_int) pa_nil))) pa_nil))) pa_nil)))
    (pss_one (ps_ret (pe_meth (pv 0) T.cl DT.s.m GS hr1 DT.s.b .nil pass0 (pa_cons (pe_tup (pa_cons pe_str (pa_cons (pv 2) pa_nil))) (pa_cons (pe_meth (pv 0) T.cl DT.p.m GP hr DT.p.b .nil pass0 (pa_cons (pv 2) pa_nil)) pa_nil)))))), ?_⟩
  obtain ⟨a, b, ts, rfl, ha, hb, hrow⟩ := id hv
  obtain ⟨dx, d2, r2, ox⟩ := S.ob
  unfold noughtP at q
  refine ⟨_, rfl, a, _, 1, .ref b, rfl, rfl, ha, rfl, Nat.zero_le _, fun t ht => ?_⟩
  have s1 := same_new (o := .tup []) ht
  refine ⟨_, _, dp_rows ((Tk.of s1).tn hb) (RowsAt.tk (Tk.of s1) hrow), dp_nil sq_new, shaped_rowsP _, shaped_rowsP _, _, rfl, ?_⟩
  have ev : PyData.eqv (.tuple (p.2.map rP)) (.tuple (([] : List (Int × Int)).map rP)) = decide (p.2 = []) := eq_rows_P _ _
  rw [ev]
  revert s1
  generalize upd H t (.tup []) = H1
  intro s1
  refine iteD (fun c => ?_) (fun c => ?_)
  · rw [if_pos c] at q
    refine ⟨_, rfl, a, _, 0, .int p.1, rfl, rfl, (Tk.of s1).sq ha, rfl, rfl, .inr ⟨_, rfl, ?_⟩⟩
    have e1 : (if decide (V.int p.1 = V.int 0) = true then (1 : Int) else 0) = if p.1 = 0 then 1 else 0 := by
      by_cases y : p.1 = 0
      · rw [decide_eq_true (by rw [y]), if_pos rfl, if_pos y]
      · rw [decide_eq_false (fun z => y (V.int.inj z)), if_neg Bool.false_ne_true, if_neg y]
    refine ⟨Nat.zero_le _, fun t2 o ht2 ho => ⟨(by show 2 ≤ sizeLine; decide), fun t3 ht3 => ?_⟩⟩
    rw [e1]
    have s2 := same_new (o := .frz o (.tup [])) ht2
    have s3 := same_new (o := .tup [.int (if p.1 = 0 then 1 else 0), .ref t2]) ht3
    have sm := (s1.trans s2).trans s3
    exact q _ _ (Mk.of sm) (S.same sm) ⟨t3, t2, [], rfl, sq_new, (Tk.of s3).tn (tn_new ho), .nil⟩
  · rw [if_neg c] at q
    refine ⟨_, rfl, _, rfl, _, _, rfl, rfl, .ref a, 65535, p, rfl, hv.tk (Tk.of s1), w1.ok, by decide, by decide, w1.len, fun v2 H2 s2 h2 => ⟨(by show 2 ≤ sizeLine; decide), fun l hl => ?_⟩⟩
    have s3 := same_new (o := .lst [.ref a, v2]) hl
    have sm := (s1.trans s2).trans s3
    have h2' := h2.tk (Tk.of s3)
    have hv' := hv.tk (Tk.of sm)
    refine ⟨l, .ref a, v2, dP p, dP (neg ltI p), rfl, SL upd_same, PsAt.dp hv', PsAt.dp h2', alikeAll_P _ _, Nat.le_trans (depth_P _) (by decide), Nat.le_trans (depth_P _) (by decide), fun y hy => ?_⟩
    have low : ∃ py : PS, py = (if ltP (neg ltI p) p then neg ltI p else p) ∧ PsAt K (upd H2 l (.lst [.ref a, v2])) y py := by
      refine ⟨_, rfl, ?_⟩
      have e : (if PySem.W.dataLt (dP (neg ltI p)) (dP p) = true then dP (neg ltI p) else dP p) = dP (if ltP (neg ltI p) p then neg ltI p else p) := by
        by_cases c3 : ltP (neg ltI p) p
        · rw [if_pos c3, if_pos (show PySem.W.dataLt (dP (neg ltI p)) (dP p) = true from c3)]
        · rw [if_neg c3, if_neg (show ¬ PySem.W.dataLt (dP (neg ltI p)) (dP p) = true from c3)]
      rw [e] at hy
      rcases hy with ⟨rfl, z⟩ | ⟨rfl, z⟩
      · rw [← dP_inj z]; exact hv'
      · rw [← dP_inj z]; exact h2'
    obtain ⟨py, epy, hpy⟩ := low
    rw [← epy] at q
    have wpy : Wk ks 900 py := by
      rw [epy]
      split
      · exact w1.scl
      · exact w1
    have Sx := S.same sm
    revert Sx hpy sm
    generalize upd H2 l (.lst [.ref a, v2]) = H3
    intro sm hpy Sx
    refine ⟨_, rfl, x, dx, _, rfl, sm _ _ ox, flds_no _ _ _ _ (by decide +kernel), _, rfl, (by show 2 ≤ sizeLine; decide), fun t4 ht4 => ?_⟩
    have s4 := same_new (o := .tup [.str "nought", y]) ht4
    have e4 : SqT K (upd H3 t4 (.tup [.str "nought", y])) t4 [.str "nought", y] := sq_new
    refine ⟨_, rfl, x, dx, _, rfl, s4 _ _ (sm _ _ ox), flds_no _ _ _ _ (by decide +kernel), _, rfl, x, d, r, ks, y, py, rfl, Sx.same s4, hpy.tk (Tk.of s4), wpy.win, wpy.len, fun t5 H5 s5 h5 => ?_⟩
    refine ⟨x, d, r, t4, t5, ks, .nought py, .str "nought", [y], rfl, (Sx.same s4).same s5, .tup ((Tk.of s5).sq e4) (.cons (.text _) (.cons (nk_sum (hpy.tk (Tk.of (s4.trans s5)))) .nil)), (Tk.of s5).sq e4, h5, hk, ?_⟩
    exact fun v' H' m S' hp => q v' H' ((Mk.of ((sm.trans s4).trans s5)).trans m) S' hp
end
end K15
set_option Elab.async false
set_option linter.all false
set_option maxRecDepth 100000
set_option maxHeartbeats 4000000
namespace SA
open PySem PySem.Spec PyProof.Rows L2 NR SU
/-! ### terms on the heap -/
def Trm.dep : Trm → Nat
  | .num _ => 1
  | .nam _ => 1
  | .op _ t u => max (Trm.dep t) (Trm.dep u) + 1
theorem Trm.dep_pos : ∀ t : Trm, 1 ≤ Trm.dep t
  | .num _ => Nat.le_refl _
  | .nam _ => Nat.le_refl _
  | .op _ _ _ => Nat.le_add_left _ _
theorem Trm.lv_le : ∀ t : Trm, 2 * Trm.lv t ≤ 2 ^ Trm.dep t
  | .num _ => Nat.le_refl _
  | .nam _ => Nat.le_refl _
  | .op _ a b => by
    have ha := Trm.lv_le a
    have hb := Trm.lv_le b
    have h1 : 2 ^ Trm.dep a ≤ 2 ^ max (Trm.dep a) (Trm.dep b) := Nat.pow_le_pow_right (by decide) (Nat.le_max_left _ _)
    have h2 : 2 ^ Trm.dep b ≤ 2 ^ max (Trm.dep a) (Trm.dep b) := Nat.pow_le_pow_right (by decide) (Nat.le_max_right _ _)
    show 2 * (Trm.lv a + Trm.lv b) ≤ 2 ^ (max (Trm.dep a) (Trm.dep b) + 1)
    rw [Nat.pow_succ]
    omega
inductive TmAt (K : PySem.W.Frag) (H : Hp) : V → Trm → Prop
  | num {p : Addr} {k : Int} (h : SqT K H p [.str "num", .int k]) : TmAt K H (.ref p) (.num k)
  | nam {p : Addr} {x : Str} (h : SqT K H p [.str "name", .str x]) : TmAt K H (.ref p) (.nam x)
  | op {p : Addr} {w : Str} {v1 v2 : V} {t u : Trm} (hw : w ∈ SU.six) (h : SqT K H p [.str w, v1, v2]) (h1 : TmAt K H v1 t) (h2 : TmAt K H v2 u) : TmAt K H (.ref p) (.op w t u)
theorem TmAt.tk {K : PySem.W.Frag} {H H' : Hp} (s : Tk H H') : ∀ {v : V} {t : Trm}, TmAt K H v t → TmAt K H' v t
  | _, _, .num h => .num (s.sq h)
  | _, _, .nam h => .nam (s.sq h)
  | _, _, .op hw h h1 h2 => .op hw (s.sq h) (TmAt.tk s h1) (TmAt.tk s h2)
end SA
namespace K15
open PySem PySem.Spec PyProof.Rows L2 NR SU SA NC ND KG KL LamX NdefX NL
section
variable {P : Program} {w : World} {K : PySem.W.Frag} {mg : Str → Option Value} {base : Heap} {pW pN C : Addr}
/-! ### same, by_word -/
theorem scSame : FnScope p3 p3 (defScope sSame) := ⟨rfl, rfl, rfl, by decide +kernel, rfl, by decide +kernel, by decide +kernel⟩
/-- what the words rest on -/
structure WdD (K : PySem.W.Frag) (mg : Str → Option Value) (C : Addr) (fA fM fT fS fP fC fJ : Addr) (fdA fdM fdT fdS fdP fdC fdJ : FuncData) : Prop where
  a : Def K mg "added" sAdded ["one", "other"] fA fdA
  m : Def K mg "scaled" sScaled ["one", "many"] fM fdM
  two : TwoD K mg C fT fS fP fC fJ fdT fdS fdP fdC fdJ
variable {fA fM fT fS fP fC fJ : Addr} {fdA fdM fdT fdS fdP fdC fdJ : FuncData}
theorem ok_same {f fL fN : Addr} {fd fdL fdN : FuncData} {k : Nat} (F : Fun K "same" "Sums.same" sSame f fd) (T : Txt K mg C) (G : Glob K mg pW pN) (W : WdD K mg C fA fM fT fS fP fC fJ fdA fdM fdT fdS fdP fdC fdJ) (DL : MDef K C "less" "Sums.less" sLess p3 fL fdL) (DN : MDef K C "nought" "Sums.nought" sNought ["self", "one"] fN fdN) :
    FnOk P w K mg base CX0 (k + 4) f fd p3 (spBin P w K C fun ks p q => noughtP ks (addP p q 65535)) := by
  have GL : FnOk P w K mg base CX0 (k + 2) fL fdL p3 (spBin P w K C fun ks p q => (ks, addP p q 65535)) := ok_less DL.fn G W.a W.m
  have GN : FnOk P w K mg base CX0 (k + 3) fN fdN ["self", "one"] (spNought P w K C) := ok_nought DN.fn T G W.m W.two
  refine F.ok scSame spBin_len (fun cdv A outer s H vs Q E hr h => ?_)
  obtain ⟨x, d, r, ks, v, u, p, p2, rfl, S, hv, hu, w1, w2, hz, hk, q⟩ := h
  have hr1 : Room (k + 2) _ := hr.mono (by omega)
  refine ⟨_, pss_one (ps_ret (pe_meth (pv 0) T.cl DN.m GN hr DN.b .nil pass0 (pa_cons (pe_meth (pv 0) T.cl DL.m GL hr1 DL.b .nil pass0 (pa_cons (pv 1) (pa_cons (pv 2) pa_nil))) pa_nil))), ?_⟩
  obtain ⟨dx, d2, r2, ox⟩ := S.ob
  refine ⟨_, rfl, x, dx, _, rfl, ox, flds_no _ _ _ _ (by decide +kernel), _, rfl, x, dx, _, rfl, ox, flds_no _ _ _ _ (by decide +kernel), _, rfl, _, rfl, x, d, r, ks, v, u, p, p2, rfl, S, hv, hu, w1, w2, hz, hk, fun v1 H1 m1 S1 h1 => ?_⟩
  refine ⟨x, d, r, ks, v1, _, rfl, S1, h1, ⟨addBy_ok Lo.int w1.ok, winAdd w1.win w2.win, Nat.le_trans (addBy_len _ _ _) (by omega)⟩, hk, ?_⟩
  exact fun v' H' m S' hp => q v' H' (m1.trans m) S' hp
abbrev p4 : List Str := ["self", "word", "one", "other"]
theorem scByWord : FnScope p4 p4 (defScope sByWord) := ⟨rfl, rfl, rfl, by decide +kernel, rfl, by decide +kernel, by decide +kernel⟩
def spByWord (P : Program) (w : World) (K : PySem.W.Frag) (C : Addr) : Sp := fun vs H Q _ => ∃ (x d r : Addr) (ks : List AKey) (wd : Str) (v u : V) (p q : PS), vs = [.ref x, .str wd, v, u] ∧ SumsAt P w K C H x d r ks ∧ PsAt K H v p ∧ PsAt K H u q ∧ Wk ks 900 p ∧ Wk ks 900 q ∧ p.2.length + q.2.length < 64 ∧ ks.length ≤ 5000 ∧
  spEnd P w K C H x d r (joinP ks wd p q) Q
structure MsD (K : PySem.W.Frag) (C : Addr) (f1 f2 f3 f4 f5 f6 f7 : Addr) (fd1 fd2 fd3 fd4 fd5 fd6 fd7 : FuncData) : Prop where
  plus : MDef K C "plus" "Sums.plus" sPlus p3 f1 fd1
  less : MDef K C "less" "Sums.less" sLess p3 f2 fd2
  times : MDef K C "times" "Sums.times" sTimes p3 f3 fd3
  over : MDef K C "over" "Sums.over" sOver p3 f4 fd4
  below : MDef K C "below" "Sums.below" sBelow p3 f5 fd5
  nought : MDef K C "nought" "Sums.nought" sNought ["self", "one"] f6 fd6
  same : MDef K C "same" "Sums.same" sSame p3 f7 fd7
variable {f1 f2 f3 f4 f5 f6 f7 : Addr} {fd1 fd2 fd3 fd4 fd5 fd6 fd7 : FuncData}
theorem strEq (a b : Str) : decide (V.str a = V.str b) = decide (a = b) := by
  by_cases h : a = b
  · rw [h, decide_eq_true rfl, decide_eq_true rfl]
  · rw [decide_eq_false h, decide_eq_false fun z => h (V.str.inj z)]
theorem ok_byWord {f : Addr} {fd : FuncData} {k : Nat} (F : Fun K "by_word" "Sums.by_word" sByWord f fd) (T : Txt K mg C) (G : Glob K mg pW pN) (W : WdD K mg C fA fM fT fS fP fC fJ fdA fdM fdT fdS fdP fdC fdJ) (M : MsD K C f1 f2 f3 f4 f5 f6 f7 fd1 fd2 fd3 fd4 fd5 fd6 fd7) :
    FnOk P w K mg base CX0 (k + 5) f fd p4 (spByWord P w K C) := by
  have G1 : FnOk P w K mg base CX0 (k + 4) f1 fd1 p3 (spBin P w K C fun ks p q => (ks, addP p q 1)) := ok_plus M.plus.fn G W.a
  have G2 : FnOk P w K mg base CX0 (k + 4) f2 fd2 p3 (spBin P w K C fun ks p q => (ks, addP p q 65535)) := ok_less M.less.fn G W.a W.m
  have G3 : FnOk P w K mg base CX0 (k + 4) f3 fd3 p3 (spBin P w K C timesP) := ok_times M.times.fn T G W.m W.two
  have G4 : FnOk P w K mg base CX0 (k + 4) f4 fd4 p3 (spBin P w K C overP) := ok_over M.over.fn T G W.two
  have G5 : FnOk P w K mg base CX0 (k + 4) f5 fd5 p3 (spBin P w K C belowP) := ok_below M.below.fn T G W.two
  have G7 : FnOk P w K mg base CX0 (k + 4) f7 fd7 p3 (spBin P w K C fun ks p q => noughtP ks (addP p q 65535)) := ok_same M.same.fn T G W M.less M.nought
  refine F.ok scByWord (fun vs H Q E h => ?_) (fun cdv A outer s H vs Q E hr h => ?_)
  · obtain ⟨x, d, r, ks, wd, v, u, p, q, rfl, _⟩ := h
    rfl
  obtain ⟨x, d, r, ks, wd, v, u, p, p2, rfl, S, hv, hu, w1, w2, hz, hk, q⟩ := h
  refine ⟨_, pss_cons (ps_if (pt_cmpR op_eq (pv 1) pe_str (nomark _)) (pss_one (ps_ret (pe_meth (pv 0) T.cl M.plus.m G1 hr M.plus.b .nil pass0 (pa_cons (pv 2) (pa_cons (pv 3) pa_nil))))) pss_nil)
    (pss_cons (ps_if (pt_cmpR op_eq (pv 1) pe_str (nomark _)) (pss_one (ps_ret (pe_meth (pv 0) T.cl M.less.m G2 hr M.less.b .nil pass0 (pa_cons (pv 2) (pa_cons (pv 3) pa_nil))))) pss_nil)
    (pss_cons (ps_if (pt_cmpR op_eq (pv 1) pe_str (nomark _)) (pss_one (ps_ret (pe_meth (pv 0) T.cl M.times.m G3 hr M.times.b .nil pass0 (pa_cons (pv 2) (pa_cons (pv 3) pa_nil))))) pss_nil)
    (pss_cons (ps_if (pt_cmpR op_eq (pv 1) pe_str (nomark _)) (pss_one (ps_ret (pe_meth (pv 0) T.cl M.over.m G4 hr M.over.b .nil pass0 (pa_cons (pv 2) (pa_cons (pv 3) pa_nil))))) pss_nil)
    (pss_one (ps_ret (pe_ifExp (pt_cmpR op_eq (pv 1) pe_str (nomark _)) (pe_meth (pv 0) T.cl M.below.m G5 hr M.below.b .nil pass0 (pa_cons (pv 2) (pa_cons (pv 3) pa_nil))) (pe_meth (pv 0) T.cl M.same.m G7 hr M.same.b .nil pass0 (pa_cons (pv 2) (pa_cons (pv 3) pa_nil))))))))), ?_⟩
  obtain ⟨dx, d2, r2, ox⟩ := S.ob
  unfold joinP at q
  refine ⟨_, rfl, rfl, _, rfl, ?_⟩
  rw [strEq]
  refine iteD (fun c => ?_) (fun c => ?_)
  · rw [if_pos c] at q
    exact ⟨_, rfl, x, dx, _, rfl, ox, flds_no _ _ _ _ (by decide +kernel), _, rfl, _, rfl, x, d, r, ks, v, u, p, p2, rfl, S, hv, hu, w1, w2, hz, hk, q⟩
  rw [if_neg c] at q
  refine ⟨_, rfl, rfl, _, rfl, ?_⟩
  rw [strEq]
  refine iteD (fun c => ?_) (fun c => ?_)
  · rw [if_pos c] at q
    exact ⟨_, rfl, x, dx, _, rfl, ox, flds_no _ _ _ _ (by decide +kernel), _, rfl, _, rfl, x, d, r, ks, v, u, p, p2, rfl, S, hv, hu, w1, w2, hz, hk, q⟩
  rw [if_neg c] at q
  refine ⟨_, rfl, rfl, _, rfl, ?_⟩
  rw [strEq]
  refine iteD (fun c => ?_) (fun c => ?_)
  · rw [if_pos c] at q
    exact ⟨_, rfl, x, dx, _, rfl, ox, flds_no _ _ _ _ (by decide +kernel), _, rfl, _, rfl, x, d, r, ks, v, u, p, p2, rfl, S, hv, hu, w1, w2, hz, hk, q⟩
  rw [if_neg c] at q
  refine ⟨_, rfl, rfl, _, rfl, ?_⟩
  rw [strEq]
  refine iteD (fun c => ?_) (fun c => ?_)
  · rw [if_pos c] at q
    exact ⟨_, rfl, x, dx, _, rfl, ox, flds_no _ _ _ _ (by decide +kernel), _, rfl, _, rfl, x, d, r, ks, v, u, p, p2, rfl, S, hv, hu, w1, w2, hz, hk, q⟩
  rw [if_neg c] at q
  refine ⟨_, rfl, rfl, _, rfl, ?_⟩
  rw [strEq]
  refine iteD (fun c => ?_) (fun c => ?_)
  · rw [if_pos c] at q
    exact ⟨_, rfl, x, dx, _, rfl, ox, flds_no _ _ _ _ (by decide +kernel), _, rfl, _, rfl, x, d, r, ks, v, u, p, p2, rfl, S, hv, hu, w1, w2, hz, hk, q⟩
  · rw [if_neg c] at q
    exact ⟨_, rfl, x, dx, _, rfl, ox, flds_no _ _ _ _ (by decide +kernel), _, rfl, _, rfl, x, d, r, ks, v, u, p, p2, rfl, S, hv, hu, w1, w2, hz, hk, q⟩
/-! ### sum_of: its lambda is that of are_same -/
abbrev sSumOf : Stmt := topS 18
abbrev sAreSame : Stmt := topS 19
def lamE : Expr := match defBody sAreSame with
  | [_, .Assign _ (.ListComp (.Call _ [_, _, l] _ _) _ _ _) _, _] => l
  | _ => .Name "" ⟨0, 0, 0, 0⟩
def lamA : Arguments := match lamE with
  | .Lambda a _ _ _ => a
  | _ => defArgs sAreSame
def lamB : Expr := match lamE with
  | .Lambda _ b _ _ => b
  | e => e
def lamS : Scope := match lamE with
  | .Lambda _ _ s _ => s
  | _ => defScope sAreSame
def lamP : Pos := match lamE with
  | .Lambda _ _ _ p => p
  | _ => ⟨0, 0, 0, 0⟩
theorem nsLam : NScope ["leaf", "sums"] ["leaf"] ["sums"] lamS := nscope_by (by decide +kernel)
theorem code_nd {q : Str} {d : Addr} {ys : List (NestedKey × Addr × V)} : CodeO d q ≠ ndO P w d ys := by
  intro e
  unfold CodeO ndO at e
  injection e with e
  have z := congrFun e { objs := Array.replicate (d + 1) { cls := .none, dict := none, data := .fields #[.none, .str q 0] } }
  have g : Heap.get? { objs := Array.replicate (d + 1) ({ cls := .none, dict := none, data := .fields #[.none, .str q 0] } : Obj) } d = some { cls := .none, dict := none, data := .fields #[.none, .str q 0] } := by
    unfold Heap.get?
    rw [Array.getElem?_replicate]
    simp
  have l : ∃ (oc : Obj) (vs : Array Value) (t : Tok), Heap.get? { objs := Array.replicate (d + 1) ({ cls := .none, dict := none, data := .fields #[.none, .str q 0] } : Obj) } d = some oc ∧ oc.data = .fields vs ∧ vs[1]? = some (.str q t) := ⟨_, _, 0, g, rfl, rfl⟩
  rw [z] at l
  obtain ⟨_, xs, _, o, es, ep, h1, _, h2, _⟩ := l
  rw [g] at h1
  cases h1
  cases h2
theorem SumsAt.code {H : Hp} {x d r : Addr} {ks : List AKey} (S : SumsAt P w K C H x d r ks) {c : Addr} {q : Str} (h : H c = some (CodeO c q)) : c ≠ d ∧ c ≠ r := by
  refine ⟨fun e => ?_, fun e => ?_⟩
  · subst e
    obtain ⟨ys, hn, _⟩ := S.dc
    rcases hn.at_ with z | ⟨_, z⟩
    · rw [h] at z
      exact code_nd (Option.some.inj z)
    · rw [h] at z
      cases z
  · subst e
    obtain ⟨rs, z, _⟩ := S.rs
    rw [h] at z
    cases z
theorem SumsAt.tabs {H H' : Hp} {x d r : Addr} {ks : List AKey} (S : SumsAt P w K C H x d r ks) (m : Mk d r H H') {T : List (Addr × Str)} (t : Tabs T H) : Tabs T H' := fun p hp => by
  obtain ⟨ps, h1, h2, h3⟩ := t p hp
  have nd : p.1 ≠ d := fun e => by
    rw [e] at h1
    rcases S.ext with ⟨φ, z⟩ | z <;> rw [z] at h1 <;> cases h1
  have nr : p.1 ≠ r := fun e => by
    rw [e] at h1
    obtain ⟨rs, z, _⟩ := S.rs
    rw [z] at h1
    cases h1
  refine ⟨ps, m.keep _ _ h1 nd nr, h2, fun pos cv hc => ?_⟩
  obtain ⟨c, e1, e2⟩ := h3 pos cv hc
  have n := S.code e2
  exact ⟨c, e1, m.keep _ _ e2 n.1 n.2⟩
abbrev nSumOf : List Str := ["sums", "term", "told", "worth", "one", "other", "part"]
theorem scSumOf : FnScope nSumOf ["sums", "term", "told"] (defScope sSumOf) := ⟨rfl, rfl, rfl, by decide +kernel, rfl, by decide +kernel, by decide +kernel⟩
def spSumOf (P : Program) (w : World) (K : PySem.W.Frag) (C : Addr) (n : Nat) (F : NF) (fl : Addr) (ws : List (Option V)) : Sp := fun vs H Q _ => ∃ (x d r : Addr) (ks : List AKey) (v : V) (t : Trm), vs = [.ref x, v, .ref fl] ∧ ws = [some (.ref x)] ∧ SumsAt P w K C H x d r ks ∧ TmAt K H v t ∧ Trm.dep t ≤ n ∧ t.Good ∧
  H F.c = some (CodeO F.c F.qual) ∧ ks.length + 2 * Trm.lv t ≤ 5000 ∧ Trm.lv t < 64 ∧ spEnd P w K C H x d r (sumP ks t) Q
end
end K15
set_option Elab.async false
set_option linter.all false
set_option maxRecDepth 100000
set_option maxHeartbeats 4000000
namespace K15
open PySem PySem.Spec PyProof.Rows L2 NR SU SA NC ND KG KL LamX NdefX NL
section
variable {P : Program} {w : World} {K : PySem.W.Frag} {mg : Str → Option Value} {base : Heap} {pW pN C : Addr}
variable {fA fM fT fS fP fC fJ : Addr} {fdA fdM fdT fdS fdP fdC fdJ : FuncData}
variable {f1 f2 f3 f4 f5 f6 f7 : Addr} {fd1 fd2 fd3 fd4 fd5 fd6 fd7 : FuncData}
theorem inV_str {x : Str} {l : List Str} (h : x ∈ l) : inV (.str x) (l.map V.str) = true := by
  unfold inV
  rw [List.any_map, List.any_eq_true]
  exact ⟨x, h, by simp [eqV]⟩
theorem ninV_str {x : Str} {l : List Str} (h : x ∉ l) : inV (.str x) (l.map V.str) = false := by
  unfold inV
  rw [List.any_map, List.any_eq_false]
  intro y hy z
  have z' : (y == x) = true := z
  exact h ((beq_iff_eq.mp z') ▸ hy)
theorem six_ne {w : Str} (h : w ∈ SU.six) : w ≠ "num" := fun e => by
  rw [e] at h
  exact absurd h (by decide +kernel)
/-- what sum_of rests on -/
structure SoD (K : PySem.W.Frag) (mg : Str → Option Value) (C : Addr) (fO fN fL fB : Addr) (fdO fdN fdL fdB : FuncData) : Prop where
  o : Def K mg "sum_of" sSumOf ["sums", "term", "told"] fO fdO
  n : MDef K C "number" "Sums.number" sNumber ["self", "many"] fN fdN
  l : MDef K C "leaf" "Sums.leaf" sLeaf ["self", "key"] fL fdL
  b : MDef K C "by_word" "Sums.by_word" sByWord p4 fB fdB
variable {fO fN fL fB : Addr} {fdO fdN fdL fdB : FuncData}
theorem tk_lst {H : Hp} {D : Addr} {acc : List V} {o : HO} (h : H D = some (.lst acc)) : Tk H (upd H D o) := Tk.upd (by rw [h]; exact fun _ z => nomatch z) (by rw [h]; exact fun _ _ z => nomatch z)
/-- a list that is none of the sums' is changed -/
theorem SumsAt.put {H : Hp} {x d r D : Addr} {ks : List AKey} {acc : List V} {o : HO} (S : SumsAt P w K C H x d r ks) (hD : H D = some (.lst acc)) (nr : D ≠ r) : SumsAt P w K C (upd H D o) x d r ks := by
  obtain ⟨dx, d2, r2, h⟩ := S.ob
  obtain ⟨ys, h1, h2⟩ := S.dc
  obtain ⟨rs, g1, g2, g3⟩ := S.rs
  have nx : x ≠ D := fun e => by
    rw [e, hD] at h
    cases h
  have nd : d ≠ D := fun e => by
    rcases S.ext with ⟨φ, z⟩ | z <;> rw [e, hD] at z <;> cases z
  have k := tk_lst (o := o) hD
  refine ⟨⟨dx, d2, r2, by rw [upd_ne nx]; exact h⟩, ⟨ys, ndTk h1 k (fun o' e => by rw [upd_ne nd]; exact e), h2⟩, ⟨rs, by rw [upd_ne nr.symm]; exact g1, g2, fun t ht => ?_⟩⟩
  obtain ⟨v, e, q1, q2⟩ := g3 t ht
  exact ⟨v, e, k.sq q1, k.sq q2⟩
theorem nonRef (a : Addr) : decide (V.ref a = V.non) = false := rfl
theorem ok_sumOf (D : SoD K mg C fO fN fL fB fdO fdN fdL fdB) (T : Txt K mg C) (G : Glob K mg pW pN) (W : WdD K mg C fA fM fT fS fP fC fJ fdA fdM fdT fdS fdP fdC fdJ) (M : MsD K C f1 f2 f3 f4 f5 f6 f7 fd1 fd2 fd3 fd4 fd5 fd6 fd7) (F : NF) (fl : Addr) (ws : List (Option V)) (pm ctv : Value) (hA : F.params = lamA) (hS : F.scope = lamS) :
    ∀ n : Nat, FnL P w K mg base F (lamO F lamB pm ctv) fl ["sums"] ws (n + 5) fO fdO ["sums", "term", "told"] (spSumOf P w K C n F fl ws)
  | 0 => ⟨fun vs H Q E h => by obtain ⟨x, d, r, ks, v, t, rfl, _⟩ := h; rfl, fun A outer s H args us vs Q _ _ _ _ _ h => by
      obtain ⟨x, d, r, ks, v, t, _, _, _, _, hd, _⟩ := h
      exact absurd (Nat.le_trans (Trm.dep_pos t) hd) (by decide)⟩
  | n + 1 => by
    have IH := ok_sumOf D T G W M F fl ws pm ctv hA hS n
    have GN : FnOk P w K mg base CX0 (0 + 1) fN fdN ["self", "many"] (spNumber K) := ok_number D.n.fn G
    have GC : FnOk P w K mg base CX0 (0 + 1) fC fdC ["worth"] (spIsCell K) := ok_isCell W.two.c.fn G
    have GB : FnOk P w K mg base CX0 (0 + 5) fB fdB p4 (spByWord P w K C) := ok_byWord D.b.fn T G W M
    have GL : FnOk P w K mg base CX0 (0 + 2) fL fdL ["self", "key"] (spLeaf P w K C) := ok_leaf D.l.fn T G W.two.s
    obtain ⟨tn, gN⟩ := G.NUM
    refine okL D.o.fn scSumOf (fun vs H Q E h => ?_) (fun cdv A outer s H vs Q hr hL h => ?_)
    · obtain ⟨x, d, r, ks, v, t, rfl, _⟩ := h
      rfl
    · obtain ⟨x, d, r, ks, v, t, rfl, hws, S, ht, hd, hg, hc, hk, hlv, q⟩ := h
      subst hws
      obtain ⟨nm, ql, pr, bd, sc, cl, c⟩ := F
      dsimp only at hA hS hc
      subst hA hS
      have h1 : Room (0 + 1) _ := hr.mono (by omega)
      have h3 : Room (2 + 1) _ := hr.mono (by omega)
      have h5 : Room (0 + 5) _ := hr.mono (by omega)
      refine ⟨_, pss_cons (ps_if (pt_cmpR op_eq (pe_ix ix_tup (pv 1) pe_int (fun _ _ => rfl)) (pe_glob (v := .str "num") (by rfl) gN ⟨_, rfl⟩) (nomark _))
          (pss_one (ps_ret (pe_meth (pv 0) T.cl D.n.m GN h1 D.n.b .nil pass0 (pa_cons (pe_ix ix_tup (pv 1) pe_int (fun _ _ => rfl)) pa_nil)))) pss_nil)
        (pss_cons (ps_if (pt_cmpR op_notIn_seq (pe_ix ix_tup (pv 1) pe_int (fun _ _ => rfl)) (pe_glob (v := .ref pW) (by rfl) G.WORDS rfl) rfl)
          (pss_cons (ps_set (i := 3) scSumOf.nd rfl (.inl rfl) (pe_lamL (i := 2) (k := 2) (tb := tMeth C "leaf" (spLeaf P w K C) [] E0 (tVar 1) (tCons (tVar 0) tNil)) nsLam hL rfl h3 (fun us hl => match us, hl with | [_], _ => rfl)
              (fun s H hr' => pe_meth (pv 1) T.cl D.l.m GL hr' D.l.b .nil pass0 (pa_cons (pv 0) pa_nil)) rfl (.inr (.inl rfl)) (pa_cons (pv 1) pa_nil)))
            (pss_one (ps_ret (pe_ifExp (PW.pt (pw_or (pt_cmpR op_isN (pv 3) pe_non (nomark _)) (pw_or1 (pt_val (pe_call GC h1 (by rfl) W.two.c.at_ W.two.c.fn.kp W.two.c.b .nil pass0 (pa_cons (pv 3) pa_nil)))))) pe_non (pv 3))))) pss_nil)
        (pss_cons (ps_asg (pe_lcF (own := [("part", 6)]) (g := gName 6) (tt := tYes) (te := fun σ H Q => tCons (tVar 0) (tCons (tVar 6) (tCons (tVar 2) tNil)) σ H fun vs H1 => spSumOf P w K C n ⟨nm, ql, lamA, bd, lamS, cl, c⟩ fl [some (.ref x)] vs H1 Q E0) rfl scSumOf.nd (pi_tup (pe_slice sl_tup (pv 1) (po_some pe_int) po_none)) (blkOk_by (own := [("part", 6)]) (N := nSumOf) (sc := defScope sSumOf) (by decide +kernel))
            (fun _ _ _ _ _ => pg_name (i := 6) scSumOf.nd rfl (Or.inl rfl)) (fun _ _ _ _ _ => pts_nil)
            (fun _ _ _ _ _ B _ => pe_callLX IH (blk_lam hL rfl B).1 (blk_lam hL rfl B).2 hr (by rfl) D.o.at_ D.o.fn.kp D.o.b (pa_cons (pv 0) (pa_cons (pv 6) (pa_cons (pv 2) pa_nil)))))
          (pg_unl rfl (pgs_cons (pg_name (i := 4) scSumOf.nd rfl (.inl rfl)) (pgs_cons (pg_name (i := 5) scSumOf.nd rfl (.inl rfl)) pgs_nil))))
        (pss_one (ps_ret (pe_ifExp (PW.pt (pw_or (pt_cmpR op_isN (pv 4) pe_non (nomark _)) (pw_or1 (pt_cmpR op_isN (pv 5) pe_non (nomark _))))) pe_non
          (pe_meth (pv 0) T.cl D.b.m GB h5 D.b.b .nil pass0 (pa_cons (pe_ix ix_tup (pv 1) pe_int (fun _ _ => rfl)) (pa_cons (pv 4) (pa_cons (pv 5) pa_nil))))))))), ?_⟩
      obtain ⟨dx, d2, r2, ox⟩ := S.ob
      cases ht with
      | @num p kk h0 =>
        refine ⟨_, rfl, p, _, 0, _, rfl, rfl, h0, rfl, rfl, _, rfl, ?_⟩
        rw [decide_eq_true rfl]
        refine iteT ⟨_, rfl, x, dx, _, rfl, ox, flds_no _ _ _ _ (by decide +kernel), _, rfl, p, _, 1, _, rfl, rfl, h0, rfl, _, _, rfl, fun v' H' sm hp => ?_⟩
        exact q v' H' (Mk.of sm) (S.same sm) hp
      | @nam p nmx h0 =>
        refine ⟨_, rfl, p, _, 0, _, rfl, rfl, h0, rfl, rfl, _, rfl, ?_⟩
        rw [strEq, decide_eq_false (by decide +kernel)]
        refine iteF ⟨_, rfl, p, _, 0, _, rfl, rfl, h0, rfl, pW, _, rfl, .inr (G.words _), rfl, rfl, _, rfl, ?_⟩
        show if (!inV (.str "name") (SU.six.map V.str)) = true then _ else _
        rw [ninV_str (by decide +kernel)]
        refine iteT ⟨rfl, _, rfl, rfl, hc, _, rfl, x, dx, _, rfl, ox, flds_no _ _ _ _ (by decide +kernel), _, rfl, x, d, r, p, ks, nmx, rfl, S, h0, by omega, fun v1 H1 m1 S1 hp1 => ?_⟩
        obtain ⟨a1, b1, ts1, rfl, g1, g2, g3⟩ := id hp1
        refine ⟨_, rfl, rfl, _, rfl, ?_⟩
        rw [nonRef]
        refine iteF ⟨_, rfl, a1, _, _, rfl, g1, _, rfl, iteF ?_⟩
        exact ⟨_, rfl, q _ _ m1 S1 hp1⟩
      | @op p wd v1 v2 t1 t2 hw h0 ht1 ht2 =>
        have hd1 : Trm.dep t1 ≤ n := by
          have : max (Trm.dep t1) (Trm.dep t2) + 1 ≤ n + 1 := hd
          omega
        have hd2 : Trm.dep t2 ≤ n := by
          have : max (Trm.dep t1) (Trm.dep t2) + 1 ≤ n + 1 := hd
          omega
        have lk : ks.length + 2 * (Trm.lv t1 + Trm.lv t2) ≤ 5000 := hk
        have lv : Trm.lv t1 + Trm.lv t2 < 64 := hlv
        obtain ⟨w1, l1, l1'⟩ := sumP_wk t1 ks
        obtain ⟨w2, l2, l2'⟩ := sumP_wk t2 (sumP ks t1).1
        refine ⟨_, rfl, p, _, 0, _, rfl, rfl, h0, rfl, rfl, _, rfl, ?_⟩
        rw [strEq, decide_eq_false (six_ne hw)]
        refine iteF ⟨_, rfl, p, _, 0, _, rfl, rfl, h0, rfl, pW, _, rfl, .inr (G.words _), rfl, rfl, _, rfl, ?_⟩
        show if (!inV (.str wd) (SU.six.map V.str)) = true then _ else _
        rw [inV_str hw]
        refine iteF ⟨_, rfl, _, rfl, p, _, rfl, h0, (by show ¬ (HT.sIx 3 0 (some 1) = 0 ∧ HT.sIx 3 3 none = 3); decide), fun sl hsl => ⟨sl, rfl, ⟨_, sq_new⟩, fun D hD => ?_⟩⟩
        have s1 := same_new (o := .tup (cutV [.str wd, v1, v2] (some 1) none)) hsl
        have e1 : SqT K (upd H sl (.tup (cutV [.str wd, v1, v2] (some 1) none))) sl [v1, v2] := sq_new
        revert hD s1 e1
        generalize upd H sl (.tup (cutV [.str wd, v1, v2] (some 1) none)) = H1
        intro hD s1 e1
        have S1 := S.same s1
        have nDr : D ≠ r := fun e => by
          obtain ⟨rs, z, _⟩ := S1.rs
          rw [← e, hD] at z
          cases z
        have nDd : D ≠ d := fun e => by
          rcases S1.ext with ⟨φ, z⟩ | z <;> rw [← e, hD] at z <;> cases z
        have nHD : H D = none := s1.free hD
        have mput : ∀ {H2 : Hp} {o : HO} {acc : List V}, Mk d r H H2 → H2 D = some (.lst acc) → Mk d r H (upd H2 D o) := fun {H2 o acc} m h => ⟨fun b o' z n1 n2 => by rw [upd_ne (ne_of_none z nHD)]; exact m.keep b o' z n1 n2, m.tk.trans (tk_lst h)⟩
        refine lc_tup (K := K) (a := sl) (xs := [v1, v2]) (g := gName 6) (tt := tYes) (te := fun σ H Q => tCons (tVar 0) (tCons (tVar 6) (tCons (tVar 2) tNil)) σ H fun vs H1 => spSumOf P w K C n ⟨nm, ql, lamA, bd, lamS, cl, c⟩ fl [some (.ref x)] vs H1 Q E0) (fun i H' => Mk d r H H' ∧ SqT K H' sl [v1, v2] ∧ (i = 0 → SumsAt P w K C H' x d r ks ∧ H' D = some (.lst [])) ∧ (i = 1 → ∃ y1, SumsAt P w K C H' x d r (sumP ks t1).1 ∧ H' D = some (.lst [y1]) ∧ PsAt K H' y1 (sumP ks t1).2) ∧
          (i = 2 → ∃ y1 y2, SumsAt P w K C H' x d r (sumP (sumP ks t1).1 t2).1 ∧ H' D = some (.lst [y1, y2]) ∧ PsAt K H' y1 (sumP ks t1).2 ∧ PsAt K H' y2 (sumP (sumP ks t1).1 t2).2)) ?_ (fun i H' _ z => z.2.1) ?_ ?_
        · have s2 := same_new (o := .lst []) hD
          exact ⟨Mk.of (s1.trans s2), (Tk.of s2).sq e1, fun _ => ⟨S1.same s2, upd_same⟩, (fun z => absurd z (by decide)), (fun z => absurd z (by decide))⟩
        · rintro i y H' hx ⟨m, hsq, c0, c1, c2⟩
          match i, hx with
          | 0, hx =>
            cases hx
            obtain ⟨S2, e2⟩ := c0 rfl
            have nc := S.code hc
            refine ⟨rfl, _, rfl, _, rfl, _, rfl, x, d, r, ks, v1, t1, rfl, rfl, S2, ht1.tk m.tk, hd1, hg.2.1, m.keep _ _ hc nc.1 nc.2, by omega, by omega, fun y1 H2 m2 S3 hp => ?_⟩
            have e3 := m2.keep _ _ e2 nDd nDr
            refine ⟨[], e3, (by show 0 < sizeLine; decide), mput (m.trans m2) e3, (tk_lst e3).sq (m2.tk.sq hsq), (fun z => absurd z (by decide)), (fun _ => ⟨y1, S3.put e3 nDr, upd_same, hp.tk (tk_lst e3)⟩), (fun z => absurd z (by decide))⟩
          | 1, hx =>
            cases hx
            obtain ⟨y1, S2, e2, hp1⟩ := c1 rfl
            have nc := S.code hc
            refine ⟨rfl, _, rfl, _, rfl, _, rfl, x, d, r, (sumP ks t1).1, v2, t2, rfl, rfl, S2, ht2.tk m.tk, hd2, hg.2.2, m.keep _ _ hc nc.1 nc.2, by omega, by omega, fun y2 H2 m2 S3 hp => ?_⟩
            have e3 := m2.keep _ _ e2 nDd nDr
            refine ⟨[y1], e3, (by show 1 < sizeLine; decide), mput (m.trans m2) e3, (tk_lst e3).sq (m2.tk.sq hsq), (fun z => absurd z (by decide)), (fun z => absurd z (by decide)), (fun _ => ⟨y1, y2, S3.put e3 nDr, upd_same, (hp1.tk m2.tk).tk (tk_lst e3), hp.tk (tk_lst e3)⟩)⟩
          | j + 2, hx => exact absurd hx (by simp)
        · rintro H2 ⟨m, hsq, c0, c1, c2⟩
          obtain ⟨y1, y2, S2, e2, hp1, hp2⟩ := c2 rfl
          refine ⟨D, _, rfl, SL e2, rfl, _, _, rfl, _, _, rfl, rfl, ?_⟩
          obtain ⟨a1, b1, ts1, rfl, g1⟩ := id hp1
          obtain ⟨a2, b2, ts2, rfl, g2⟩ := id hp2
          obtain ⟨dx', d2', r2', ox'⟩ := S2.ob
          refine ⟨_, rfl, rfl, _, rfl, ?_⟩
          rw [nonRef]
          refine iteF ⟨_, rfl, rfl, _, rfl, ?_⟩
          rw [nonRef]
          refine iteF ⟨_, rfl, x, dx', _, rfl, ox', flds_no _ _ _ _ (by decide +kernel), _, rfl, p, _, 0, _, rfl, rfl, m.tk.sq h0, rfl, _, rfl, _, rfl, x, d, r, _, wd, _, _, _, _, rfl, S2, hp1, hp2, (w1.more l2).le (by omega), w2.le (by omega), ?_, by omega, ?_⟩
          · have := w1.len
            have := w2.len
            omega
          · exact fun v' H' m' S' hp => q v' H' (m.trans m') S' hp
end
end K15
set_option Elab.async false
set_option linter.all false
set_option maxRecDepth 100000
set_option maxHeartbeats 4000000
namespace K15
open PySem PySem.Spec PyProof.Rows L2 NR SU SA NC ND KG KL LamX NdefX NL
/-- a def whose code object is known -/
structure DefC (K : PySem.W.Frag) (mg : Str → Option Value) (x : Str) (st : Stmt) (ps : List Str) (f c : Addr) (fd : FuncData) : Prop where
  ex : ∃ (oc : Value) (od : Option Addr) (kV doc pm : Value) (an : Option Addr) (ct : Value) (osl : Array (Option Value)),
    fd = PySem.W.fnOf x x (defArgs st) (defBody st) (defScope st) .none kV doc pm an (.ref c) ct ∧ K.lookup f = some ⟨oc, od, .func fd, osl⟩ ∧ PySem.W.codeIn K (.ref c) x = true
  kp : PySem.W.keepIn K (.ref f) = true
  at_ : mg x = some (.ref f)
  b : Binds K fd ps []
theorem tk_ext {H H' : Hp} (e : ExtN H H') : Tk H H' := ⟨fun b xs h => e b _ h (fun ps z => nomatch z), fun b o u h => e b _ h (fun ps z => nomatch z)⟩
theorem same_ext {H H' : Hp} (s : Same H H') : ExtN H H' := fun b o h _ => s b o h
section
variable {P : Program} {w : World} {K : PySem.W.Frag} {mg : Str → Option Value} {base : Heap} {pW pN C : Addr}
variable {fA fM fT fS fP fC fJ : Addr} {fdA fdM fdT fdS fdP fdC fdJ : FuncData}
variable {f1 f2 f3 f4 f5 f6 f7 : Addr} {fd1 fd2 fd3 fd4 fd5 fd6 fd7 : FuncData}
variable {fO fN fL fB : Addr} {fdO fdN fdL fdB : FuncData}
theorem SumsAt.extN {H H' : Hp} {x d r : Addr} {ks : List AKey} (S : SumsAt P w K C H x d r ks) (s : ExtN H H') : SumsAt P w K C H' x d r ks := by
  obtain ⟨dx, d2, r2, h⟩ := S.ob
  obtain ⟨ys, h1, h2⟩ := S.dc
  obtain ⟨rs, g1, g2, g3⟩ := S.rs
  have nt : ∀ o, H d = some o → ∀ ps, o ≠ .tbl ps := fun o e ps z => by
    rcases S.ext with ⟨φ, y⟩ | y <;> rw [y] at e <;> cases e <;> cases z
  refine ⟨⟨dx, d2, r2, s _ _ h (fun ps z => nomatch z)⟩, ⟨ys, ndTk h1 (tk_ext s) (fun o e => s _ _ e (nt o e)), h2⟩, ⟨rs, s _ _ g1 (fun ps z => nomatch z), g2, fun t ht => ?_⟩⟩
  obtain ⟨v, e, q1, q2⟩ := g3 t ht
  exact ⟨v, e, (tk_ext s).sq q1, (tk_ext s).sq q2⟩
abbrev nAre : List Str := ["one", "other", "sums", "here", "there", "term"]
theorem scAre : FnScope nAre ["one", "other"] (defScope sAreSame) := ⟨rfl, rfl, rfl, by decide +kernel, rfl, by decide +kernel, by decide +kernel⟩
abbrev lamQ : Str := "are_same.<locals>.<lambda>"
def spAre (K : PySem.W.Frag) (T : List (Addr × Str)) : Sp := fun vs H Q _ => ∃ (v u : V) (t t' : Trm), vs = [v, u] ∧ TmAt K H v t ∧ TmAt K H u t' ∧ Trm.dep t ≤ 6 ∧ Trm.dep t' ≤ 6 ∧ t.Good ∧ t'.Good ∧ Tabs T H ∧
  ∀ H', ExtN H H' → Tabs T H' → Q (.bl (decide (sumL t = sumL t'))) H'
theorem lv6 {t : Trm} (h : Trm.dep t ≤ 6) : Trm.lv t ≤ 32 := by
  have z := Trm.lv_le t
  have y : 2 ^ Trm.dep t ≤ 2 ^ 6 := Nat.pow_le_pow_right (by decide) h
  have e : (2 : Nat) ^ 6 = 64 := by decide
  omega
theorem tabs_lst {T : List (Addr × Str)} {H : Hp} {D : Addr} {acc : List V} {o : HO} (t : Tabs T H) (h : H D = some (.lst acc)) : Tabs T (upd H D o) := fun p hp => by
  obtain ⟨ps, h1, h2, h3⟩ := t p hp
  have ne : p.1 ≠ D := fun e => by
    rw [e, h] at h1
    cases h1
  refine ⟨ps, by rw [upd_ne ne]; exact h1, h2, fun pos cv hc => ?_⟩
  obtain ⟨c, e1, e2⟩ := h3 pos cv hc
  have nc : c ≠ D := fun e => by
    rw [e, h] at e2
    cases e2
  exact ⟨c, e1, by rw [upd_ne nc]; exact e2⟩
theorem are_names : ∀ y ∈ ([(".0", .local), ("term", .local), ("sum_of", .globalImplicit), ("sums", .free)] : List (Str × NameKind)), y.2 = .free → (defScope sAreSame).names.lookup y.1 = some .cell ∨ (defScope sAreSame).names.lookup y.1 = some .free := by decide +kernel
theorem lam_free : ∀ y ∈ lamS.names, y.2 = NameKind.free → y.1 = "sums" := by decide +kernel
theorem ok_are {f c PT fI : Addr} {fd fdI : FuncData} (D : DefC K mg "are_same" sAreSame ["one", "other"] f c fd) (DO : SoD K mg C fO fN fL fB fdO fdN fdL fdB) (T : Txt K mg C) (G : Glob K mg pW pN) (W : WdD K mg C fA fM fT fS fP fC fJ fdA fdM fdT fdS fdP fdC fdJ) (M : MsD K C f1 f2 f3 f4 f5 f6 f7 fd1 fd2 fd3 fd4 fd5 fd6 fd7)
    (MK : L2.Mk K C fI) (DI : Fun K "__init__" "Sums.__init__" sInit fI fdI) (bI : Binds K fdI ["self"] []) (TB : TabB base mg c PT) : FnOk P w K mg base CX0 12 f fd ["one", "other"] (spAre K [(PT, lamQ)]) := by
  have GI : FnOk P w K mg base CX0 (9 + 1) fI fdI ["self"] (spInit P w K C) := ok_init DI T
  obtain ⟨oc, od, kV, doc, pm, an, ct, osl, rfl, lk, hcd⟩ := D.ex
  refine fn_of lk hcd scAre (fun vs H Q E h => ?_) (fun A outer s H vs Q E hr h => ?_)
  · obtain ⟨v, u, t, t', rfl, _⟩ := h
    rfl
  · obtain ⟨v, u, t, t', rfl, ht, ht', hd, hd', hg, hg', hT, q⟩ := h
    have dv : ∃ tt, PSs (cxOf CX0 P w K mg base nAre "are_same" (defScope sAreSame) f (.ref c) A outer s H E).nox (defBody sAreSame) tt ∧ tt { nx := fun _ H' => Q .non H', rt := Q } (start nAre [v, u]) H := by
      refine ⟨_, pss_cons (ps_set (i := 2) scAre.nd rfl (.inr rfl) (pe_make0 MK GI hr rfl T.mgC bI .nil pass0))
        (pss_cons (ps_asg (pe_lcF (own := [("term", 5)]) (g := gName 5) (tt := tYes) (te := fun σ H Q => tVar 2 σ H fun w0 H0 => tVar 5 σ H0 fun v H1 => Tabs [(PT, lamQ)] H1 ∧ ∀ (F : NF) (fl : Addr) (H2 : Hp), ExtN H1 H2 → Tabs [(PT, lamQ)] H2 → H2 F.c = some (CodeO F.c F.qual) → spSumOf P w K C 6 F fl ([2].map (slotAt σ)) [w0, v, .ref fl] H2 Q E0)
            rfl scAre.nd (pi_tup (pe_tup (pa_cons (pv 0) (pa_cons (pv 1) pa_nil)))) (blkOk_by (own := [("term", 5)]) (N := nAre) (sc := defScope sAreSame) (by decide +kernel))
            (fun _ _ _ _ _ => pg_name (i := 5) scAre.nd rfl (Or.inl rfl)) (fun _ _ _ _ _ => pts_nil)
            (fun sB HB CB clB fpB B ecl => pe_makeLX (T := [(PT, lamQ)]) (c := c) (P := PT) (lparams := lamA) (body := lamB) (lscope := lamS) (lpos := lamP) (fr := ["sums"]) (js := [2]) (sp := fun F fl σ => spSumOf P w K C 6 F fl ([2].map (slotAt σ)))
              TB rfl (List.mem_cons_self ..) (fun p hp _ => by cases List.mem_singleton.mp hp; rfl) rfl (fun y hy ey => by rw [lam_free y hy ey]; exact .inl rfl) (by decide +kernel) rfl
              (fun y hy ey cc e => blk_out B ecl (fun _ => rfl) rfl are_names y.1 cc e)
              (fun F fl pm ctv σ _ _ hA hS => ok_sumOf DO T G W M F fl _ pm ctv hA hS 6) hr (by rfl) DO.o.at_ DO.o.fn.kp DO.o.b (pv 2) (pv 5)))
          (pg_unl rfl (pgs_cons (pg_name (i := 3) scAre.nd rfl (.inl rfl)) (pgs_cons (pg_name (i := 4) scAre.nd rfl (.inl rfl)) pgs_nil))))
        (pss_one (ps_ret (pe_cmpR (op_eqD hr.units) (pv 3) (pv 4) (nomark _))))), ?_⟩
      intro x dx nx ndx nex
      refine ⟨x, dx, rfl, upd_same, fun d r H1 hd1 hr1 S1 kp => ⟨rfl, ?_⟩⟩
      have s0 : Same H (upd (upd H dx (.own x)) x (.ins C dx [])) := fun b o e => by
        rw [upd_ne (ne_of_none e nx), upd_ne (ne_of_none e ndx)]
        exact e
      have s1 : Same H H1 := fun b o e => kp b o (s0 b o e) (ne_of_none e nx)
      have nHd : H d = none := s0.free hd1
      have nHr : H r = none := s0.free hr1
      refine ⟨_, rfl, _, rfl, (by show 2 ≤ sizeLine; decide), fun tp htp => ⟨tp, rfl, ⟨_, sq_new⟩, fun D hD => ?_⟩⟩
      have s2 := same_new (o := .tup [v, u]) htp
      have e2 : SqT K (upd H1 tp (.tup [v, u])) tp [v, u] := sq_new
      revert hD s2 e2
      generalize upd H1 tp (.tup [v, u]) = H2
      intro hD s2 e2
      have s12 := s1.trans s2
      have S2 := S1.same s2
      have nDr : D ≠ r := fun e => by
        obtain ⟨rs, z, _⟩ := S2.rs
        rw [← e, hD] at z
        cases z
      have nDd : D ≠ d := fun e => by
        rcases S2.ext with ⟨φ, z⟩ | z <;> rw [← e, hD] at z <;> cases z
      have nHD : H D = none := s12.free hD
      have lt1 := lv6 hd
      have lt2 := lv6 hd'
      obtain ⟨w1, l1, l1'⟩ := sumP_wk t []
      have step : ∀ {H3 H4 H5 : Hp} {o : HO}, ExtN H H3 → ExtN H3 H4 → K15.Mk d r H4 H5 → ExtN H (upd H5 D o) := fun {H3 H4 H5 o} e1 e2 m b o' z nt => by
        rw [upd_ne (ne_of_none z nHD)]
        exact m.keep b o' (e2 b o' (e1 b o' z nt) nt) (ne_of_none z nHd) (ne_of_none z nHr)
      refine lc_tup (K := K) (a := tp) (xs := [v, u]) (g := gName 5) (tt := tYes) (te := fun σ H Q => tVar 2 σ H fun w0 H0 => tVar 5 σ H0 fun v H1 => Tabs [(PT, lamQ)] H1 ∧ ∀ (F : NF) (fl : Addr) (H2 : Hp), ExtN H1 H2 → Tabs [(PT, lamQ)] H2 → H2 F.c = some (CodeO F.c F.qual) → spSumOf P w K C 6 F fl ([2].map (slotAt σ)) [w0, v, .ref fl] H2 Q E0)
        (fun i H' => ExtN H H' ∧ Tabs [(PT, lamQ)] H' ∧ SqT K H' tp [v, u] ∧ (i = 0 → SumsAt P w K C H' x d r [] ∧ H' D = some (.lst [])) ∧ (i = 1 → ∃ y1, SumsAt P w K C H' x d r (sumP [] t).1 ∧ H' D = some (.lst [y1]) ∧ PsAt K H' y1 (sumP [] t).2) ∧
          (i = 2 → ∃ y1 y2, SumsAt P w K C H' x d r (sumP (sumP [] t).1 t').1 ∧ H' D = some (.lst [y1, y2]) ∧ PsAt K H' y1 (sumP [] t).2 ∧ PsAt K H' y2 (sumP (sumP [] t).1 t').2)) ?_ (fun i H' _ z => z.2.2.1) ?_ ?_
      · have s3 := same_new (o := .lst []) hD
        exact ⟨same_ext (s12.trans s3), hT.ext (s12.trans s3), (Tk.of s3).sq e2, fun _ => ⟨S2.same s3, upd_same⟩, (fun z => absurd z (by decide)), (fun z => absurd z (by decide))⟩
      · rintro i y H' hx ⟨m, hTb, hsq, c0, c1, c2⟩
        match i, hx with
        | 0, hx =>
          cases hx
          obtain ⟨S3, e3⟩ := c0 rfl
          refine ⟨rfl, _, rfl, _, rfl, hTb, fun F fl H3 hE hT3 hc => ⟨x, d, r, [], v, t, rfl, rfl, S3.extN hE, (ht.tk (tk_ext m)).tk (tk_ext hE), hd, hg, hc, (by show 0 + 2 * Trm.lv t ≤ 5000; omega), by omega, fun y1 H4 m4 S4 hp => ?_⟩⟩
          have e4 := m4.keep _ _ (hE _ _ e3 (fun ps z => nomatch z)) nDd nDr
          refine ⟨[], e4, (by show 0 < sizeLine; decide), step m hE m4, tabs_lst ((S3.extN hE).tabs m4 hT3) e4, (tk_lst e4).sq (m4.tk.sq ((tk_ext hE).sq hsq)), (fun z => absurd z (by decide)), (fun _ => ⟨y1, S4.put e4 nDr, upd_same, hp.tk (tk_lst e4)⟩), (fun z => absurd z (by decide))⟩
        | 1, hx =>
          cases hx
          obtain ⟨y1, S3, e3, hp1⟩ := c1 rfl
          refine ⟨rfl, _, rfl, _, rfl, hTb, fun F fl H3 hE hT3 hc => ⟨x, d, r, (sumP [] t).1, u, t', rfl, rfl, S3.extN hE, (ht'.tk (tk_ext m)).tk (tk_ext hE), hd', hg', hc, ?_, by omega, fun y2 H4 m4 S4 hp => ?_⟩⟩
          · have z : (sumP [] t).1.length + 1 ≤ 0 + 2 * Trm.lv t := l1'
            omega
          have e4 := m4.keep _ _ (hE _ _ e3 (fun ps z => nomatch z)) nDd nDr
          refine ⟨[y1], e4, (by show 1 < sizeLine; decide), step m hE m4, tabs_lst ((S3.extN hE).tabs m4 hT3) e4, (tk_lst e4).sq (m4.tk.sq ((tk_ext hE).sq hsq)), (fun z => absurd z (by decide)), (fun z => absurd z (by decide)), (fun _ => ⟨y1, y2, S4.put e4 nDr, upd_same, ((hp1.tk (tk_ext hE)).tk m4.tk).tk (tk_lst e4), hp.tk (tk_lst e4)⟩)⟩
        | j + 2, hx => exact absurd hx (by simp)
      · rintro H3 ⟨m, hTb, hsq, c0, c1, c2⟩
        obtain ⟨y1, y2, S3, e3, hp1, hp2⟩ := c2 rfl
        refine ⟨D, _, rfl, SL e3, rfl, _, _, rfl, _, _, rfl, rfl, ?_⟩
        refine ⟨_, rfl, _, rfl, _, _, PsAt.dp hp1, PsAt.dp hp2, shaped_P _, shaped_P _, ?_⟩
        rw [eq_P]
        have ee : decide ((sumP [] t).2 = (sumP (sumP [] t).1 t').2) = decide (sumL t = sumL t') := by
          by_cases c : sumL t = sumL t'
          · rw [decide_eq_true c, decide_eq_true ((same_iff hg hg').mpr c)]
          · rw [decide_eq_false c, decide_eq_false fun z => c ((same_iff hg hg').mp z)]
        rw [ee]
        exact q _ m hTb
    obtain ⟨tt, h1, h2⟩ := dv
    exact ⟨tt, h1.nox, h2⟩
end
end K15
set_option Elab.async false
set_option linter.all false
set_option maxRecDepth 100000
set_option maxHeartbeats 4000000
namespace K15
open PySem PySem.Spec PyProof.Rows L2 KG NR SU SA
/-! ### heaps and the deck -/
theorem same_upd {H : Hp} {p : Addr} {o : HO} (h : H p = none) : Same H (upd H p o) := same_new h
structure Deck (H : Hp) (a c : Addr) : Prop where
  ex : ∃ (ns : List Int) (sd n : Int), H a = some (.lst [.ref c, .int sd, .int n]) ∧ H c = some (.lst (ns.map V.int)) ∧ ns.length ≤ 63 ∧ 0 ≤ sd ∧ sd < 2147483648
  ne : a ≠ c
/-- all but the deck is kept -/
structure Mv (a c : Addr) (H H' : Hp) : Prop where
  keep : ∀ b o, H b = some o → b ≠ a → b ≠ c → H' b = some o
  deck : Deck H' a c
theorem Mv.refl {a c : Addr} {H : Hp} (d : Deck H a c) : Mv a c H H := ⟨fun _ _ e _ _ => e, d⟩
theorem Mv.trans {a c : Addr} {H H1 H2 : Hp} (m : Mv a c H H1) (n : Mv a c H1 H2) : Mv a c H H2 := ⟨fun b o e h1 h2 => n.keep b o (m.keep b o e h1 h2) h1 h2, n.deck⟩
theorem Deck.same {a c : Addr} {H H' : Hp} (d : Deck H a c) (s : Same H H') : Deck H' a c := by
  obtain ⟨⟨ns, sd, n, h1, h2, h3⟩, ne⟩ := d
  exact ⟨⟨ns, sd, n, s _ _ h1, s _ _ h2, h3⟩, ne⟩
theorem Mv.same {a c : Addr} {H H' : Hp} (d : Deck H a c) (s : Same H H') : Mv a c H H' := ⟨fun b o e _ _ => s b o e, d.same s⟩
theorem Deck.some1 {a c : Addr} {H : Hp} (d : Deck H a c) : H a ≠ none := by
  obtain ⟨⟨ns, sd, n, h1, _⟩, _⟩ := d
  rw [h1]
  exact fun z => nomatch z
theorem Deck.some2 {a c : Addr} {H : Hp} (d : Deck H a c) : H c ≠ none := by
  obtain ⟨⟨ns, sd, n, _, h1, _⟩, _⟩ := d
  rw [h1]
  exact fun z => nomatch z
/-- what is new behind was new ahead -/
theorem Mv.free {a c : Addr} {H H' : Hp} (m : Mv a c H H') {p : Addr} (h : H' p = none) : H p = none := by
  cases q : H p with
  | none => rfl
  | some o =>
    by_cases ha : p = a
    · exact absurd (ha ▸ h) m.deck.some1
    · by_cases hc : p = c
      · exact absurd (hc ▸ h) m.deck.some2
      · rw [m.keep p o q ha hc] at h
        cases h
theorem Deck.neA {a c p : Addr} {H : Hp} (d : Deck H a c) (h : H p = none) : p ≠ a := fun e => d.some1 (e ▸ h)
theorem Deck.neC {a c p : Addr} {H : Hp} (d : Deck H a c) (h : H p = none) : p ≠ c := fun e => d.some2 (e ▸ h)
theorem dp_ints {K : PySem.W.Frag} {H : Hp} : ∀ ns : List Int, DpAll K H (ns.map V.int) (ns.map .int)
  | [] => .nil
  | n :: r => .cons (.int n) (dp_ints r)
theorem can_ints : ∀ ns : List Int, PyData.canLayAll0 (ns.map .int) = true
  | [] => rfl
  | n :: r => by
    rw [List.map_cons, PyData.canLayAll0, can_ints r]
    rfl
theorem depth_ints : ∀ ns : List Int, PyData.depthAll (ns.map .int) = 0
  | [] => rfl
  | n :: r => by
    rw [List.map_cons, PyData.depthAll, depth_ints r]
    rfl
theorem shaped_ints (ns : List Int) : SeqAt.shaped (.list (ns.map .int)) = true := by
  unfold SeqAt.shaped
  rw [PyData.canLay0, can_ints, PyData.depth, depth_ints]
  rfl
/-! ### draw -/
abbrev sDraw : Stmt := topS 22
theorem scDraw : FnScope ["_law_deck_here", "_law_many", "_law_cell", "_law_number_here"] ["_law_deck_here", "_law_many"] (defScope sDraw) := ⟨rfl, rfl, rfl, by decide +kernel, rfl, by decide +kernel, by decide +kernel⟩
section
variable {P : Program} {w : World} {K : PySem.W.Frag} {mg : Str → Option Value} {base : Heap}
def spDraw : Sp := fun vs H Q _ => ∃ (a c : Addr) (ways : Int), vs = [.ref a, .int ways] ∧ Deck H a c ∧ 0 < ways ∧ ways < 1000000 ∧
  ∀ r H', 0 ≤ r → r < ways → Mv a c H H' → Q (.int r) H'
theorem ok_draw {f : Addr} {fd : FuncData} {k : Nat} (F : Fun K "_law_draw" "_law_draw" sDraw f fd) : FnOk P w K mg base CX0 (k + 1) f fd ["_law_deck_here", "_law_many"] spDraw := by
  refine F.ok scDraw (fun vs H Q E h => ?_) (fun cdv A outer s H vs Q E hr h => ?_)
  · obtain ⟨a, c, ways, rfl, _⟩ := h
    rfl
  · obtain ⟨a, c, ways, rfl, dk, w0, w1, q⟩ := h
    have tail : ∃ t, PSs (cxOf CX0 P w K mg base ["_law_deck_here", "_law_many", "_law_cell", "_law_number_here"] "_law_draw" (defScope sDraw) f cdv A outer s H E).nox ((defBody sDraw).drop 3) t ∧
        ∀ (H2 : Hp) (x n : Int) (y sd : V), H2 a = some (.lst [.ref c, sd, .int n]) → Mv a c H H2 → t { nx := fun _ H' => Q .non H', rt := Q } [some (.ref a), some (.int ways), some (.int x), none] H2 := by
      refine ⟨_, pss_cons (ps_set (i := 3) scDraw.nd rfl (.inl rfl) (pe_op op_mod (pe_op op_mul (pe_op op_add (pe_op op_add (pe_op op_mod (pv 2) pe_int) (pe_op op_mul pe_int (pe_ix ix_list (pv 0) pe_int (fun _ _ => rfl)))) pe_int) pe_int) pe_int))
        (pss_cons (ps_set (i := 3) scDraw.nd rfl (.inl rfl) (pe_op op_mod (pe_op op_add (pe_op op_add (pe_op op_mul (pv 3) (pv 3)) (pe_op op_mul pe_int (pe_ix ix_list (pv 0) pe_int (fun _ _ => rfl)))) pe_int) pe_int))
        (pss_one (ps_ret (pe_op op_mod (pe_op op_fdiv (pe_op op_mod (pe_op op_mul (pv 3) pe_int) pe_int) pe_int) (pv 1))))), fun H2 x n y sd ha mv => ?_⟩
      refine ⟨_, rfl, _, _, rfl, rfl, (by decide : (0 : Int) < 2147483489), .ref a, rfl, a, _, 2, .int n, rfl, rfl, SL ha, rfl, _, _, rfl, rfl, .inl ⟨by decide, by decide⟩, _, _, rfl, rfl, _, _, rfl, rfl, _, _, rfl, rfl, .inr ⟨by decide, by decide⟩, _, _, rfl, rfl, (by decide : (0 : Int) < 2147483563), ?_⟩
      obtain ⟨m1, e1⟩ : ∃ m1 : Int, m1 = (x % 2147483489 + 39916801 * n + 23) * 46337 % 2147483563 := ⟨_, rfl⟩
      have b1 : 0 ≤ m1 ∧ m1 < 2147483563 := by rw [e1]; omega
      refine ⟨_, rfl, _, rfl, m1, m1, by rw [e1], by rw [e1], .inl ⟨by omega, by omega⟩, .ref a, rfl, a, _, 2, .int n, rfl, rfl, SL ha, rfl, _, _, rfl, rfl, .inl ⟨by decide, by decide⟩, _, _, rfl, rfl, _, _, rfl, rfl, _, _, rfl, rfl, (by decide : (0 : Int) < 2147483489), ?_⟩
      obtain ⟨m2, e2⟩ : ∃ m2 : Int, m2 = (m1 * m1 + 65539 * n + 5) % 2147483489 := ⟨_, rfl⟩
      have b2 : 0 ≤ m2 ∧ m2 < 2147483489 := by
        rw [e2]
        exact ⟨Int.emod_nonneg _ (by decide), Int.emod_lt_of_pos _ (by decide)⟩
      refine ⟨_, rfl, m2, _, by rw [e2], rfl, .inr ⟨by decide, by decide⟩, _, _, rfl, rfl, (by decide : (0 : Int) < 2147483563), _, _, rfl, rfl, ⟨by decide, by decide⟩, _, rfl, _, _, rfl, rfl, w0, ?_⟩
      exact q _ _ (Int.emod_nonneg _ (by omega)) (Int.emod_lt_of_pos _ w0) mv
    obtain ⟨tt, ht, hq⟩ := tail
    refine ⟨_, pss_cons (ps_asg (pe_op op_add (pe_ix ix_list (pv 0) pe_int (fun _ _ => rfl)) pe_int) (pg_sub (pv 0) pe_int set_list))
      (pss_cons (ps_set (i := 2) scDraw.nd rfl (.inl rfl) (pe_ix ix_list (pv 0) pe_int (fun _ _ => rfl)))
      (pss_cons (ps_if (pt_cmpR (op_neD hr.units) (pe_ix ix_list (pv 0) pe_int (fun _ _ => rfl)) (pe_lst pa_nil) (nomark _))
        (pss_cons (ps_set (i := 2) scDraw.nd rfl (.inl rfl) (pe_bm0 PySem.F.plainAttrs_list PySem.F.slot_list_pop PySem.F.type_list_pop mt_pop (pe_ix ix_list (pv 0) pe_int (fun _ _ => rfl))))
        (pss_cons (ps_if (pt_cmpR op_ge (pv 2) (pe_op op_pow pe_int pe_int) (nomark _))
          (pss_cons (ps_expr (pe_bm PySem.F.plainAttrs_list PySem.F.slot_list_append PySem.F.type_list_append mt_append (pe_ix ix_list (pv 0) pe_int (fun _ _ => rfl)) (pa_cons (pe_op op_fdiv (pv 2) (pv 1)) pa_nil)))
            (pss_one (ps_ret (pe_op op_mod (pv 2) (pv 1))))) pss_nil)
        (pss_one (ps_set (i := 2) scDraw.nd rfl (.inl rfl) (pe_op op_add (pv 2) (pe_ix ix_list (pv 0) pe_int (fun _ _ => rfl))))))) pss_nil) ht)), ?_⟩
    obtain ⟨⟨ns, sd, n, ha, hc, hl, s0, s1⟩, ne⟩ := dk
    refine ⟨.ref a, rfl, a, _, 2, .int n, rfl, rfl, SL ha, rfl, _, _, rfl, rfl, .ref a, rfl, a, _, 2, 2, rfl, rfl, ha, rfl, ?_⟩
    have ha1 : upd H a (.lst [.ref c, .int sd, .int (n + 1)]) a = some (.lst [.ref c, .int sd, .int (n + 1)]) := upd_same
    have hc1 : upd H a (.lst [.ref c, .int sd, .int (n + 1)]) c = some (.lst (ns.map V.int)) := by
      rw [upd_ne ne.symm]
      exact hc
    have kp1 : ∀ b o, H b = some o → b ≠ a → b ≠ c → upd H a (.lst [.ref c, .int sd, .int (n + 1)]) b = some o := fun b o e h1 _ => by
      rw [upd_ne h1]
      exact e
    revert ha1 hc1 kp1
    show _ → _ → _ → tSeq _ _ _ _ (upd H a (.lst [.ref c, .int sd, .int (n + 1)]))
    generalize upd H a (.lst [.ref c, .int sd, .int (n + 1)]) = H1
    intro ha1 hc1 kp1
    -- cell = deck[1]; deck[0] != []
    refine ⟨.ref a, rfl, a, _, 1, .int sd, rfl, rfl, SL ha1, rfl, ?_⟩
    refine ⟨.ref a, rfl, a, _, 0, .ref c, rfl, rfl, SL ha1, rfl, Nat.zero_le _, fun e he => ?_⟩
    have ha2 := same_upd (o := .lst []) he _ _ ha1
    have hc2 := same_upd (o := .lst []) he _ _ hc1
    have kp2 : ∀ b o, H b = some o → b ≠ a → b ≠ c → upd H1 e (.lst []) b = some o := fun b o z h1 h2 => same_upd (o := .lst []) he _ _ (kp1 b o z h1 h2)
    have hE2 : upd H1 e (.lst []) e = some (.lst []) := upd_same
    revert ha2 hc2 kp2 hE2
    generalize upd H1 e (.lst []) = H2
    intro ha2 hc2 kp2 hE2
    refine ⟨.list (ns.map .int), .list [], .lst (SL hc2) (dp_ints ns), .lst (SL hE2) .nil, shaped_ints ns, rfl, _, rfl, ?_⟩
    have hne : (!PyData.eqv (.list (ns.map .int)) (.list [])) = !ns.isEmpty := by
      cases ns <;> rfl
    rw [hne]
    cases ns with
    | nil => exact iteF (hq H2 sd (n + 1) .non (.int sd) ha2 ⟨kp2, ⟨⟨[], sd, n + 1, ha2, hc2, hl, s0, s1⟩, ne⟩⟩)
    | cons z r =>
      refine iteT ?_
      obtain ⟨i1, x, el⟩ : ∃ i1 x, z :: r = i1 ++ [x] := ⟨_, _, (List.dropLast_concat_getLast (List.cons_ne_nil z r)).symm⟩
      rw [el] at hc2 hl
      rw [List.map_append] at hc2
      have lx : (i1.map V.int ++ [x].map V.int)[(i1.map V.int ++ [x].map V.int).length - 1]? = some (.int x) := by simp
      refine ⟨.ref a, rfl, a, _, 0, .ref c, rfl, rfl, SL ha2, rfl, .inl ⟨rfl, _, SL hc2⟩, c, _, .int x, rfl, rfl, hc2, lx, ?_⟩
      have ed : (i1.map V.int ++ [x].map V.int).dropLast = i1.map V.int := by simp
      rw [ed]
      have ha3 : upd H2 c (.lst (i1.map V.int)) a = some (.lst [.ref c, .int sd, .int (n + 1)]) := by
        rw [upd_ne ne]
        exact ha2
      have hc3 : upd H2 c (.lst (i1.map V.int)) c = some (.lst (i1.map V.int)) := upd_same
      have kp3 : ∀ b o, H b = some o → b ≠ a → b ≠ c → upd H2 c (.lst (i1.map V.int)) b = some o := fun b o z h1 h2 => by
        rw [upd_ne h2]
        exact kp2 b o z h1 h2
      revert ha3 hc3 kp3
      generalize upd H2 c (.lst (i1.map V.int)) = H3
      intro ha3 hc3 kp3
      have hl3 : i1.length + 1 ≤ 63 := by simpa using hl
      refine ⟨_, rfl, _, _, rfl, rfl, ⟨by decide, by decide, by decide⟩, _, _, rfl, rfl, _, rfl, ite2 (fun hge => ?_) (fun hlt => ?_)⟩
      · refine ⟨.ref a, rfl, a, _, 0, .ref c, rfl, rfl, SL ha3, rfl, .inl ⟨rfl, _, SL hc3⟩, _, rfl, _, rfl, _, _, rfl, rfl, ⟨by omega, by omega⟩, c, _, _, rfl, rfl, hc3, ?_, ?_⟩
        · rw [List.length_map, sizeLine_eq]
          omega
        · refine ⟨_, rfl, _, rfl, _, _, rfl, rfl, w0, ?_⟩
          refine q _ _ (Int.emod_nonneg _ (by omega)) (Int.emod_lt_of_pos _ w0) ⟨fun b o z h1 h2 => by rw [upd_ne h2]; exact kp3 b o z h1 h2, ⟨⟨i1 ++ [x / ways], sd, n + 1, by rw [upd_ne ne]; exact ha3, by rw [upd_same, List.map_append]; rfl, by simpa using hl3, s0, s1⟩, ne⟩⟩
      · refine ⟨_, rfl, .ref a, rfl, a, _, 1, .int sd, rfl, rfl, SL ha3, rfl, _, _, rfl, rfl, ?_⟩
        exact hq H3 _ (n + 1) .non (.int sd) ha3 ⟨kp3, ⟨⟨i1, sd, n + 1, ha3, hc3, by omega, s0, s1⟩, ne⟩⟩
/-! ### deck -/
abbrev sDeck : Stmt := topS 21
theorem scDeck : FnScope ["_law_script", "_law_cells", "_law_seed", "_law_cell"] ["_law_script"] (defScope sDeck) := ⟨rfl, rfl, rfl, by decide +kernel, rfl, by decide +kernel, by decide +kernel⟩
def spDeck (K : PySem.W.Frag) : Sp := fun vs H Q _ => ∃ (b : Addr) (ns : List Int), vs = [.ref b] ∧ SqL K H b (ns.map V.int) ∧ ns.length ≤ 63 ∧
  ∀ a c H', Same H H' → H a = none → H c = none → Deck H' a c → Q (.ref a) H'
theorem ok_deck {f : Addr} {fd : FuncData} {k : Nat} (F : Fun K "_law_deck" "_law_deck" sDeck f fd) (ml : mg "list" = none) : FnOk P w K mg base CX0 (k + 1) f fd ["_law_script"] (spDeck K) := by
  refine F.ok scDeck (fun vs H Q E h => ?_) (fun cdv A outer s H vs Q E hr h => ?_)
  · obtain ⟨b, ns, rfl, _⟩ := h
    rfl
  · obtain ⟨b, ns, rfl, hb, hl, q⟩ := h
    refine ⟨_, pss_cons (ps_set (i := 1) scDeck.nd rfl (.inl rfl) (pe_callTy call_list_of (by rfl) ml (by decide +kernel) (pa_cons (pe_slice sl_list (pv 0) po_none (po_some pe_int)) pa_nil)))
      (pss_cons (ps_set (i := 2) scDeck.nd rfl (.inl rfl) pe_int)
      (pss_cons (ps_for PassesOwn.never rfl (pi_list (pv 1)) (pg_name (i := 3) scDeck.nd rfl (.inl rfl))
        (pss_one (ps_set (i := 2) scDeck.nd rfl (.inl rfl) (pe_op op_mod (pe_op op_add (pe_op op_add (pe_op op_mul (pv 2) pe_int) (pe_op op_mod (pv 3) pe_int)) pe_int) pe_int))))
      (pss_one (ps_ret (pe_lst (pa_cons (pe_revL (pv 1)) (pa_cons (pv 2) (pa_cons pe_int pa_nil)))))))), ?_⟩
    refine ⟨.ref b, rfl, _, rfl, b, _, rfl, hb, fun p hp => ⟨p, _, rfl, .inl (SL upd_same), fun l hl1 => ?_⟩⟩
    have ecut : cutV (ns.map V.int) none (some 63) = (ns.map V.int) := by
      unfold cutV
      rw [HT.sIx_none, show HT.sIx (ns.map V.int).length (ns.map V.int).length (some 63) = min 63 (ns.map V.int).length from HT.sIx_nat _ _ 63]
      rw [show min 63 (ns.map V.int).length = (ns.map V.int).length by rw [List.length_map]; omega]
      simp
      exact List.take_of_length_le (by simp)
    rw [ecut]
    rw [ecut] at hl1
    have sm1 : Same H (upd (upd H p (.lst (ns.map V.int))) l (.lst (ns.map V.int))) := (same_upd hp).trans (same_upd hl1)
    have hl2 : upd (upd H p (.lst (ns.map V.int))) l (.lst (ns.map V.int)) l = some (.lst (ns.map V.int)) := upd_same
    revert sm1 hl2
    generalize upd (upd H p (.lst (ns.map V.int))) l (.lst (ns.map V.int)) = H1
    intro sm1 hl2
    refine ⟨.ref l, rfl, l, rfl, ⟨_, SL hl2⟩, for_list (K := K) (a := l) (xs := ns.map V.int) (fun i σ H' => H' = H1 ∧ ∃ (sd : Int) (v : Option V), σ = [some (.ref b), some (.ref l), some (.int sd), v] ∧ 0 ≤ sd ∧ sd < 2147483648)
      ⟨rfl, 7211, none, rfl, by decide, by decide⟩ (fun i σ H' _ z => by rw [z.1]; exact SL hl2) ?_ ?_⟩
    · rintro i y σ H' hi ⟨rfl, sd, v, rfl, s0, s1⟩
      obtain ⟨z, hz, rfl⟩ : ∃ z, ns[i]? = some z ∧ y = V.int z := by
        rw [List.getElem?_map] at hi
        cases e : ns[i]? with
        | none => rw [e] at hi; cases hi
        | some z => rw [e] at hi; exact ⟨z, rfl, (Option.some.inj hi).symm⟩
      refine ⟨_, rfl, _, _, rfl, rfl, .inr ⟨by decide, by decide⟩, _, rfl, _, _, rfl, rfl, (by decide : (0 : Int) < 2147483489), _, _, rfl, rfl, _, _, rfl, rfl, _, _, rfl, rfl, (by decide : (0 : Int) < 2147483563), rfl, _, some (.int z), rfl, ?_, ?_⟩
      · exact Int.emod_nonneg _ (by decide)
      · exact Int.lt_trans (Int.emod_lt_of_pos _ (by decide)) (by decide)
    · rintro σ H' ⟨rfl, sd, v, rfl, s0, s1⟩
      refine ⟨.ref l, rfl, l, _, rfl, SL hl2, fun c hc => ⟨_, rfl, (by show 3 ≤ sizeLine; decide), fun a ha => ?_⟩⟩
      have nac : a ≠ c := fun e => by
        rw [e, upd_same] at ha
        cases ha
      refine q a c _ (sm1.trans ((same_upd hc).trans (same_upd ha))) (((sm1.trans (same_upd hc)).free ha)) (sm1.free hc) ⟨⟨ns.reverse, sd, 0, upd_same, ?_, by simpa using hl, s0, s1⟩, nac⟩
      rw [upd_ne nac.symm, upd_same, List.map_reverse]
/-! ### pick -/
abbrev sPick : Stmt := topS 23
theorem scPick : FnScope ["_law_deck_here", "_law_some"] ["_law_deck_here", "_law_some"] (defScope sPick) := ⟨rfl, rfl, rfl, by decide +kernel, rfl, by decide +kernel, by decide +kernel⟩
def spPick (K : PySem.W.Frag) : Sp := fun vs H Q _ => ∃ (a c p : Addr) (xs : List V), vs = [.ref a, .ref p] ∧ Deck H a c ∧ SqL K H p xs ∧ p ≠ a ∧ p ≠ c ∧ xs ≠ [] ∧ xs.length < 1000 ∧
  ∀ x H', x ∈ xs → Mv a c H H' → Q x H'
theorem Mv.sql {K : PySem.W.Frag} {a c p : Addr} {H H' : Hp} {xs : List V} (m : Mv a c H H') (h : SqL K H p xs) (h1 : p ≠ a) (h2 : p ≠ c) : SqL K H' p xs := by
  rcases h with (h | ⟨o, h⟩) | h
  · exact .inl (.inl (m.keep _ _ h h1 h2))
  · exact .inl (.inr ⟨o, m.keep _ _ h h1 h2⟩)
  · exact .inr h
theorem ok_pick {f fD : Addr} {fd fdD : FuncData} {k : Nat} (F : Fun K "_law_pick" "_law_pick" sPick f fd) (ml : mg "len" = none) (FD : Fun K "_law_draw" "_law_draw" sDraw fD fdD) (gD : mg "_law_draw" = some (.ref fD)) (bD : Binds K fdD ["_law_deck_here", "_law_many"] []) :
    FnOk P w K mg base CX0 (k + 2) f fd ["_law_deck_here", "_law_some"] (spPick K) := by
  have GD : FnOk P w K mg base CX0 (k + 1) fD fdD ["_law_deck_here", "_law_many"] spDraw := ok_draw FD
  refine F.ok scPick (fun vs H Q E h => ?_) (fun cdv A outer s H vs Q E hr h => ?_)
  · obtain ⟨a, c, p, xs, rfl, _⟩ := h
    rfl
  · obtain ⟨a, c, p, xs, rfl, dk, hp, na, nc, x0, xl, q⟩ := h
    refine ⟨_, pss_one (ps_ret (pe_ix ix_list (pv 1) (pe_call GD hr (by rfl) gD FD.kp bD .nil pass0 (pa_cons (pv 0) (pa_cons (pe_callB call_len_seq (by rfl) ml PySem.boot_len (pa_cons (pv 1) pa_nil)) pa_nil))) (fun _ _ => rfl))), ?_⟩
    have l0 : 0 < xs.length := List.length_pos_iff.mpr x0
    refine ⟨.ref p, rfl, .ref a, rfl, .ref p, rfl, p, xs, rfl, .inl hp, a, c, xs.length, rfl, dk, by omega, by omega, fun r H' r0 r1 mv => ?_⟩
    obtain ⟨j, rfl⟩ := Int.eq_ofNat_of_zero_le r0
    have hj : j < xs.length := by omega
    exact ⟨p, xs, _, xs[j], rfl, rfl, mv.sql hp na nc, atI_nat (List.getElem?_eq_getElem hj), q _ _ (List.getElem_mem hj) mv⟩
end
end K15
set_option Elab.async false
set_option linter.all false
set_option maxRecDepth 100000
set_option maxHeartbeats 4000000
namespace K15
open PySem PySem.Spec PyProof.Rows L2 KG NR SU SA
theorem rise : ∀ (p : Str) (l : List Str), risingS p l = true → (p :: l).Pairwise fun a b => ¬ ltS b a
  | p, [], _ => List.pairwise_singleton _ _
  | p, x :: r, h => by
    have h' : (!ltCps x.cps.toList p.cps.toList && risingS x r) = true := h
    rw [Bool.and_eq_true] at h'
    have ih := rise x r h'.2
    have nx : ¬ ltS x p := fun z => by
      have e := h'.1
      rw [ltCps_eq, decide_eq_true (show x.cps.toList < p.cps.toList from z)] at e
      cases e
    refine List.pairwise_cons.mpr ⟨fun b hb => ?_, ih⟩
    rcases List.mem_cons.mp hb with e | e
    · rw [e]; exact nx
    · have nb := (List.pairwise_cons.mp ih).1 b e
      intro z
      rcases Lo.str.tri p x with y | y | y
      · exact nb (Lo.str.tr _ _ _ z y)
      · exact nb (y ▸ z)
      · exact nx y
theorem sorted_lt {ys : List Str} (h : sortedS ys = true) (nd : ys.Nodup) : ys.Pairwise ltS := by
  have z : ys.Pairwise fun a b => ¬ ltS b a := by
    cases ys with
    | nil => exact .nil
    | cons x r => exact rise x r h
  refine (List.pairwise_and_iff.mpr ⟨z, nd⟩).imp fun {x y} h => ?_
  rcases Lo.str.tri x y with q | q | q
  · exact q
  · exact absurd q h.2
  · exact absurd q h.1
section
variable {P : Program} {w : World} {K : PySem.W.Frag} {mg : Str → Option Value} {base : Heap} {pW pN : Addr}
/-! ### the law's added -/
abbrev sLAdd : Stmt := topS 25
abbrev nLAdd : List Str := ["_law_here", "_law_there", "_law_by", "_law_factors", "_law_what", "_law_factor", "_law_rows"]
abbrev pLAdd : List Str := ["_law_here", "_law_there", "_law_by"]
theorem scLAdd : FnScope nLAdd pLAdd (defScope sLAdd) := ⟨rfl, rfl, rfl, by decide +kernel, rfl, by decide +kernel, by decide +kernel⟩
def spLAdd (K : PySem.W.Frag) : Sp := fun vs H Q _ => ∃ (v u : V) (k : Int) (l m : LS), vs = [v, u, .int k] ∧ LsAt K H v l ∧ LsAt K H u m ∧ Ok ltS l ∧ Ok ltS m ∧ 0 ≤ k ∧ k < 65536 ∧ l.2.length + m.2.length < 64 ∧
  ∀ v' H', Same H H' → LsAt K H' v' (addL l m k) → Q v' H'
theorem ok_ladd {f : Addr} {fd : FuncData} {k : Nat} (F : Fun K "_law_added" "_law_added" sLAdd f fd) (G : Glob K mg pW pN) : FnOk P w K mg base CX0 (k + 1) f fd pLAdd (spLAdd K) := by
  refine F.ok scLAdd (fun vs H Q E h => ?_) (fun cdv A outer s H vs Q E hr h => ?_)
  · obtain ⟨v, u, k, l, m, rfl, _⟩ := h
    rfl
  · obtain ⟨v, u, kk, p, r, rfl, hv, hu1, hp, hq, k0, k1, hz, q⟩ := h
    have hu := hu_of hr
    refine ⟨_, pss_cons (ps_set (i := 3) scLAdd.nd rfl (.inr rfl) (pe_callTy (call_dictT rfl) (by rfl) G.dict (by decide +kernel) (pa_cons (pe_ix ix_tup (pv 0) pe_int (fun _ _ => rfl)) pa_nil)))
      (pss_cons (ps_for PassesOwn.never rfl (pi_tup (pe_ix ix_tup (pv 1) pe_int (fun _ _ => rfl))) (pg_tup rfl (pgs_cons (pg_name (i := 4) scLAdd.nd rfl (.inl rfl)) (pgs_cons (pg_name (i := 5) scLAdd.nd rfl (.inl rfl)) pgs_nil)))
        (pss_one (ps_dput hu (pv 3) (pv 4) (pe_op op_mod (pe_op op_add (pe_dget2 hu (pv 3) (pv 4) pe_int ⟨rfl, rfl, rfl, rfl⟩) (pe_op op_mul (pv 5) (pv 2))) pe_int) rfl)))
      (pss_cons (ps_setLc (i := 6) (own := [("_law_what", 4)]) (g := gName 4) (by rfl) scLAdd.nd rfl rfl (sw_true rfl rfl rfl (by decide +kernel)) (pi_list (pe_callB (call_sortedD rfl) (by rfl) G.sorted (by decide +kernel) (pa_cons (pv 3) pa_nil))) (blkOk_by (own := [("_law_what", 4)]) (N := nLAdd) (sc := defScope sLAdd) (by decide +kernel))
        (fun _ _ _ _ _ => pg_name (i := 4) scLAdd.nd rfl (Or.inl rfl)) (fun _ _ _ _ _ => pts_one (pt_cmpR op_gt (pe_dget hu (pv 3) (pv 4) (fun _ _ => rfl)) pe_int (nomark _)))
        (fun _ _ _ _ _ => pe_tup (pa_cons (pv 4) (pa_cons (pe_dget hu (pv 3) (pv 4) (fun _ _ => rfl)) pa_nil))))
      (pss_one (ps_ret (pe_tup (pa_cons (pe_op op_mod (pe_op op_add (pe_ix ix_tup (pv 0) pe_int (fun _ _ => rfl)) (pe_op op_mul (pe_ix ix_tup (pv 1) pe_int (fun _ _ => rfl)) (pv 2))) pe_int)
        (pa_cons (pe_callTy call_tupleF (by rfl) G.tuple (by decide +kernel) (pa_cons (pv 6) pa_nil)) pa_nil))))))), ?_⟩
    obtain ⟨a, b, ts, rfl, ha, hb, hrow⟩ := hv
    obtain ⟨a2, b2, ts2, rfl, ha2, hb2, hrow2⟩ := hu1
    have hl := rows_len hrow
    have hl2 := rows_len hrow2
    obtain ⟨ks0, c0, F0, l0, hc0⟩ := Fac.of inr_inj Lo.str hp.cn.srt
    -- factors
    refine ⟨_, rfl, a, _, 1, .ref b, rfl, rfl, ha, rfl, b, ts, _, rfl, hb, kvs_of hrow, fun d hd => ?_⟩
    have sd := same_new (o := .dK (mergeK [] (p.2.map fun p => ((Sum.inr p.1 : Key), V.int p.2)))) hd
    refine ⟨_, rfl, a2, _, 1, .ref b2, rfl, rfl, (Tk.of sd).sq ha2, rfl, b2, rfl, ⟨_, (Tk.of sd).sq hb2.sq⟩, for_tup (K := K) (a := b2) (xs := ts2.map V.ref) (fun i σ H' => Same H H' ∧ ∃ (kvs : List (Key × V)) (ks : List Str) (c : Str → Int) (y z : Option V), σ = [some (.ref a), some (.ref a2), some (.int kk), some (.ref d), y, z, none] ∧
      H' d = some (.dK kvs) ∧ Fac (α := Str) Sum.inr kvs ks c ∧ ks.length ≤ p.2.length + i ∧ ∀ b, c b = (cf p.2 b + cf (r.2.take i) b * kk) % 65536) ⟨sd, _, ks0, c0, none, none, rfl, upd_same, F0, by omega, fun b => ?_⟩ (fun i σ H' _ z => (Tk.of z.1).sq hb2.sq) ?_ ?_⟩
    · rw [hc0 b, List.take_zero]
      show cf p.2 b = (cf p.2 b + 0 * kk) % 65536
      have := cf_rng Lo.str hp.cn b
      rw [Int.zero_mul]
      omega
    · rintro i x σ H' hx ⟨sm, kvs, ks, c, y, z, rfl, hk, FF, lk, hc⟩
      rw [List.getElem?_map] at hx
      obtain ⟨t, ht, rfl⟩ := Option.map_eq_some_iff.mp hx
      obtain ⟨pr, hpr, ht2⟩ := SA.Paired.atL hrow2 i t ht
      have il : i < r.2.length := (List.getElem?_eq_some_iff.mp hpr).1
      have fr := hq.cn.rng pr (List.mem_of_getElem? hpr)
      obtain ⟨ks', c', F', lk', hc'⟩ := fac_turn inr_inj Lo.str (k := kk) hp hq hpr FF hc
      have ln := FF.len
      refine ⟨t, _, rfl, (Tk.of sm).sq ht2, rfl, _, _, rfl, _, _, rfl, rfl, ?_⟩
      refine ⟨_, rfl, d, rfl, .inl ⟨_, .inl hk⟩, _, rfl, _, DGet.k (k := Sum.inr pr.1) hk, _, rfl, _, rfl, _, _, rfl, rfl, .inl ⟨by omega, by omega⟩, c pr.1, pr.2 * kk, FF.get pr.1, rfl, _, _, rfl, rfl, (by decide : (0 : Int) < 65536), _, rfl, _, rfl, d, _, rfl, DPut.k (k := Sum.inr pr.1) hk (by rw [ln, sizeLine_eq]; omega), ?_⟩
      exact ⟨Same.put sm hd, _, ks', c', _, _, rfl, upd_same, F', by omega, hc'⟩
    · rintro σ H1 ⟨sm, kvs, ks, c, y, z, rfl, hk, FF, lk, hc⟩
      rw [List.length_map, hl2] at lk hc
      rw [List.take_length] at hc
      have ln := FF.len
      have crng : ∀ a, 0 ≤ c a ∧ c a < 65536 := fun a => by rw [hc a]; exact ⟨Int.emod_nonneg _ (by decide), Int.emod_lt_of_pos _ (by decide)⟩
      refine ⟨_, rfl, d, kvs, ks, rfl, .inl hk, FF.keys, by omega, fun ys l perm srt hl1 => ⟨l, rfl, ⟨_, SL upd_same⟩, fun D hD => ?_⟩⟩
      have s1 := same_new (o := .lst (ys.map V.str)) hl1
      have hk1 := s1 _ _ hk
      have el : upd H1 l (.lst (ys.map V.str)) l = some (.lst (ys.map V.str)) := upd_same
      revert s1 hk1 hD el
      generalize upd H1 l (.lst (ys.map V.str)) = H2
      intro hD s1 hk1 el
      have srt' : ys.Pairwise ltS := sorted_lt srt (perm.nodup_iff.mpr FF.nd)
      have lys := perm.length_eq
      refine lc_list (K := K) (a := l) (xs := ys.map V.str) (fun i H' => RowsIn (α := Str) Sum.inr K H2 D (((ys.take i).map fun y => (y, c y)).filter fun p => decide (p.2 ≠ 0)) H') (by simpa using RowsIn.zero hD) (fun i H' _ z => SL (z.same _ _ el)) ?_ ?_
      · intro i x H' hx zz
        rw [List.getElem?_map] at hx
        obtain ⟨at_, hat, rfl⟩ := Option.map_eq_some_iff.mp hx
        obtain ⟨ts', e1, e2⟩ := zz.ex
        have mem : at_ ∈ ks := perm.mem_iff.mp (List.mem_of_getElem? hat)
        have il : i < ys.length := (List.getElem?_eq_some_iff.mp hat).1
        have dg : ∀ {H3 : Hp}, Same H2 H3 → DGet H3 d (V.str at_) (some (.int (c at_))) := fun {H3} s3 => by
          have g := DGet.k (k := (Sum.inr at_ : Key)) (s3 _ _ hk1)
          rw [FF.hit at_ mem] at g
          exact g
        have lnE : ts'.length ≤ 64 := by
          rw [rows_len e2]
          refine Nat.le_trans (List.length_filter_le _ _) ?_
          rw [List.length_map, List.length_take]
          omega
        refine ⟨rfl, _, rfl, _, rfl, d, _, rfl, dg zz.same, _, _, rfl, rfl, _, rfl, iteD (fun c1 => ?_) (fun c1 => ?_)⟩
        · have n0 : c at_ ≠ 0 := fun z => by
            have c1' : c at_ > 0 := c1
            omega
          have ef : ([at_].map fun y => (y, c y)).filter (fun p => decide (p.2 ≠ 0)) = [(at_, c at_)] := by simp [n0]
          refine ⟨_, rfl, _, rfl, _, rfl, d, _, rfl, dg zz.same, (by show 2 ≤ sizeLine; decide), fun t1 ht1 => ?_⟩
          have s2 := same_new (o := .tup [.str at_, .int (c at_)]) ht1
          refine ⟨ts'.map V.ref, s2 _ _ e1, ?_, ?_⟩
          · rw [List.length_map, sizeLine_eq]
            omega
          · rw [take_snoc hat, List.map_append, List.filter_append, ef]
            exact RowsIn.snoc (p := (at_, c at_)) hD (zz.same.trans s2) (s2 _ _ e1) (RowsAt.tk (Tk.of s2) e2) sq_new
        · have n0 : c at_ = 0 := by
            have c1' : ¬ c at_ > 0 := c1
            have := crng at_
            omega
          have ef : ([at_].map fun y => (y, c y)).filter (fun p => decide (p.2 ≠ 0)) = [] := by simp [n0]
          rw [take_snoc hat, List.map_append, List.filter_append, ef, List.append_nil]
          exact zz
      · intro H3 zz
        rw [List.length_map, List.take_length, rows_end Lo.str (r := (addL p r kk).2) srt' crng (fun a ha => (FF.out a (fun m => ha (perm.mem_iff.mpr m))).2) (addBy_ok Lo.str hp).cn (fun a => by rw [cf_addBy Lo.str hp hq, hc a])] at zz
        obtain ⟨ts1, e1, e2⟩ := zz.ex
        have s3 : Same H H3 := (sm.trans s1).trans zz.same
        refine ⟨_, rfl, a, _, 0, .int p.1, rfl, rfl, (Tk.of s3).sq ha, rfl, _, rfl, a2, _, 0, .int r.1, rfl, rfl, (Tk.of s3).sq ha2, rfl, _, rfl, _, _, rfl, rfl, .inr ⟨by omega, by omega⟩, _, _, rfl, rfl, _, _, rfl, rfl, (by decide : (0 : Int) < 65536), ?_⟩
        refine ⟨_, rfl, D, _, rfl, SL e1, fun l4 o hl4 ho => ⟨(by show 2 ≤ sizeLine; decide), fun t ht => ?_⟩⟩
        have s5 := same_new (o := .frz o (.tup (ts1.map V.ref))) hl4
        have s6 := same_new (o := .tup [.int ((p.1 + r.1 * kk) % 65536), .ref l4]) ht
        exact q _ _ ((s3.trans s5).trans s6) ⟨t, l4, ts1, rfl, sq_new, (Tk.of s6).tn (tn_new ho), RowsAt.tk (Tk.of (s5.trans s6)) e2⟩
end
end K15
set_option Elab.async false
set_option linter.all false
set_option maxRecDepth 100000
set_option maxHeartbeats 4000000
namespace K15
open PySem PySem.Spec PyProof.Rows L2 KG NR SU SA RI
/-! ### the data of sums by texts -/
theorem small_log {n : Int} (h0 : 0 ≤ n) (h1 : n < 65536) : decide (n.natAbs.log2 < 1920) = true := by
  refine decide_eq_true ?_
  have z : n.natAbs.log2 ≤ n.natAbs := Nat.log2_le_self _
  by_cases e : n.natAbs = 0
  · rw [e]; decide
  · have y : n.natAbs.log2 < 17 := (Nat.log2_lt e).mpr (by
      have : (2 : Nat) ^ 17 = 131072 := by decide
      omega)
    omega
theorem show_rows : ∀ {r : List (Str × Int)}, Pt2 r → PyData.showableAll (r.map rL) = true
  | [], _ => rfl
  | p :: r, h => by
    have ih := show_rows (r := r) fun q hq => h q (List.mem_cons_of_mem _ hq)
    have z := h p List.mem_cons_self
    rw [List.map_cons, PyData.showableAll, ih, Bool.and_true]
    unfold rL
    simp only [PyData.showable, PyData.showableAll, Bool.and_true, Bool.true_and]
    exact small_log z.2.1 z.2.2
theorem showable_L {l : LS} (h : Lk l) : (dL l).showable = true := by
  unfold dL
  simp only [PyData.showable, PyData.showableAll, show_rows h.pt2, Bool.and_true]
  exact small_log h.ok.n0 h.ok.n1
theorem nodict_rows : ∀ r : List (Str × Int), PyData.hasDictAll (r.map rL) = false
  | [] => rfl
  | p :: r => by
    rw [List.map_cons, PyData.hasDictAll, nodict_rows r]
    rfl
theorem nodict_L (l : LS) : (dL l).hasDict = false := by
  unfold dL
  simp only [PyData.hasDict, PyData.hasDictAll, nodict_rows, Bool.or_self]
theorem depth_rowsL : ∀ r : List (Str × Int), PyData.depthAll (r.map rL) ≤ 1
  | [] => Nat.zero_le _
  | p :: r => by
    have ih := depth_rowsL r
    rw [List.map_cons, PyData.depthAll]
    have e : (rL p).depth = 1 := rfl
    omega
theorem depth_L (l : LS) : (dL l).depth ≤ 3 := by
  have h := depth_rowsL l.2
  unfold dL
  simp only [PyData.depth, PyData.depthAll]
  omega
theorem strOk_pr {x : Str} (h : Pr x) : PyData.strOk x = true := by
  unfold PyData.strOk
  rw [Array.all_eq_true_iff_forall_mem]
  intro c hc
  have z := h c (Array.mem_toList_iff.mpr hc)
  exact decide_eq_true (by omega)
theorem lay_rowsL : ∀ {r : List (Str × Int)}, Pt2 r → PyData.canLayAll0 (r.map rL) = true
  | [], _ => rfl
  | p :: r, h => by
    have ih := lay_rowsL (r := r) fun q hq => h q (List.mem_cons_of_mem _ hq)
    have z := h p List.mem_cons_self
    rw [List.map_cons, PyData.canLayAll0, ih]
    unfold rL
    simp only [PyData.canLay0, PyData.canLayAll0, strOk_pr z.1, Bool.and_self]
theorem shaped_rowsL {r : List (Str × Int)} (h : Pt2 r) : SeqAt.shaped (.tuple (r.map rL)) = true := by
  have d := depth_rowsL r
  unfold SeqAt.shaped
  rw [PyData.canLay0, lay_rowsL h, PyData.depth, Bool.true_and]
  exact decide_eq_true (by omega)
theorem shaped_L {l : LS} (h : Lk l) : SeqAt.shaped (dL l) = true := by
  have d := depth_L l
  unfold SeqAt.shaped
  have e : (dL l).canLay0 = true := by
    unfold dL
    simp only [PyData.canLay0, PyData.canLayAll0, lay_rowsL h.pt2, Bool.and_self]
  rw [e, Bool.true_and]
  exact decide_eq_true (by omega)
theorem pt2_nil : Pt2 [] := fun _ h => nomatch h
end K15
set_option Elab.async false
set_option linter.all false
set_option maxRecDepth 100000
set_option maxHeartbeats 4000000
namespace K15
open PySem PySem.Spec PyProof.Rows L2 KG NR SU SA RI
abbrev sLTwo : Stmt := topS 26
abbrev sLTimes : Stmt := topS 27
abbrev sLSame : Stmt := topS 28
abbrev sLJoin : Stmt := topS 29
abbrev pHT : List Str := ["_law_here", "_law_there"]
abbrev pWHT : List Str := ["_law_word", "_law_here", "_law_there"]
section
variable {P : Program} {w : World} {K : PySem.W.Frag} {mg : Str → Option Value} {base : Heap} {pW pN : Addr}
/-- a new sum of one atom -/
theorem one_atom {H : Hp} {T : Str} {t1 t2 t3 : Addr} {o : Obj} (h1 : H t1 = none) (h2 : upd H t1 (.tup [.str T, .int 1]) t2 = none) (ho : o.dict = none) (h3 : upd (upd H t1 (.tup [.str T, .int 1])) t2 (.frz o (.tup [.ref t1])) t3 = none) :
    Same H (upd (upd (upd H t1 (.tup [.str T, .int 1])) t2 (.frz o (.tup [.ref t1]))) t3 (.tup [.int 0, .ref t2])) ∧ LsAt K (upd (upd (upd H t1 (.tup [.str T, .int 1])) t2 (.frz o (.tup [.ref t1]))) t3 (.tup [.int 0, .ref t2])) (.ref t3) (SU.single T) := by
  have s1 := same_new (o := .tup [.str T, .int 1]) h1
  have s2 := same_new (o := .frz o (.tup [.ref t1])) h2
  have s3 := same_new (o := .tup [.int 0, .ref t2]) h3
  exact ⟨(s1.trans s2).trans s3, t3, t2, [t1], rfl, sq_new, (Tk.of s3).tn (tn_new ho), .cons ((Tk.of (s2.trans s3)).sq sq_new) .nil⟩
/-- both are sums that can be written -/
structure LL (K : PySem.W.Frag) (H : Hp) (v u : V) (l m : LS) : Prop where
  v : LsAt K H v l
  u : LsAt K H u m
  kl : Lk l
  km : Lk m
  z : wt l + wt m ≤ 1000000
  n : l.2.length + m.2.length < 64
theorem LL.tk {H H' : Hp} {v u : V} {l m : LS} (h : LL K H v u l m) (k : Tk H H') : LL K H' v u l m := ⟨h.v.tk k, h.u.tk k, h.kl, h.km, h.z, h.n⟩
theorem reprOk {H : Hp} {v : V} {l : LS} (h : LsAt K H v l) (hl : Lk l) (z : wt l ≤ 2000000) : Dp K H v (dL l) ∧ (dL l).showable = true ∧ (dL l).hasDict = false ∧ (dL l).shown.length ≤ sizeLine ∧ (dL l).depth ≤ 50 := by
  refine ⟨LsAt.dp h, showable_L hl, nodict_L l, ?_, Nat.le_trans (depth_L l) (by decide)⟩
  have y := sh_len hl
  show (sh l).length ≤ sizeLine
  rw [sizeLine_eq]
  omega
/-! ### of_two -/
theorem scLTwo : FnScope pWHT pWHT (defScope sLTwo) := ⟨rfl, rfl, rfl, by decide +kernel, rfl, by decide +kernel, by decide +kernel⟩
def spLTwo (K : PySem.W.Frag) : Sp := fun vs H Q _ => ∃ (wd : Str) (v u : V) (l m : LS), vs = [.str wd, v, u] ∧ LL K H v u l m ∧ wd.length ≤ 10 ∧ ∀ v' H', Same H H' → LsAt K H' v' (SU.single (txTwo wd l m)) → Q v' H'
theorem ok_ltwo {f : Addr} {fd : FuncData} {k : Nat} (F : Fun K "_law_of_two" "_law_of_two" sLTwo f fd) (G : Glob K mg pW pN) : FnG P w K mg base (k + 1) f fd pWHT (spLTwo K) := by
  refine okG F scLTwo (fun vs H Q E h => ?_) (fun cdv A outer s H vs Q hgd hr h => ?_)
  · obtain ⟨wd, v, u, l, m, rfl, _⟩ := h
    rfl
  · obtain ⟨wd, v, u, l, m, rfl, L, hw, q⟩ := h
    refine ⟨_, pss_one (ps_ret (pe_tup (pa_cons pe_int (pa_cons (pe_tupF (pa_cons (pe_tup (pa_cons (pe_op op_add_str (pe_op op_add_str (pe_op op_add_str (pe_op op_add_str (pv 0) pe_str) (pe_callB (call_reprD hgd hr) (by rfl) G.repr (by decide +kernel) (pa_cons (pv 1) pa_nil))) pe_str) (pe_callB (call_reprD hgd hr) (by rfl) G.repr (by decide +kernel) (pa_cons (pv 2) pa_nil))) (pa_cons pe_int pa_nil))) pa_nil)) pa_nil)))), ?_⟩
    obtain ⟨d1, d2, d3, d4, d5⟩ := reprOk L.v L.kl (by have := L.z; omega)
    obtain ⟨e1, e2, e3, e4, e5⟩ := reprOk L.u L.km (by have := L.z; omega)
    have h1 := sh_len L.kl
    have h2 := sh_len L.km
    have hz := L.z
    have lb : (" " : Str).length = 1 := by decide +kernel
    have la : ∀ a b : Str, (a ++ b).length = a.length + b.length := fun a b => by rw [len_cd, cd_app, List.length_append]; rfl
    refine ⟨_, rfl, _, _, rfl, rfl, (by rw [lb, sizeLine_eq]; omega), _, rfl, v, dL l, rfl, d1, d2, d3, d4, d5, _, _, rfl, rfl, ?_, _, _, rfl, rfl, ?_, _, rfl, u, dL m, rfl, e1, e2, e3, e4, e5, _, _, rfl, rfl, ?_, (by show 2 ≤ sizeLine; decide), fun t1 ht1 => ⟨(by show 1 ≤ sizeLine; decide), fun t2 o ht2 ho => ⟨(by show 2 ≤ sizeLine; decide), fun t3 ht3 => ?_⟩⟩⟩
    · show (wd ++ (" " : Str)).length + (sh l).length ≤ sizeLine
      rw [la, lb, sizeLine_eq]
      omega
    · show (wd ++ (" " : Str) ++ sh l).length + (" " : Str).length ≤ sizeLine
      rw [la, la, lb, sizeLine_eq]
      omega
    · show (wd ++ (" " : Str) ++ sh l ++ (" " : Str)).length + (sh m).length ≤ sizeLine
      rw [la, la, la, lb, sizeLine_eq]
      omega
    · obtain ⟨sm, hp⟩ := one_atom (K := K) ht1 ht2 ho ht3
      exact q _ _ sm hp
/-! ### times -/
theorem scLTimes : FnScope ["_law_here", "_law_there", "_law_number_here", "_law_many"] pHT (defScope sLTimes) := ⟨rfl, rfl, rfl, by decide +kernel, rfl, by decide +kernel, by decide +kernel⟩
def spLTimes (K : PySem.W.Frag) : Sp := fun vs H Q _ => ∃ (v u : V) (l m : LS), vs = [v, u] ∧ LL K H v u l m ∧ ∀ v' H', Same H H' → LsAt K H' v' (timesL l m) → Q v' H'
theorem dp_rowsL' {H : Hp} {b : Addr} {ts : List Addr} {r : List (Str × Int)} (hb : TN K H b (ts.map V.ref)) (hr : RowsAt Sum.inr K H ts r) : Dp K H (.ref b) (.tuple (r.map rL)) := .tup hb.sq (dp_rowsL hr)
theorem dp_nilL {H : Hp} {b : Addr} (h : SqT K H b []) : Dp K H (.ref b) (.tuple (([] : List (Str × Int)).map rL)) := .tup h .nil
theorem sort_two {x y : Str} {ys : List Str} (h : ys.Perm [x, y]) (s : sortedS ys = true) : ys = [(sort2 x y).1, (sort2 x y).2] := by
  have ln := h.length_eq
  match ys, ln with
  | [a, b], _ =>
    have nb : ¬ ltS b a := (List.pairwise_cons.mp (rise a [b] s)).1 b List.mem_cons_self
    have key : (a = x ∧ b = y) ∨ (a = y ∧ b = x) := by
      have ha : a ∈ [x, y] := h.mem_iff.mp List.mem_cons_self
      rcases List.mem_cons.mp ha with e | e
      · subst e
        have z := (List.perm_cons a).mp h
        have := z.eq_singleton
        left
        simpa using this
      · have e' := List.mem_singleton.mp e
        subst e'
        have z : [a, b].Perm [a, x] := h.trans (List.Perm.swap ..)
        have z' := (List.perm_cons a).mp z
        right
        have := z'.eq_singleton
        simpa using this
    unfold sort2
    rcases key with ⟨rfl, rfl⟩ | ⟨rfl, rfl⟩
    · rw [if_neg nb]
    · by_cases c : ltS a b
      · rw [if_pos c]
      · rw [if_neg c]
        rcases Lo.str.tri a b with z | z | z
        · exact absurd z c
        · rw [z]
        · exact absurd z nb
theorem join_two (x y : Str) : Txt.join (" " : Str) [x, y] = x ++ (" " : Str) ++ y := by
  show PySem.Builtin.Str.glued (" " : Str) [x, y] = _
  rfl
theorem lcat (a b : Str) : (a ++ b).length = a.length + b.length := by
  rw [len_cd, cd_app, List.length_append]
  rfl
theorem ok_ltimes {f fA : Addr} {fd fdA : FuncData} {k : Nat} (F : Fun K "_law_times" "_law_times" sLTimes f fd) (G : Glob K mg pW pN) (DA : Def K mg "_law_added" sLAdd pLAdd fA fdA) : FnG P w K mg base (k + 2) f fd pHT (spLTimes K) := by
  have GA : FnOk P w K mg base CX0 (k + 1) fA fdA pLAdd (spLAdd K) := ok_ladd DA.fn G
  refine okG F scLTimes (fun vs H Q E h => ?_) (fun cdv A outer s H vs Q hgd hr h => ?_)
  · obtain ⟨v, u, l, m, rfl, _⟩ := h
    rfl
  · obtain ⟨v, u, l, m, rfl, L, q⟩ := h
    refine ⟨_, pss_cons (ps_if (PW.pt (pw_or (pt_cmpR (op_eqD hr.units) (pe_ix ix_tup (pv 1) pe_int (fun _ _ => rfl)) (pe_tup pa_nil) (nomark _)) (pw_or1 (pt_cmpR (op_eqD hr.units) (pe_ix ix_tup (pv 0) pe_int (fun _ _ => rfl)) (pe_tup pa_nil) (nomark _)))))
        (pss_cons (ps_asg (pe_ix ix_list (pe_lst (pa_cons (pe_tup (pa_cons (pv 0) (pa_cons (pv 1) pa_nil))) (pa_cons (pe_tup (pa_cons (pv 1) (pa_cons (pv 0) pa_nil))) pa_nil))) (pe_callTy call_int1 (by rfl) G.int (by decide +kernel) (pa_cons (pe_and (pe_cmpR (op_eqD hr.units) (pe_ix ix_tup (pv 0) pe_int (fun _ _ => rfl)) (pe_tup pa_nil) (nomark _)) (pe_one (pe_cmpR (op_neD hr.units) (pe_ix ix_tup (pv 1) pe_int (fun _ _ => rfl)) (pe_tup pa_nil) (nomark _)))) pa_nil)) (fun _ _ => rfl))
            (pg_tup rfl (pgs_cons (pg_name (i := 2) scLTimes.nd rfl (.inl rfl)) (pgs_cons (pg_name (i := 3) scLTimes.nd rfl (.inl rfl)) pgs_nil))))
          (pss_one (ps_ret (pe_call GA hr (by rfl) DA.at_ DA.fn.kp DA.b .nil pass0 (pa_cons (pe_tup (pa_cons pe_int (pa_cons (pe_tupF pa_nil) pa_nil))) (pa_cons (pv 2) (pa_cons (pe_ix ix_tup (pv 3) pe_int (fun _ _ => rfl)) pa_nil))))))) pss_nil)
      (pss_one (ps_ret (pe_tup (pa_cons pe_int (pa_cons (pe_tupF (pa_cons (pe_tup (pa_cons (pe_op op_add_str pe_str (pe_join pe_str (pe_callB cr_sortedS (by rfl) G.sorted (by decide +kernel) (pa_cons (pe_lst (pa_cons (pe_callB (call_reprD hgd hr) (by rfl) G.repr (by decide +kernel) (pa_cons (pv 0) pa_nil)) (pa_cons (pe_callB (call_reprD hgd hr) (by rfl) G.repr (by decide +kernel) (pa_cons (pv 1) pa_nil)) pa_nil))) pa_nil)))) (pa_cons pe_int pa_nil))) pa_nil)) pa_nil))))), ?_⟩
    obtain ⟨a, b, ts, rfl, ha, hb, hrow⟩ := id L.v
    obtain ⟨a2, b2, ts2, rfl, ha2, hb2, hrow2⟩ := id L.u
    have p1 := L.kl.pt2
    have p2 := L.km.pt2
    have hz := L.z
    have hn := L.n
    -- the way by numbers
    have num : ∀ (H1 : Hp), Same H H1 → (m.2 = [] ∨ l.2 = []) → (tSeq (tAsg (tOp (rIxL K) (tLst (tCons (tTup (tCons (tVar 0) (tCons (tVar 1) tNil))) (tCons (tTup (tCons (tVar 1) (tCons (tVar 0) tNil))) tNil))) (tCB (fun xs H Q => (∃ i, xs = [.int i] ∧ Q (.int i) H) ∨ ∃ k, xs = [.bl k] ∧ Q (.int (if k then 1 else 0)) H) (tCons (tAndV (tOp (rEqD K) (tOp (rIxT K) (tVar 0) (tC (.int 1))) (tTup tNil)) (tOp (rNeD K) (tOp (rIxT K) (tVar 1) (tC (.int 1))) (tTup tNil))) tNil))) (gTup K 2 (gCons (gName 2) (gCons (gName 3) gNil))))
        (tRet (tCall (spLAdd K) [] E0 (tCons (tTup (tCons (tC (.int 0)) (tCons (tTupF tNil) tNil))) (tCons (tVar 2) (tCons (tOp (rIxT K) (tVar 3) (tC (.int 0))) tNil)))))) { nx := fun _ H' => Q .non H', rt := Q } [some (.ref a), some (.ref a2), none, none] H1 := by
      intro H1 s1 hor
      refine ⟨_, rfl, _, rfl, (by show 2 ≤ sizeLine; decide), fun t1 ht1 => ⟨_, rfl, _, rfl, (by show 2 ≤ sizeLine; decide), fun t2 ht2 => ⟨(by show 2 ≤ sizeLine; decide), fun l1 hl1 => ?_⟩⟩⟩
      have q1 := same_new (o := .tup [.ref a, .ref a2]) ht1
      have q2 := same_new (o := .tup [.ref a2, .ref a]) ht2
      have q3 := same_new (o := .lst [.ref t1, .ref t2]) hl1
      have g1 := (Tk.of (q2.trans q3)).sq (sq_new (K := K) (H := H1) (p := t1) (xs := [.ref a, .ref a2]))
      have g2 := (Tk.of q3).sq (sq_new (K := K) (H := upd H1 t1 (.tup [.ref a, .ref a2])) (p := t2) (xs := [.ref a2, .ref a]))
      have g3 : upd (upd (upd H1 t1 (.tup [.ref a, .ref a2])) t2 (.tup [.ref a2, .ref a])) l1 (.lst [.ref t1, .ref t2]) l1 = some (.lst [.ref t1, .ref t2]) := upd_same
      have sm := ((s1.trans q1).trans q2).trans q3
      revert g1 g2 g3 sm
      generalize upd (upd (upd H1 t1 (.tup [.ref a, .ref a2])) t2 (.tup [.ref a2, .ref a])) l1 (.lst [.ref t1, .ref t2]) = H2
      intro g1 g2 g3 sm
      have k2 := Tk.of sm
      -- what follows, by what is picked
      have go : ∀ (H3 : Hp) (t : Addr) (x y : Addr) (lx ly : LS), Same H2 H3 → SqT K H3 t [.ref x, .ref y] → LsAt K H (.ref x) lx → LsAt K H (.ref y) ly → Lk lx → Lk ly → lx.2.length < 64 → timesL l m = addL (0, []) lx ly.1 →
          gTup K 2 (gCons (gName 2) (gCons (gName 3) gNil)) (.ref t) [some (.ref a), some (.ref a2), none, none] H3 fun σ' H' =>
            (tRet (tCall (spLAdd K) [] E0 (tCons (tTup (tCons (tC (.int 0)) (tCons (tTupF tNil) tNil))) (tCons (tVar 2) (tCons (tOp (rIxT K) (tVar 3) (tC (.int 0))) tNil))))) { nx := fun _ H' => Q .non H', rt := Q } σ' H' := by
        intro H3 t x y lx ly s3 ht hx hy kx ky ln e
        have sA := sm.trans s3
        obtain ⟨ay, by_, tsy, ey, hay, _⟩ := hy
        cases ey
        refine ⟨t, _, rfl, ht, rfl, _, _, rfl, _, _, rfl, rfl, Nat.zero_le _, fun t4 o ht4 ho => ⟨(by show 2 ≤ sizeLine; decide), fun t5 ht5 => ?_⟩⟩
        have s4 := same_new (o := .frz o (.tup [])) ht4
        have s5 := same_new (o := .tup [.int 0, .ref t4]) ht5
        have sB := (sA.trans s4).trans s5
        refine ⟨_, rfl, _, rfl, y, _, 0, .int ly.1, rfl, rfl, (Tk.of sB).sq hay, rfl, .ref t5, .ref x, ly.1, (0, []), lx, rfl, ⟨t5, t4, [], rfl, sq_new, (Tk.of s5).tn (tn_new ho), .nil⟩, hx.tk (Tk.of sB), .nil, kx.ok, ky.ok.n0, ky.ok.n1, (by show 0 + _ < 64; omega), fun v' H' s6 hp => ?_⟩
        rw [← e] at hp
        exact q v' H' (sB.trans s6) hp
      refine ⟨_, rfl, a, _, 1, .ref b, rfl, rfl, k2.sq ha, rfl, Nat.zero_le _, fun t3 ht3 => ?_⟩
      have s3 := same_new (o := .tup []) ht3
      have k3 := k2.trans (Tk.of s3)
      refine ⟨_, _, dp_rowsL' (k3.tn hb) (RowsAt.tk k3 hrow), dp_nilL sq_new, shaped_rowsL p1, shaped_rowsL pt2_nil, _, rfl, ?_⟩
      have ev : PyData.eqv (.tuple (l.2.map rL)) (.tuple (([] : List (Str × Int)).map rL)) = decide (l.2 = []) := eq_rows_L _ _
      rw [ev]
      refine iteD (fun c1 => ?_) (fun c1 => ?_)
      · refine ⟨_, rfl, a2, _, 1, .ref b2, rfl, rfl, k3.sq ha2, rfl, Nat.zero_le _, fun t4 ht4 => ?_⟩
        have s4 := same_new (o := .tup []) ht4
        have k4 := k3.trans (Tk.of s4)
        refine ⟨_, _, dp_rowsL' (k4.tn hb2) (RowsAt.tk k4 hrow2), dp_nilL sq_new, shaped_rowsL p2, shaped_rowsL pt2_nil, ?_⟩
        have ev : PyData.eqv (.tuple (m.2.map rL)) (.tuple (([] : List (Str × Int)).map rL)) = decide (m.2 = []) := eq_rows_L _ _
        rw [ev]
        refine .inr ⟨_, rfl, ?_⟩
        have s34 := s3.trans s4
        by_cases c2 : m.2 = []
        · rw [decide_eq_true c2]
          refine ⟨l1, _, 0, .ref t1, rfl, rfl, SL (s34 _ _ g3), rfl, ?_⟩
          refine go _ t1 a a2 l m s34 ((Tk.of s34).sq g1) L.v L.u L.kl L.km (by omega) ?_
          unfold timesL
          rw [if_pos c2]
        · rw [decide_eq_false c2]
          refine ⟨l1, _, 1, .ref t2, rfl, rfl, SL (s34 _ _ g3), rfl, ?_⟩
          refine go _ t2 a2 a m l s34 ((Tk.of s34).sq g2) L.u L.v L.km L.kl (by omega) ?_
          unfold timesL
          rw [if_neg c2, if_pos c1]
      · have c2 : m.2 = [] := hor.elim id fun z => absurd z c1
        refine .inr ⟨_, rfl, l1, _, 0, .ref t1, rfl, rfl, SL (s3 _ _ g3), rfl, ?_⟩
        refine go _ t1 a a2 l m s3 ((Tk.of s3).sq g1) L.v L.u L.kl L.km (by omega) ?_
        unfold timesL
        rw [if_pos c2]
    refine ⟨_, rfl, a2, _, 1, .ref b2, rfl, rfl, ha2, rfl, Nat.zero_le _, fun t ht => ?_⟩
    have s1 := same_new (o := .tup []) ht
    refine ⟨_, _, dp_rowsL' ((Tk.of s1).tn hb2) (RowsAt.tk (Tk.of s1) hrow2), dp_nilL sq_new, shaped_rowsL p2, shaped_rowsL pt2_nil, _, rfl, ?_⟩
    have ev : PyData.eqv (.tuple (m.2.map rL)) (.tuple (([] : List (Str × Int)).map rL)) = decide (m.2 = []) := eq_rows_L _ _
    rw [ev]
    refine iteD (fun c => num _ s1 (.inl c)) (fun c => ?_)
    refine ⟨_, rfl, a, _, 1, .ref b, rfl, rfl, (Tk.of s1).sq ha, rfl, Nat.zero_le _, fun t2 ht2 => ?_⟩
    have s2 := s1.trans (same_new (o := .tup []) ht2)
    refine ⟨_, _, dp_rowsL' ((Tk.of s2).tn hb) (RowsAt.tk (Tk.of s2) hrow), dp_nilL sq_new, shaped_rowsL p1, shaped_rowsL pt2_nil, _, rfl, ?_⟩
    have ev : PyData.eqv (.tuple (l.2.map rL)) (.tuple (([] : List (Str × Int)).map rL)) = decide (l.2 = []) := eq_rows_L _ _
    rw [ev]
    refine iteD (fun c2 => num _ s2 (.inr c2)) (fun c2 => ?_)
    revert s2
    generalize upd (upd H t (.tup [])) t2 (.tup []) = H2
    intro s2
    have L2 := L.tk (Tk.of s2)
    obtain ⟨d1, d2, d3, d4, d5⟩ := reprOk L2.v L2.kl (by omega)
    obtain ⟨e1, e2, e3, e4, e5⟩ := reprOk L2.u L2.km (by omega)
    have h1 := sh_len L.kl
    have h2 := sh_len L.km
    refine ⟨⟨_, rfl⟩, _, rfl, .ref a, dL l, rfl, d1, d2, d3, d4, d5, _, rfl, .ref a2, dL m, rfl, e1, e2, e3, e4, e5, (by show 2 ≤ sizeLine; decide), fun l1 hl1 => ?_⟩
    have s3 := s2.trans (same_new (o := .lst [.str (sh l), .str (sh m)]) hl1)
    refine ⟨l1, [sh l, sh m], rfl, SL upd_same, (by show 2 < 64; decide), fun ys l2 perm srt hl2 => ?_⟩
    have s4 := s3.trans (same_new (o := .lst (ys.map V.str)) hl2)
    have ey := sort_two perm srt
    refine ⟨_, l2, ys, rfl, rfl, .inl (SL upd_same), ?_, ?_⟩
    · have z1 : (ys.map (·.length)).sum = (sh l).length + (sh m).length := by
        rw [ey]
        rcases sort2_or (sh l) (sh m) with ⟨a, b⟩ | ⟨a, b⟩ <;> rw [a, b] <;> simp only [List.map_cons, List.map_nil, List.sum_cons, List.sum_nil] <;> omega
      have z2 := perm.length_eq
      have z3 : (" " : Str).length = 1 := by decide +kernel
      rw [z1, z2, z3]
      show _ + 2 * 1 ≤ _
      omega
    · subst ey
      rw [join_two]
      have lt : ("times " : Str).length = 6 := by decide +kernel
      have lb : (" " : Str).length = 1 := by decide +kernel
      refine ⟨_, _, rfl, rfl, ?_, (by show 2 ≤ sizeLine; decide), fun t1 ht1 => ⟨(by show 1 ≤ sizeLine; decide), fun t2 o ht2 ho => ⟨(by show 2 ≤ sizeLine; decide), fun t3 ht3 => ?_⟩⟩⟩
      · rw [lcat, lcat, lt, lb, sizeLine_eq]
        rcases sort2_or (sh l) (sh m) with ⟨a, b⟩ | ⟨a, b⟩ <;> rw [a, b] <;> omega
      · obtain ⟨sm, hp⟩ := one_atom (K := K) ht1 ht2 ho ht3
        have e : timesL l m = SU.single (txTimes l m) := by
          unfold timesL
          rw [if_neg c, if_neg c2]
        rw [e] at q
        exact q _ _ (s4.trans sm) hp
end
end K15
set_option Elab.async false
set_option linter.all false
set_option maxRecDepth 100000
set_option maxHeartbeats 4000000
namespace K15
open PySem PySem.Spec PyProof.Rows L2 KG NR SU SA RI
section
variable {P : Program} {w : World} {K : PySem.W.Frag} {mg : Str → Option Value} {base : Heap} {pW pN : Addr}
/-! ### same -/
theorem scLSame : FnScope ["_law_here", "_law_there", "_law_gap", "_law_back"] pHT (defScope sLSame) := ⟨rfl, rfl, rfl, by decide +kernel, rfl, by decide +kernel, by decide +kernel⟩
def spLSame (K : PySem.W.Frag) : Sp := fun vs H Q _ => ∃ (v u : V) (l m : LS), vs = [v, u] ∧ LL K H v u l m ∧ ∀ v' H', Same H H' → LsAt K H' v' (sameL l m) → Q v' H'
theorem flag1 (c : Prop) [Decidable c] : (if decide c = true then (1 : Int) else 0) = if c then 1 else 0 := by
  by_cases y : c
  · rw [decide_eq_true y, if_pos rfl, if_pos y]
  · rw [decide_eq_false y, if_neg Bool.false_ne_true, if_neg y]
theorem ok_lsame {f fA : Addr} {fd fdA : FuncData} {k : Nat} (F : Fun K "_law_same" "_law_same" sLSame f fd) (G : Glob K mg pW pN) (DA : Def K mg "_law_added" sLAdd pLAdd fA fdA) : FnG P w K mg base (k + 2) f fd pHT (spLSame K) := by
  have GA : FnOk P w K mg base CX0 (k + 1) fA fdA pLAdd (spLAdd K) := ok_ladd DA.fn G
  refine okG F scLSame (fun vs H Q E h => ?_) (fun cdv A outer s H vs Q hgd hr h => ?_)
  · obtain ⟨v, u, l, m, rfl, _⟩ := h
    rfl
  · obtain ⟨v, u, l, m, rfl, L, q⟩ := h
    refine ⟨_, pss_cons (ps_par (i := 2) (j := 3) (by rfl) scLSame.nd rfl rfl (by decide) rfl rfl (pa_cons (pe_call GA hr (by rfl) DA.at_ DA.fn.kp DA.b .nil pass0 (pa_cons (pv 0) (pa_cons (pv 1) (pa_cons pe_int pa_nil)))) (pa_cons (pe_call GA hr (by rfl) DA.at_ DA.fn.kp DA.b .nil pass0 (pa_cons (pv 1) (pa_cons (pv 0) (pa_cons pe_int pa_nil)))) pa_nil)) (by rfl))
      (pss_cons (ps_if (pt_cmpR (op_eqD hr.units) (pe_ix ix_tup (pv 2) pe_int (fun _ _ => rfl)) (pe_tup pa_nil) (nomark _)) (pss_one (ps_ret (pe_tup (pa_cons (pe_callTy call_int1 (by rfl) G.int (by decide +kernel) (pa_cons (pe_cmpR op_eq (pe_ix ix_tup (pv 2) pe_int (fun _ _ => rfl)) pe_int (nomark _)) pa_nil)) (pa_cons (pe_tupF pa_nil) pa_nil))))) pss_nil)
      (pss_one (ps_ret (pe_tup (pa_cons pe_int (pa_cons (pe_tupF (pa_cons (pe_tup (pa_cons (pe_op op_add_str pe_str (pe_callB (call_minS rfl hr.units) (by rfl) G.min (by decide +kernel) (pa_cons (pe_callB (call_reprD hgd hr) (by rfl) G.repr (by decide +kernel) (pa_cons (pv 2) pa_nil)) (pa_cons (pe_callB (call_reprD hgd hr) (by rfl) G.repr (by decide +kernel) (pa_cons (pv 3) pa_nil)) pa_nil)))) (pa_cons pe_int pa_nil))) pa_nil)) pa_nil)))))), ?_⟩
    have hz := L.z
    have hn := L.n
    have a1 := add_wt l m 65535
    have a2 := add_wt m l 65535
    have kg := L.kl.add (k := 65535) L.km
    have kb := L.km.add (k := 65535) L.kl
    refine ⟨_, rfl, _, rfl, v, u, 65535, l, m, rfl, L.v, L.u, L.kl.ok, L.km.ok, by decide, by decide, hn, fun g H1 s1 hg => ?_⟩
    refine ⟨_, rfl, _, rfl, u, v, 65535, m, l, rfl, L.u.tk (Tk.of s1), L.v.tk (Tk.of s1), L.km.ok, L.kl.ok, by decide, by decide, by omega, fun bk H2 s2 hb => ⟨_, _, rfl, ?_⟩⟩
    have hg2 := hg.tk (Tk.of s2)
    have sm := s1.trans s2
    obtain ⟨ga, gb, gts, rfl, g1, g2, g3⟩ := id hg2
    refine ⟨_, rfl, ga, _, 1, .ref gb, rfl, rfl, g1, rfl, Nat.zero_le _, fun t ht => ?_⟩
    have s3 := same_new (o := .tup []) ht
    have k3 := Tk.of s3
    refine ⟨_, _, dp_rowsL' (k3.tn g2) (RowsAt.tk k3 g3), dp_nilL sq_new, shaped_rowsL kg.pt2, shaped_rowsL pt2_nil, _, rfl, ?_⟩
    have ev : PyData.eqv (.tuple ((addL l m 65535).2.map rL)) (.tuple (([] : List (Str × Int)).map rL)) = decide ((addL l m 65535).2 = []) := eq_rows_L _ _
    rw [ev]
    unfold sameL at q
    have sm3 := sm.trans s3
    have hg3 := hg2.tk k3
    have hb3 := hb.tk k3
    have g1' := k3.sq g1
    revert sm3 hg3 hb3 g1'
    generalize upd H2 t (.tup []) = H3
    intro sm3 hg3 hb3 g1'
    refine iteD (fun c => ?_) (fun c => ?_)
    · rw [if_pos c] at q
      refine ⟨_, rfl, ga, _, 0, .int (addL l m 65535).1, rfl, rfl, g1', rfl, rfl, .inr ⟨_, rfl, ?_⟩⟩
      have e1 : (if decide (V.int (addL l m 65535).1 = V.int 0) = true then (1 : Int) else 0) = if (addL l m 65535).1 = 0 then 1 else 0 := by
        rw [flag1]
        by_cases y : (addL l m 65535).1 = 0
        · rw [if_pos y, if_pos (by rw [y])]
        · rw [if_neg y, if_neg (fun z => y (V.int.inj z))]
      refine ⟨Nat.zero_le _, fun t2 o ht2 ho => ⟨(by show 2 ≤ sizeLine; decide), fun t3 ht3 => ?_⟩⟩
      rw [e1]
      have s4 := same_new (o := .frz o (.tup [])) ht2
      have s5 := same_new (o := .tup [.int (if (addL l m 65535).1 = 0 then 1 else 0), .ref t2]) ht3
      exact q _ _ ((sm3.trans s4).trans s5) ⟨t3, t2, [], rfl, sq_new, (Tk.of s5).tn (tn_new ho), .nil⟩
    · rw [if_neg c] at q
      obtain ⟨d1, d2, d3, d4, d5⟩ := reprOk hg3 kg (by omega)
      obtain ⟨e1, e2, e3, e4, e5⟩ := reprOk hb3 kb (by omega)
      have h1 := sh_len kg
      have h2 := sh_len kb
      refine ⟨_, rfl, _, dL (addL l m 65535), rfl, d1, d2, d3, d4, d5, _, rfl, _, dL (addL m l 65535), rfl, e1, e2, e3, e4, e5, sh (addL l m 65535), sh (addL m l 65535), rfl, ?_⟩
      have em : (if (sh (addL m l 65535)).cps.toList < (sh (addL l m 65535)).cps.toList then sh (addL m l 65535) else sh (addL l m 65535)) = minS (sh (addL l m 65535)) (sh (addL m l 65535)) := rfl
      have ln : ("nought " : Str).length = 7 := by decide +kernel
      refine ⟨_, _, rfl, rfl, ?_, (by show 2 ≤ sizeLine; decide), fun t1 ht1 => ⟨(by show 1 ≤ sizeLine; decide), fun t2 o ht2 ho => ⟨(by show 2 ≤ sizeLine; decide), fun t3 ht3 => ?_⟩⟩⟩
      · rw [em, ln, sizeLine_eq]
        rcases minS_or (sh (addL l m 65535)) (sh (addL m l 65535)) with a | a <;> rw [a] <;> omega
      · obtain ⟨sx, hp⟩ := one_atom (K := K) ht1 ht2 ho ht3
        exact q _ _ (sm3.trans sx) hp
/-! ### joined -/
theorem scLJoin : FnScope pWHT pWHT (defScope sLJoin) := ⟨rfl, rfl, rfl, by decide +kernel, rfl, by decide +kernel, by decide +kernel⟩
def spLJoin (K : PySem.W.Frag) : Sp := fun vs H Q _ => ∃ (wd : Str) (v u : V) (l m : LS), vs = [.str wd, v, u] ∧ wd ∈ SU.six ∧ LL K H v u l m ∧ ∀ v' H', Same H H' → LsAt K H' v' (joinL wd l m) → Q v' H'
structure LjD (K : PySem.W.Frag) (mg : Str → Option Value) (g1 g2 g3 g4 : Addr) (gd1 gd2 gd3 gd4 : FuncData) : Prop where
  a : Def K mg "_law_added" sLAdd pLAdd g1 gd1
  two : Def K mg "_law_of_two" sLTwo pWHT g2 gd2
  times : Def K mg "_law_times" sLTimes pHT g3 gd3
  same : Def K mg "_law_same" sLSame pHT g4 gd4
variable {g1 g2 g3 g4 : Addr} {gd1 gd2 gd3 gd4 : FuncData}
theorem six_len : ∀ w ∈ SU.six, w.length ≤ 10 := by decide +kernel
theorem six_pr : ∀ w ∈ SU.six, Pr w := fun w hw => pr_lit (by
  have z : ∀ w ∈ SU.six, (cd w).all (fun c => decide (32 ≤ c) && decide (c ≤ 126)) = true := by decide +kernel
  exact z w hw)
theorem ok_ljoin {f : Addr} {fd : FuncData} {k : Nat} (F : Fun K "_law_joined" "_law_joined" sLJoin f fd) (G : Glob K mg pW pN) (D : LjD K mg g1 g2 g3 g4 gd1 gd2 gd3 gd4) : FnG P w K mg base (k + 3) f fd pWHT (spLJoin K) := by
  have GA : FnG P w K mg base (k + 2) g1 gd1 pLAdd (spLAdd K) := FnG.of (ok_ladd D.a.fn G)
  have G2 : FnG P w K mg base (k + 2) g2 gd2 pWHT (spLTwo K) := ok_ltwo D.two.fn G
  have G3 : FnG P w K mg base (k + 2) g3 gd3 pHT (spLTimes K) := ok_ltimes D.times.fn G D.a
  have G4 : FnG P w K mg base (k + 2) g4 gd4 pHT (spLSame K) := ok_lsame D.same.fn G D.a
  refine okG F scLJoin (fun vs H Q E h => ?_) (fun cdv A outer s H vs Q hgd hr h => ?_)
  · obtain ⟨wd, v, u, l, m, rfl, _⟩ := h
    rfl
  · obtain ⟨wd, v, u, l, m, rfl, hw, L, q⟩ := h
    obtain ⟨a, b, ts, rfl, ha, hb, hrow⟩ := id L.v
    obtain ⟨a2, b2, ts2, rfl, ha2, hb2, hrow2⟩ := id L.u
    have p1 := L.kl.pt2
    have p2 := L.km.pt2
    have hz := L.z
    have hn := L.n
    have tail : ∃ t, PSs (cxOf CX0 P w K mg base pWHT "_law_joined" (defScope sLJoin) f cdv A outer s H E0).nox ((defBody sLJoin).drop 4) t ∧
        ∀ (H2 : Hp), Same H H2 → ¬ (m = (0, []) ∨ (wd = "below" ∧ l = m)) → (∀ v' H', Same H H' → LsAt K H' v' (twoL wd l m) → Q v' H') → t { nx := fun _ H' => Q .non H', rt := Q } [some (.str wd), some (.ref a), some (.ref a2)] H2 := by
      refine ⟨_, (pss_cons (ps_if (PW.pt (pw_and (pt_cmpR (op_eqD hr.units) (pe_ix ix_tup (pv 1) pe_int (fun _ _ => rfl)) (pe_ix ix_tup (pv 2) pe_int (fun _ _ => rfl)) (nomark _)) (pw_and1 (pt_cmpR (op_eqD hr.units) (pe_ix ix_tup (pv 1) pe_int (fun _ _ => rfl)) (pe_tup pa_nil) (nomark _)))))
        (pss_one (ps_ret (pe_tup (pa_cons (pe_ifExp (pt_cmpR op_eq (pv 0) pe_str (nomark _)) (pe_op op_fdiv (pe_ix ix_tup (pv 1) pe_int (fun _ _ => rfl)) (pe_ix ix_tup (pv 2) pe_int (fun _ _ => rfl))) (pe_callTy call_int1 (by rfl) G.int (by decide +kernel) (pa_cons (pe_cmpR op_lt (pe_ix ix_tup (pv 1) pe_int (fun _ _ => rfl)) (pe_ix ix_tup (pv 2) pe_int (fun _ _ => rfl)) (nomark _)) pa_nil))) (pa_cons (pe_tupF pa_nil) pa_nil))))) pss_nil)
      (pss_one (ps_ret (pe_callG G2 hgd hr (by rfl) D.two.at_ D.two.fn.kp D.two.b (pa_cons (pv 0) (pa_cons (pv 1) (pa_cons (pv 2) pa_nil))))))), fun H2 s2 c q => ?_⟩
      unfold twoL at q
      rw [if_neg c] at q
      have L2 := L.tk (Tk.of s2)
      have k2 := Tk.of s2
      refine ⟨_, rfl, a, _, 1, .ref b, rfl, rfl, k2.sq ha, rfl, _, rfl, a2, _, 1, .ref b2, rfl, rfl, k2.sq ha2, rfl, _, _, dp_rowsL' (k2.tn hb) (RowsAt.tk k2 hrow), dp_rowsL' (k2.tn hb2) (RowsAt.tk k2 hrow2), shaped_rowsL p1, shaped_rowsL p2, _, rfl, ?_⟩
      have ev : PyData.eqv (.tuple (l.2.map rL)) (.tuple (m.2.map rL)) = decide (l.2 = m.2) := eq_rows_L _ _
      rw [ev]
      refine iteD (fun c1 => ?_) (fun c1 => ?_)
      · refine ⟨_, rfl, a, _, 1, .ref b, rfl, rfl, k2.sq ha, rfl, Nat.zero_le _, fun t ht => ?_⟩
        have s3 := same_new (o := .tup []) ht
        have k3 := k2.trans (Tk.of s3)
        refine ⟨_, _, dp_rowsL' (k3.tn hb) (RowsAt.tk k3 hrow), dp_nilL sq_new, shaped_rowsL p1, shaped_rowsL pt2_nil, _, rfl, ?_⟩
        have ev : PyData.eqv (.tuple (l.2.map rL)) (.tuple (([] : List (Str × Int)).map rL)) = decide (l.2 = []) := eq_rows_L _ _
        rw [ev]
        have s23 := s2.trans s3
        revert s23 k3
        generalize upd H2 t (.tup []) = H3
        intro k3 s23
        refine iteD (fun c2 => ?_) (fun c2 => ?_)
        · have both : l.2 = [] ∧ m.2 = [] := ⟨c2, c1.symm.trans c2⟩
          rw [if_pos both] at q
          have fin : ∀ (n : Int), n = (if wd = "over" then l.1 / m.1 else if l.1 < m.1 then 1 else 0) → ∀ (t2 : Addr) (o : Obj), H3 t2 = none → o.dict = none → ([V.int n, .ref t2]).length ≤ sizeLine ∧ ∀ p, upd H3 t2 (.frz o (.tup [])) p = none → Q (.ref p) (upd (upd H3 t2 (.frz o (.tup []))) p (.tup [.int n, .ref t2])) := by
            intro n en t2 o ht2 ho
            refine ⟨(by show 2 ≤ sizeLine; decide), fun t3 ht3 => ?_⟩
            have s4 := same_new (o := .frz o (.tup [])) ht2
            have s5 := same_new (o := .tup [.int n, .ref t2]) ht3
            rw [← en] at q
            exact q _ _ ((s23.trans s4).trans s5) ⟨t3, t2, [], rfl, sq_new, (Tk.of s5).tn (tn_new ho), .nil⟩
          refine ⟨_, rfl, rfl, _, rfl, ?_⟩
          rw [strEq]
          refine iteD (fun c3 => ?_) (fun c3 => ?_)
          · have pos : 0 < m.1 := by
              have z := SU.num0 both.2 (fun z => c (.inl z))
              have := L.km.ok.n0
              omega
            have lt := L.km.ok.n1
            refine ⟨_, rfl, a, _, 0, .int l.1, rfl, rfl, k3.sq ha, rfl, _, rfl, a2, _, 0, .int m.1, rfl, rfl, k3.sq ha2, rfl, _, _, rfl, rfl, ⟨pos, by omega⟩, Nat.zero_le _, fun t2 o ht2 ho => fin _ ?_ t2 o ht2 ho⟩
            rw [if_pos c3]
          · refine ⟨_, rfl, a, _, 0, .int l.1, rfl, rfl, k3.sq ha, rfl, _, rfl, a2, _, 0, .int m.1, rfl, rfl, k3.sq ha2, rfl, _, _, rfl, rfl, .inr ⟨_, rfl, Nat.zero_le _, fun t2 o ht2 ho => fin _ ?_ t2 o ht2 ho⟩⟩
            rw [if_neg c3, flag1]
        · rw [if_neg (fun z => c2 z.1)] at q
          exact ⟨_, rfl, _, rfl, _, rfl, wd, _, _, l, m, rfl, L.tk k3, six_len wd hw, fun v' H' sm hp => q v' H' (s23.trans sm) hp⟩
      · rw [if_neg (fun z => c1 (z.1.trans z.2.symm))] at q
        exact ⟨_, rfl, _, rfl, _, rfl, wd, _, _, l, m, rfl, L2, six_len wd hw, fun v' H' sm hp => q v' H' (s2.trans sm) hp⟩
    obtain ⟨tt, ht, hq⟩ := tail
    refine ⟨_, pss_cons (ps_if (pt_cmpR op_in_seq (pv 0) (pe_tup (pa_cons pe_str (pa_cons pe_str pa_nil))) rfl) (pss_one (ps_ret (pe_callG GA hgd hr (by rfl) D.a.at_ D.a.fn.kp D.a.b (pa_cons (pv 1) (pa_cons (pv 2) (pa_cons (pe_ifExp (pt_cmpR op_eq (pv 0) pe_str (nomark _)) pe_int pe_int) pa_nil)))))) pss_nil)
      (pss_cons (ps_if (pt_cmpR op_eq (pv 0) pe_str (nomark _)) (pss_one (ps_ret (pe_callG G3 hgd hr (by rfl) D.times.at_ D.times.fn.kp D.times.b (pa_cons (pv 1) (pa_cons (pv 2) pa_nil))))) pss_nil)
      (pss_cons (ps_if (pt_cmpR op_eq (pv 0) pe_str (nomark _)) (pss_one (ps_ret (pe_callG G4 hgd hr (by rfl) D.same.at_ D.same.fn.kp D.same.b (pa_cons (pv 1) (pa_cons (pv 2) pa_nil))))) pss_nil)
      (pss_cons (ps_if (PW.pt (pw_or (pt_cmpR (op_eqD hr.units) (pv 2) (pe_tup (pa_cons pe_int (pa_cons (pe_tup pa_nil) pa_nil))) (nomark _)) (pw_or1 (PW.pt (pw_and (pt_cmpR op_eq (pv 0) pe_str (nomark _)) (pw_and1 (pt_cmpR (op_eqD hr.units) (pv 1) (pv 2) (nomark _)))))))) (pss_one (ps_ret (pe_tup (pa_cons pe_int (pa_cons (pe_tupF pa_nil) pa_nil))))) pss_nil) ht))), ?_⟩
    unfold joinL at q
    refine ⟨_, rfl, (by show 2 ≤ sizeLine; decide), fun t0 ht0 => ?_⟩
    have s0 := same_new (o := .tup [.str "sum", .str "less"]) ht0
    refine ⟨t0, (["sum", "less"] : List Str).map V.str, rfl, .inr sq_new, rfl, rfl, _, rfl, ?_⟩
    revert s0
    generalize upd H t0 (.tup [.str "sum", .str "less"]) = H0
    intro s0
    have L0 := L.tk (Tk.of s0)
    show if inV (.str wd) ((["sum", "less"] : List Str).map V.str) = true then _ else _
    by_cases c1 : wd = "sum"
    · rw [if_pos c1] at q
      rw [c1, inV_str (by decide +kernel)]
      refine iteT ⟨_, rfl, _, rfl, _, rfl, rfl, _, rfl, ?_⟩
      rw [strEq, decide_eq_false (by decide +kernel)]
      exact iteF ⟨_, _, 1, l, m, rfl, L0.v, L0.u, L.kl.ok, L.km.ok, by decide, by decide, hn, fun v' H' sm hp => q v' H' (s0.trans sm) hp⟩
    rw [if_neg c1] at q
    by_cases c2 : wd = "less"
    · rw [if_pos c2] at q
      rw [c2, inV_str (by decide +kernel)]
      refine iteT ⟨_, rfl, _, rfl, _, rfl, rfl, _, rfl, ?_⟩
      rw [strEq, decide_eq_true rfl]
      exact iteT ⟨_, _, 65535, l, m, rfl, L0.v, L0.u, L.kl.ok, L.km.ok, by decide, by decide, hn, fun v' H' sm hp => q v' H' (s0.trans sm) hp⟩
    rw [if_neg c2] at q
    have nin : wd ∉ (["sum", "less"] : List Str) := fun z => by
      rcases List.mem_cons.mp z with e | e
      · exact c1 e
      · exact c2 (List.mem_singleton.mp e)
    rw [ninV_str nin]
    refine iteF ⟨_, rfl, rfl, _, rfl, ?_⟩
    rw [strEq]
    refine iteD (fun c3 => ?_) (fun c3 => ?_)
    · rw [if_pos c3] at q
      exact ⟨_, rfl, _, rfl, _, _, l, m, rfl, L0, fun v' H' sm hp => q v' H' (s0.trans sm) hp⟩
    rw [if_neg c3] at q
    refine ⟨_, rfl, rfl, _, rfl, ?_⟩
    rw [strEq]
    refine iteD (fun c4 => ?_) (fun c4 => ?_)
    · rw [if_pos c4] at q
      exact ⟨_, rfl, _, rfl, _, _, l, m, rfl, L0, fun v' H' sm hp => q v' H' (s0.trans sm) hp⟩
    rw [if_neg c4] at q
    have q0 := q
    unfold twoL at q
    refine ⟨_, rfl, Nat.zero_le _, fun t1 ht1 => ⟨(by show 2 ≤ sizeLine; decide), fun t2 ht2 => ?_⟩⟩
    have s1 := same_new (o := .tup []) ht1
    have s2 := same_new (o := .tup [.int 0, .ref t1]) ht2
    have s12 := (s0.trans s1).trans s2
    have L2 := L.tk (Tk.of s12)
    have d0 : Dp K (upd (upd H0 t1 (.tup [])) t2 (.tup [.int 0, .ref t1])) (.ref t2) (dL (0, [])) := .tup sq_new (.cons (.int _) (.cons (.tup ((Tk.of s2).sq sq_new) .nil) .nil))
    refine ⟨_, _, LsAt.dp L2.u, d0, shaped_L L.km, shaped_L (Lk.num (by decide) (by decide)), _, rfl, ?_⟩
    rw [eq_L]
    revert L2 s12
    generalize upd (upd H0 t1 (.tup [])) t2 (.tup [.int 0, .ref t1]) = H2
    intro s12 L2
    have zero : (m = (0, []) ∨ (wd = "below" ∧ l = m)) → (tRet (tTup (tCons (tC (.int 0)) (tCons (tTupF tNil) tNil)))) { nx := fun _ H' => Q .non H', rt := Q } [some (.str wd), some (.ref a), some (.ref a2)] H2 := by
      intro c
      rw [if_pos c] at q
      refine ⟨Nat.zero_le _, fun t3 o ht3 ho => ⟨(by show 2 ≤ sizeLine; decide), fun t4 ht4 => ?_⟩⟩
      have s3 := same_new (o := .frz o (.tup [])) ht3
      have s4 := same_new (o := .tup [.int 0, .ref t3]) ht4
      exact q _ _ ((s12.trans s3).trans s4) ⟨t4, t3, [], rfl, sq_new, (Tk.of s4).tn (tn_new ho), .nil⟩
    refine iteD (fun c5 => ?_) (fun c5 => ?_)
    · exact zero (.inl c5)
    · refine ⟨_, rfl, rfl, _, rfl, ?_⟩
      rw [strEq]
      refine iteD (fun c6 => ?_) (fun c6 => ?_)
      · refine ⟨_, rfl, _, rfl, _, _, LsAt.dp L2.v, LsAt.dp L2.u, shaped_L L.kl, shaped_L L.km, _, rfl, ?_⟩
        rw [eq_L]
        refine iteD (fun c7 => zero (.inr ⟨c6, c7⟩)) (fun c7 => ?_)
        exact hq _ s12 (fun z => z.elim c5 fun y => c7 y.2) q0
      · exact iteF (hq _ s12 (fun z => z.elim c5 fun y => c6 y.1) q0)
end
end K15
set_option Elab.async false
set_option linter.all false
set_option maxRecDepth 100000
set_option maxHeartbeats 4000000
namespace SA
open PySem PySem.Spec PyProof.Rows L2 NR SU RI
/-- names of a term among some -/
def Trm.In (ns : List Str) : Trm → Prop
  | .num k => 0 ≤ k ∧ k < 65536
  | .nam x => x ∈ ns
  | .op w a b => w ∈ SU.six ∧ Trm.In ns a ∧ Trm.In ns b
/-- names as drawn -/
def Nms (ns : List Str) : Prop := ∀ x ∈ ns, Pr x ∧ x.length ≤ 20
theorem Trm.good {ns : List Str} (hn : Nms ns) : ∀ {t : Trm}, Trm.In ns t → t.Good
  | .num k, h => h
  | .nam x, h => (hn x h).1
  | .op w a b, h => ⟨h.1, Trm.good hn h.2.1, Trm.good hn h.2.2⟩
theorem six_small : ∀ w ∈ SU.six, w.length ≤ 10 ∧ (cd w).all (fun c => decide (32 ≤ c) && decide (c ≤ 126)) = true := by decide +kernel
theorem sumL_lk {ns : List Str} (hn : Nms ns) : ∀ {t : Trm}, Trm.In ns t → Lk (sumL t) ∧ wt (sumL t) + 100 ≤ 200 * 4 ^ Trm.dep t ∧ (sumL t).2.length ≤ Trm.lv t
  | .num k, h => by
    have e : k % 65536 = k := Int.emod_eq_of_lt h.1 h.2
    show Lk (k % 65536, []) ∧ wt (k % 65536, []) + 100 ≤ 200 * 4 ^ 1 ∧ 0 ≤ 1
    rw [e]
    exact ⟨Lk.num h.1 h.2, by rw [num_wt]; decide, by decide⟩
  | .nam x, h => by
    have z := hn x h
    have l5 : ("name " : Str).length = 5 := by decide +kernel
    have le : (("name " : Str) ++ x).length = ("name " : Str).length + x.length := by rw [len_cd, cd_app, List.length_append]; rfl
    refine ⟨Lk.single (Pr.app (pr_lit (by decide +kernel)) z.1), ?_, Nat.le_refl 1⟩
    show wt (SU.single (("name " : Str) ++ x)) + 100 ≤ 200 * 4 ^ 1
    rw [single_wt, le, l5]
    omega
  | .op w a b, h => by
    obtain ⟨a1, a2, a3⟩ := sumL_lk hn h.2.1
    obtain ⟨b1, b2, b3⟩ := sumL_lk hn h.2.2
    have s := six_small w h.1
    obtain ⟨j1, j2, j3⟩ := join_lk (pr_lit s.2) s.1 a1 b1
    have e1 : 4 ^ Trm.dep a ≤ 4 ^ max (Trm.dep a) (Trm.dep b) := Nat.pow_le_pow_right (by decide) (Nat.le_max_left _ _)
    have e2 : 4 ^ Trm.dep b ≤ 4 ^ max (Trm.dep a) (Trm.dep b) := Nat.pow_le_pow_right (by decide) (Nat.le_max_right _ _)
    have pa := Trm.lv_pos a
    refine ⟨j1, ?_, ?_⟩
    · show wt (joinL w (sumL a) (sumL b)) + 100 ≤ 200 * 4 ^ (max (Trm.dep a) (Trm.dep b) + 1)
      rw [Nat.pow_succ]
      omega
    · show (joinL w (sumL a) (sumL b)).2.length ≤ Trm.lv a + Trm.lv b
      omega
end SA
namespace K15
open PySem PySem.Spec PyProof.Rows L2 KG NR SU SA RI
abbrev sReck : Stmt := topS 30
abbrev pReck : List Str := ["_law_term_here", "_law_names_here"]
section
variable {P : Program} {w : World} {K : PySem.W.Frag} {mg : Str → Option Value} {base : Heap} {pW pN : Addr}
variable {g1 g2 g3 g4 : Addr} {gd1 gd2 gd3 gd4 : FuncData}
theorem scReck : FnScope pReck pReck (defScope sReck) := ⟨rfl, rfl, rfl, by decide +kernel, rfl, by decide +kernel, by decide +kernel⟩
/-- the sums of names -/
def Leaves (K : PySem.W.Frag) (H : Hp) (d : Addr) (ns : List Str) : Prop := ∃ kvs, H d = some (.dK kvs) ∧ ∀ x ∈ ns, ∃ v, valV kvs (Sum.inr x) = some v ∧ LsAt K H v (SU.single (("name " : Str) ++ x))
theorem Leaves.same {H H' : Hp} {d : Addr} {ns : List Str} (h : Leaves K H d ns) (s : Same H H') : Leaves K H' d ns := by
  obtain ⟨kvs, h1, h2⟩ := h
  refine ⟨kvs, s _ _ h1, fun x hx => ?_⟩
  obtain ⟨v, e1, e2⟩ := h2 x hx
  exact ⟨v, e1, e2.tk (Tk.of s)⟩
def spReck (K : PySem.W.Frag) (n : Nat) : Sp := fun vs H Q _ => ∃ (v : V) (d : Addr) (t : Trm) (ns : List Str), vs = [v, .ref d] ∧ TmAt K H v t ∧ Trm.dep t ≤ n ∧ Trm.dep t ≤ 6 ∧ Trm.In ns t ∧ Nms ns ∧ Leaves K H d ns ∧
  ∀ v' H', Same H H' → LsAt K H' v' (sumL t) → Q v' H'
theorem ok_reck {f fJ : Addr} {fd fdJ : FuncData} (D : Def K mg "_law_reckoned" sReck pReck f fd) (G : Glob K mg pW pN) (DJ : Def K mg "_law_joined" sLJoin pWHT fJ fdJ) (DL : LjD K mg g1 g2 g3 g4 gd1 gd2 gd3 gd4) :
    ∀ n : Nat, FnG P w K mg base (n + 3) f fd pReck (spReck K n)
  | 0 => ⟨fun vs H Q E h => by obtain ⟨v, d, t, ns, rfl, _⟩ := h; rfl, fun A outer s H args us vs Q _ _ _ _ _ h => by
      obtain ⟨v, d, t, ns, _, _, hd, _⟩ := h
      exact absurd (Nat.le_trans (Trm.dep_pos t) hd) (by decide)⟩
  | n + 1 => by
    have IH := ok_reck D G DJ DL n
    have GJ : FnG P w K mg base (0 + 3) fJ fdJ pWHT (spLJoin K) := ok_ljoin DJ.fn G DL
    refine okG D.fn scReck (fun vs H Q E h => ?_) (fun cdv A outer s H vs Q hgd hr h => ?_)
    · obtain ⟨v, d, t, ns, rfl, _⟩ := h
      rfl
    · obtain ⟨v, d, t, ns, rfl, ht, hd, hd6, hin, hn, hL, q⟩ := h
      have hr3 : Room (0 + 3) _ := hr.mono (by omega)
      have hu := hu_of hr
      refine ⟨_, pss_cons (ps_if (pt_cmpR op_eq (pe_ix ix_tup (pv 0) pe_int (fun _ _ => rfl)) pe_str (nomark _)) (pss_one (ps_ret (pe_tup (pa_cons (pe_op op_mod (pe_ix ix_tup (pv 0) pe_int (fun _ _ => rfl)) pe_int) (pa_cons (pe_tupF pa_nil) pa_nil))))) pss_nil)
        (pss_cons (ps_if (pt_cmpR op_eq (pe_ix ix_tup (pv 0) pe_int (fun _ _ => rfl)) pe_str (nomark _)) (pss_one (ps_ret (pe_dget hu (pv 1) (pe_ix ix_tup (pv 0) pe_int (fun _ _ => rfl)) (fun _ _ => rfl)))) pss_nil)
        (pss_one (ps_ret (pe_callG GJ hgd hr3 (by rfl) DJ.at_ DJ.fn.kp DJ.b (pa_cons (pe_ix ix_tup (pv 0) pe_int (fun _ _ => rfl)) (pa_cons (pe_callG IH hgd hr (by rfl) D.at_ D.fn.kp D.b (pa_cons (pe_ix ix_tup (pv 0) pe_int (fun _ _ => rfl)) (pa_cons (pv 1) pa_nil)))
          (pa_cons (pe_callG IH hgd hr (by rfl) D.at_ D.fn.kp D.b (pa_cons (pe_ix ix_tup (pv 0) pe_int (fun _ _ => rfl)) (pa_cons (pv 1) pa_nil))) pa_nil))))))), ?_⟩
      cases ht with
      | @num p kk h0 =>
        refine ⟨_, rfl, p, _, 0, _, rfl, rfl, h0, rfl, rfl, _, rfl, ?_⟩
        rw [decide_eq_true rfl]
        refine iteT ⟨_, rfl, p, _, 1, _, rfl, rfl, h0, rfl, _, _, rfl, rfl, (by decide : (0 : Int) < 65536), Nat.zero_le _, fun t o ht ho => ⟨(by show 2 ≤ sizeLine; decide), fun t2 ht2 => ?_⟩⟩
        have s1 := same_new (o := .frz o (.tup [])) ht
        have s2 := same_new (o := .tup [.int (kk % 65536), .ref t]) ht2
        exact q _ _ (s1.trans s2) ⟨t2, t, [], rfl, sq_new, (Tk.of s2).tn (tn_new ho), .nil⟩
      | @nam p nmx h0 =>
        refine ⟨_, rfl, p, _, 0, _, rfl, rfl, h0, rfl, rfl, _, rfl, ?_⟩
        rw [strEq, decide_eq_false (by decide +kernel)]
        refine iteF ⟨_, rfl, p, _, 0, _, rfl, rfl, h0, rfl, rfl, _, rfl, ?_⟩
        rw [decide_eq_true rfl]
        obtain ⟨kvs, hk, hk2⟩ := hL
        obtain ⟨v', e1, e2⟩ := hk2 nmx hin
        refine iteT ⟨_, rfl, _, rfl, p, _, 1, .str nmx, rfl, rfl, h0, rfl, d, v', rfl, ?_, q _ _ (Same.refl _) e2⟩
        have z := DGet.k (k := (Sum.inr nmx : Key)) hk
        rw [e1] at z
        exact z
      | @op p wd v1 v2 t1 t2 hw h0 ht1 ht2 =>
        have hm : max (Trm.dep t1) (Trm.dep t2) + 1 ≤ n + 1 := hd
        have hm6 : max (Trm.dep t1) (Trm.dep t2) + 1 ≤ 6 := hd6
        have n1 : wd ≠ "num" := six_ne hw
        have n2 : wd ≠ "name" := fun e => by
          rw [e] at hw
          exact absurd hw (by decide +kernel)
        refine ⟨_, rfl, p, _, 0, _, rfl, rfl, h0, rfl, rfl, _, rfl, ?_⟩
        rw [strEq, decide_eq_false n1]
        refine iteF ⟨_, rfl, p, _, 0, _, rfl, rfl, h0, rfl, rfl, _, rfl, ?_⟩
        rw [strEq, decide_eq_false n2]
        refine iteF ⟨_, rfl, p, _, 0, _, rfl, rfl, h0, rfl, _, rfl, p, _, 1, _, rfl, rfl, h0, rfl, _, rfl, v1, d, t1, ns, rfl, ht1, by omega, by omega, hin.2.1, hn, hL, fun y1 H1 s1 hp1 => ?_⟩
        refine ⟨_, rfl, p, _, 2, _, rfl, rfl, (Tk.of s1).sq h0, rfl, _, rfl, v2, d, t2, ns, rfl, ht2.tk (Tk.of s1), by omega, by omega, hin.2.2, hn, hL.same s1, fun y2 H2 s2 hp2 => ?_⟩
        obtain ⟨a1, a2, a3⟩ := sumL_lk hn hin.2.1
        obtain ⟨b1, b2, b3⟩ := sumL_lk hn hin.2.2
        have e1 : 4 ^ Trm.dep t1 ≤ 4 ^ 5 := Nat.pow_le_pow_right (by decide) (by omega)
        have e2 : 4 ^ Trm.dep t2 ≤ 4 ^ 5 := Nat.pow_le_pow_right (by decide) (by omega)
        have e5 : 4 ^ 5 = 1024 := by decide
        have l1 := lv6 (t := Trm.op wd t1 t2) hd6
        have l2 : Trm.lv t1 + Trm.lv t2 ≤ 32 := l1
        refine ⟨wd, y1, y2, sumL t1, sumL t2, rfl, hw, ⟨hp1.tk (Tk.of s2), hp2, a1, b1, by omega, by omega⟩, fun v' H' sm hp => q v' H' ((s1.trans s2).trans sm) hp⟩
end
end K15
set_option Elab.async false
set_option linter.all false
set_option maxRecDepth 100000
set_option maxHeartbeats 4000000
namespace K15
open PySem PySem.Spec PyProof.Rows L2 KG NR SU SA RI
/-! ### texts of small letters -/
def Lo1 (x : Str) : Prop := ∀ c ∈ cd x, 97 ≤ c ∧ c ≤ 122
def Lw (x : Str) : Prop := Lo1 x ∧ x.length ≤ 15
theorem Lo1.app {x y : Str} (hx : Lo1 x) (hy : Lo1 y) : Lo1 (x ++ y) := fun c hc => by
  rw [cd_app] at hc
  rcases List.mem_append.mp hc with z | z
  · exact hx c z
  · exact hy c z
theorem cut_low {z : Str} (h : Lo1 z) (lo hi : Option Int) : Lo1 (cutS z lo hi) ∧ (cutS z lo hi).length ≤ z.length := by
  have e : cd (cutS z lo hi) = (z.cps.toList.drop (HT.sIx z.length 0 lo)).take (HT.sIx z.length z.length hi - HT.sIx z.length 0 lo) := by
    unfold cutS
    simp
  refine ⟨fun c hc => ?_, ?_⟩
  · rw [e] at hc
    exact h c (List.mem_of_mem_drop (List.mem_of_mem_take hc))
  · rw [len_cd, e, List.length_take, List.length_drop]
    have y : z.cps.toList.length = z.length := rfl
    omega
theorem Lw.nms {ns : List Str} (h : ∀ x ∈ ns, Lw x) : Nms ns := fun x hx => by
  have z := h x hx
  refine ⟨fun c hc => ?_, by have := z.2; omega⟩
  have y := z.1 c hc
  omega
def lwB (x : Str) : Bool := (cd x).all (fun c => decide (97 ≤ c) && decide (c ≤ 122)) && decide (x.length ≤ 15)
theorem lw_of {x : Str} (h : lwB x = true) : Lw x := by
  unfold lwB at h
  rw [Bool.and_eq_true] at h
  refine ⟨fun c hc => ?_, of_decide_eq_true h.2⟩
  have z := List.all_eq_true.mp h.1 c hc
  rw [Bool.and_eq_true] at z
  exact ⟨of_decide_eq_true z.1, of_decide_eq_true z.2⟩
theorem lw_all {l : List Str} (h : l.all lwB = true) : ∀ x ∈ l, Lw x := fun x hx => lw_of (List.all_eq_true.mp h x hx)
/-- one letter -/
theorem letter_at {r : Int} (h0 : 0 ≤ r) (h1 : r < 26) : ∃ c : Nat, atI (("abcdefghijklmnopqrstuvwxyz" : Str)).cps.toList r = some c ∧ 97 ≤ c ∧ c ≤ 122 := by
  obtain ⟨k, rfl⟩ := Int.eq_ofNat_of_zero_le h0
  have z : ∀ k ∈ List.range 26, (("abcdefghijklmnopqrstuvwxyz" : Str)).cps.toList[k]? = some (97 + k) := by decide +kernel
  have kl : k < 26 := by omega
  exact ⟨97 + k, atI_nat (z k (List.mem_range.mpr kl)), by omega, by omega⟩
theorem one_low {c : Nat} (h1 : 97 ≤ c) (h2 : c ≤ 122) : Lo1 ⟨#[c]⟩ ∧ (⟨#[c]⟩ : Str).length = 1 := ⟨fun d hd => by
  have e : d = c := by simpa [cd] using hd
  rw [e]; exact ⟨h1, h2⟩, rfl⟩
theorem join_low : ∀ (l : List Str), (∀ x ∈ l, Lo1 x ∧ x.length = 1) → Lo1 (Str.join ("" : Str) l) ∧ (Str.join ("" : Str) l).length = l.length
  | [], _ => ⟨(fun c hc => by simp [Str.join, Str.empty, cd] at hc), rfl⟩
  | [x], h => h x List.mem_cons_self
  | x :: y :: r, h => by
    obtain ⟨i1, i2⟩ := join_low (y :: r) fun z hz => h z (List.mem_cons_of_mem _ hz)
    have hx := h x List.mem_cons_self
    have e0 : Lo1 ("" : Str) := fun c hc => by
      have z : cd ("" : Str) = [] := by decide +kernel
      rw [z] at hc
      cases hc
    have l0 : ("" : Str).length = 0 := by decide +kernel
    refine ⟨Lo1.app (Lo1.app hx.1 e0) i1, ?_⟩
    show (x ++ ("" : Str) ++ Str.join ("" : Str) (y :: r)).length = _
    rw [lcat, lcat, l0, hx.2, i2]
    simp only [List.length_cons]
    omega
theorem sum_ones : ∀ (l : List Str), (∀ x ∈ l, Lo1 x ∧ x.length = 1) → (l.map (·.length)).sum = l.length
  | [], _ => rfl
  | x :: r, h => by
    rw [List.map_cons, List.sum_cons, sum_ones r fun z hz => h z (List.mem_cons_of_mem _ hz), (h x List.mem_cons_self).2, List.length_cons]
    omega
/-- names as drawn -/
structure Nam (ns : List Str) : Prop where
  ne : ns ≠ []
  nd : ns.Nodup
  lw : ∀ x ∈ ns, Lw x
abbrev sNames : Stmt := topS 24
abbrev nNames : List Str := ["_law_deck_here", "_law_many", "_law_letters", "_law_way", "_law_at", "_law_hole", "_law_word", "_law_signs", "_law_some", "_law_words", "_law_found", "_law_here", "_law_k", "_law_sign"]
theorem scNames : FnScope nNames ["_law_deck_here", "_law_many"] (defScope sNames) := ⟨rfl, rfl, rfl, by decide +kernel, rfl, by decide +kernel, by decide +kernel⟩
def thirteen : List Str := ["num", "name", "place", "of", "held", "let", "look", "set", "call", "tell", "head", "in", "sink"]
theorem thirteen_lw : ∀ x ∈ thirteen, Lw x := lw_all (by decide +kernel)
section
variable {P : Program} {w : World} {K : PySem.W.Frag} {mg : Str → Option Value} {base : Heap} {pW pN : Addr}
abbrev pDM : List Str := ["_law_deck_here", "_law_many"]
def spNames : Sp := fun vs H Q _ => ∃ (a c : Addr) (n : Int), vs = [.ref a, .int n] ∧ Deck H a c ∧ 1 ≤ n ∧ n ≤ 8 ∧
  ∀ p ns H', Mv a c H H' → H p = none → H' p = some (.lst (ns.map V.str)) → Nam ns → ns.length ≤ 8 → Q (.ref p) H'
theorem Mv.put {a c D : Addr} {H H' : Hp} {o : HO} (m : Mv a c H H') (h : H D = none) (na : D ≠ a) (nc : D ≠ c) : Mv a c H (upd H' D o) := by
  refine ⟨fun b o' e h1 h2 => ?_, ?_⟩
  · rw [upd_ne (ne_of_none e h)]
    exact m.keep b o' e h1 h2
  · obtain ⟨⟨ns, sd, nn, e1, e2, e3⟩, ne⟩ := m.deck
    exact ⟨⟨ns, sd, nn, by rw [upd_ne na.symm]; exact e1, by rw [upd_ne nc.symm]; exact e2, e3⟩, ne⟩
/-- a list of texts is being made -/
def Tx (H : Hp) (D : Addr) (p : Str → Prop) (n : Nat) : Prop := ∃ ss : List Str, H D = some (.lst (ss.map V.str)) ∧ ss.length = n ∧ ∀ x ∈ ss, p x
theorem Tx.zero {H : Hp} {D : Addr} {p : Str → Prop} : Tx (upd H D (.lst [])) D p 0 := ⟨[], upd_same, rfl, fun _ z => nomatch z⟩
theorem Tx.snoc {H : Hp} {D : Addr} {p : Str → Prop} {n : Nat} {ss : List Str} {x : Str} (h2 : ss.length = n) (h3 : ∀ x ∈ ss, p x) (hx : p x) : Tx (upd H D (.lst (ss.map V.str ++ [.str x]))) D p (n + 1) :=
  ⟨ss ++ [x], by rw [upd_same, List.map_append]; rfl, by simp [h2], fun y hy => by
    rcases List.mem_append.mp hy with z | z
    · exact h3 y z
    · rw [List.mem_singleton.mp z]; exact hx⟩
theorem Mv.tx {a c D : Addr} {H H' : Hp} {p : Str → Prop} {n : Nat} (m : Mv a c H H') (h : Tx H D p n) (na : D ≠ a) (nc : D ≠ c) : Tx H' D p n := by
  obtain ⟨ss, h1, h2⟩ := h
  exact ⟨ss, m.keep _ _ h1 na nc, h2⟩
theorem ok_names {f fD : Addr} {fd fdD : FuncData} {k : Nat} (F : Fun K "_law_names" "_law_names" sNames f fd) (G : Glob K mg pW pN) (DD : Def K mg "_law_draw" sDraw ["_law_deck_here", "_law_many"] fD fdD) : FnOk P w K mg base CX0 (k + 2) f fd pDM spNames := by
  have GD : FnOk P w K mg base CX0 (k + 1) fD fdD ["_law_deck_here", "_law_many"] spDraw := ok_draw DD.fn
  refine F.ok scNames (fun vs H Q E h => ?_) (fun cdv A outer s H vs Q E hr h => ?_)
  · obtain ⟨a, c, n, rfl, _⟩ := h
    rfl
  · obtain ⟨a, c, n, rfl, dk, n1, n8, q⟩ := h
    -- from the found ones on
    have tail : ∃ t, PSs (cxOf CX0 P w K mg base nNames "_law_names" (defScope sNames) f cdv A outer s H E).nox ((defBody sNames).drop 7) t ∧
        ∀ (H2 : Hp) (some_ signs : Addr) (ss zs : List Str) (y2 y3 y4 y5 y6 y9 : Option V), Mv a c H H2 → H2 some_ = some (.lst (ss.map V.str)) → H2 signs = some (.lst (zs.map V.str)) → some_ ≠ a → some_ ≠ c → signs ≠ a → signs ≠ c → (∀ x ∈ ss, Lw x) → (∀ x ∈ zs, Lo1 x ∧ x.length = 1) → ss.length ≤ 26 → zs.length = 26 →
          t { nx := fun _ H' => Q .non H', rt := Q } [some (.ref a), some (.int n), y2, y3, y4, y5, y6, some (.ref signs), some (.ref some_), y9, none, none, none, none] H2 := by
      refine ⟨_, pss_cons (ps_set (i := 10) scNames.nd rfl (.inl rfl) (pe_lst pa_nil))
        (pss_cons (ps_for PassesOwn.never rfl (pi_list (pe_op op_cat (pv 8) (pe_lc (own := [("_law_sign", 13)]) (g := gName 13) (tt := tYes) rfl scNames.nd (pi_list (pv 7)) (blkOk_by (own := [("_law_sign", 13)]) (N := nNames) (sc := defScope sNames) (by decide +kernel))
            (fun _ _ _ _ _ => pg_name (i := 13) scNames.nd rfl (Or.inl rfl)) (fun _ _ _ _ _ => pts_nil) (fun _ _ _ _ _ => pe_op op_add_str pe_str (pv 13))))) (pg_name (i := 11) scNames.nd rfl (.inl rfl))
          (pss_one (ps_if (pt_cmpR op_notIn_seq (pv 11) (pv 10) rfl) (pss_one (ps_expr (pe_bm PySem.F.plainAttrs_list PySem.F.slot_list_append PySem.F.type_list_append mt_append (pv 10) (pa_cons (pv 11) pa_nil)))) pss_nil)))
        (pss_one (ps_ret (pe_slice sl_list (pv 10) po_none (po_some (pv 1)))))), fun H2 some_ signs ss zs y2 y3 y4 y5 y6 y9 mv e1 e2 na nc na2 nc2 hs hz ls lz => ?_⟩
      refine ⟨Nat.zero_le _, fun fo hfo => ?_⟩
      have s1 := same_new (o := .lst []) hfo
      have efo : upd H2 fo (.lst []) fo = some (.lst []) := upd_same
      have mv1 : Mv a c H (upd H2 fo (.lst [])) := mv.trans (Mv.same mv.deck s1)
      have nfo : H fo = none := mv.free hfo
      have foa := mv.deck.neA hfo
      have foc := mv.deck.neC hfo
      have e1' := s1 _ _ e1
      have e2' := s1 _ _ e2
      revert mv1 e1' e2' efo
      generalize upd H2 fo (.lst []) = H3
      intro efo mv1 e1' e2'
      refine ⟨_, rfl, _, rfl, signs, rfl, ⟨_, SL e2'⟩, fun D hD => lc_list (K := K) (a := signs) (xs := zs.map V.str) (fun i H' => Same H3 H' ∧ Tx H' D Lw i) ⟨same_new hD, Tx.zero⟩ (fun i H' _ z => SL (z.1 _ _ e2')) ?_ ?_⟩
      · rintro i x H' hx ⟨sm, ss', g1, g2, g3⟩
        rw [List.getElem?_map] at hx
        obtain ⟨sg, hsg, rfl⟩ := Option.map_eq_some_iff.mp hx
        have hq := hz sg (List.mem_of_getElem? hsg)
        have il : i < zs.length := (List.getElem?_eq_some_iff.mp hsg).1
        have l2 : ("zz" : Str).length = 2 := by decide +kernel
        refine ⟨rfl, _, rfl, _, _, rfl, rfl, (by rw [l2, hq.2, sizeLine_eq]; omega), _, g1, (by rw [List.length_map, g2, sizeLine_eq]; omega), ?_⟩
        refine ⟨Same.put sm hD, Tx.snoc g2 g3 ⟨Lo1.app (lw_of (by decide +kernel)).1 hq.1, by rw [lcat, l2, hq.2]; omega⟩⟩
      · rintro H4 ⟨sm, ws, g1, g2, g3⟩
        rw [List.length_map] at g2
        refine ⟨some_, D, _, _, rfl, rfl, sm _ _ e1', g1, (by rw [List.length_map, List.length_map, sizeLine_eq]; omega), fun p hp => ⟨p, rfl, ⟨_, SL upd_same⟩, ?_⟩⟩
        rw [← List.map_append]
        have s5 := same_new (o := .lst ((ss ++ ws).map V.str)) hp
        have ep : upd H4 p (.lst ((ss ++ ws).map V.str)) p = some (.lst ((ss ++ ws).map V.str)) := upd_same
        have efo' := s5 _ _ (sm _ _ efo)
        have mv5 : Mv a c H (upd H4 p (.lst ((ss ++ ws).map V.str))) := mv1.trans (Mv.same mv1.deck (sm.trans s5))
        have pfo : p ≠ fo := fun e => by
          rw [e] at hp
          rw [sm _ _ efo] at hp
          cases hp
        have pa : p ≠ a := (mv1.trans (Mv.same mv1.deck sm)).deck.neA hp
        have pc : p ≠ c := (mv1.trans (Mv.same mv1.deck sm)).deck.neC hp
        revert ep efo' mv5
        generalize upd H4 p (.lst ((ss ++ ws).map V.str)) = H5
        intro ep efo' mv5
        have allLw : ∀ x ∈ ss ++ ws, Lw x := fun x hx => (List.mem_append.mp hx).elim (hs x) (g3 x)
        refine for_list (K := K) (a := p) (xs := (ss ++ ws).map V.str) (fun i σ H' => Mv a c H H' ∧ H' p = some (.lst ((ss ++ ws).map V.str)) ∧ ∃ (fs : List Str) (y : Option V), σ = [some (.ref a), some (.int n), y2, y3, y4, y5, y6, some (.ref signs), some (.ref some_), y9, some (.ref fo), y, none, none] ∧ H' fo = some (.lst (fs.map V.str)) ∧ fs.Nodup ∧ (∀ x ∈ fs, Lw x) ∧ fs.length ≤ i ∧ (0 < i → fs ≠ []))
          ⟨mv5, ep, [], none, rfl, efo', .nil, (fun _ z => nomatch z), Nat.le_refl _, fun z => absurd z (by decide)⟩ (fun i σ H' _ z => SL z.2.1) ?_ ?_
        · rintro i x σ H' hx ⟨m, hp', fs, y, rfl, hf, nd, hl, ln, h0⟩
          rw [List.getElem?_map] at hx
          obtain ⟨nmx, hnm, rfl⟩ := Option.map_eq_some_iff.mp hx
          have il : i < (ss ++ ws).length := (List.getElem?_eq_some_iff.mp hnm).1
          rw [List.length_append] at il
          have fl : (fs.map V.str).all flatV = true := by
            rw [List.all_map, List.all_eq_true]
            exact fun _ _ => rfl
          refine ⟨_, rfl, _, rfl, fo, _, rfl, .inl (SL hf), rfl, fl, _, rfl, ?_⟩
          show if (!inV (.str nmx) (fs.map V.str)) = true then _ else _
          by_cases m1 : nmx ∈ fs
          · rw [inV_str m1]
            refine iteF ⟨m, hp', fs, _, rfl, hf, nd, hl, by omega, fun _ e => ?_⟩
            rw [e] at m1
            cases m1
          · rw [ninV_str m1]
            refine iteT ⟨_, rfl, .inl ⟨rfl, _, SL hf⟩, _, rfl, fo, _, _, rfl, rfl, hf, (by rw [List.length_map, sizeLine_eq]; omega), ?_⟩
            refine ⟨Mv.put m nfo foa foc, by rw [upd_ne pfo]; exact hp', fs ++ [nmx], _, rfl, by rw [upd_same, List.map_append]; rfl, ?_, fun x hx => ?_, by simp; omega, fun _ => by simp⟩
            · rw [List.nodup_append]
              refine ⟨nd, by simp, fun y hy z hz e => ?_⟩
              rw [List.mem_singleton.mp hz] at e
              exact m1 (e ▸ hy)
            · rcases List.mem_append.mp hx with z | z
              · exact hl x z
              · rw [List.mem_singleton.mp z]
                exact allLw _ (List.mem_of_getElem? hnm)
        · rintro σ H6 ⟨m, hp', fs, y, rfl, hf, nd, hl, ln, h0⟩
          have fne : fs ≠ [] := h0 (by rw [List.length_map, List.length_append]; omega)
          obtain ⟨nn, rfl⟩ := Int.eq_ofNat_of_zero_le (show 0 ≤ n by omega)
          refine ⟨_, rfl, _, rfl, _, rfl, fo, _, rfl, SL hf, fun p2 hp2 => ?_⟩
          have ecut : cutV (fs.map V.str) none (some (nn : Int)) = ((fs.take nn).map V.str) := by
            unfold cutV
            rw [HT.sIx_none, HT.sIx_nat, List.drop_zero, Nat.sub_zero, List.map_take, List.length_map]
            by_cases cc : nn ≤ fs.length
            · rw [Nat.min_eq_left cc]
            · rw [Nat.min_eq_right (by omega), List.take_of_length_le (by simp), List.take_of_length_le (by simp; omega)]
          rw [ecut]
          refine q p2 (fs.take nn) _ (m.trans (Mv.same m.deck (same_new hp2))) (m.free hp2) upd_same ⟨fun e => ?_, nd.sublist (List.take_sublist _ _), fun x hx => hl x (List.mem_of_mem_take hx)⟩ (by rw [List.length_take]; omega)
          rw [List.take_eq_nil_iff] at e
          rcases e with e | e
          · omega
          · exact fne e
    obtain ⟨tt, ht, hq⟩ := tail
    refine ⟨_, pss_cons (ps_set (i := 2) scNames.nd rfl (.inr rfl) pe_str)
      (pss_cons (ps_asg (pe_tup (pa_cons (pe_call GD hr (by rfl) DD.at_ DD.fn.kp DD.b .nil pass0 (pa_cons (pv 0) (pa_cons pe_int pa_nil))) (pa_cons (pe_call GD hr (by rfl) DD.at_ DD.fn.kp DD.b .nil pass0 (pa_cons (pv 0) (pa_cons pe_int pa_nil))) (pa_cons (pe_call GD hr (by rfl) DD.at_ DD.fn.kp DD.b .nil pass0 (pa_cons (pv 0) (pa_cons pe_int pa_nil))) pa_nil))))
        (pg_tup rfl (pgs_cons (pg_name (i := 3) scNames.nd rfl (.inl rfl)) (pgs_cons (pg_name (i := 4) scNames.nd rfl (.inr rfl)) (pgs_cons (pg_name (i := 5) scNames.nd rfl (.inr rfl)) pgs_nil)))))
      (pss_cons (ps_set (i := 6) scNames.nd rfl (.inr rfl) (pe_join pe_str (pe_lc (own := [("_law_k", 12)]) (g := gName 12) (tt := tYes) rfl scNames.nd (pi_range1 (by rfl) G.range (pa_cons pe_int pa_nil)) (blkOk_by (own := [("_law_k", 12)]) (N := nNames) (sc := defScope sNames) (by decide +kernel))
          (fun _ _ _ _ _ => pg_name (i := 12) scNames.nd rfl (Or.inl rfl)) (fun _ _ _ _ _ => pts_nil) (fun _ _ _ _ _ => pe_ix ix_str (pv 2) (pe_call GD hr (by rfl) DD.at_ DD.fn.kp DD.b .nil pass0 (pa_cons (pv 0) (pa_cons pe_int pa_nil))) (fun _ _ => rfl)))))
      (pss_cons (ps_setLc (i := 7) (own := [("_law_k", 12)]) (g := gName 12) (tt := tYes) (by rfl) scNames.nd rfl rfl (sw_true rfl rfl rfl (by decide +kernel)) (pi_range1 (by rfl) G.range (pa_cons pe_int pa_nil)) (blkOk_by (own := [("_law_k", 12)]) (N := nNames) (sc := defScope sNames) (by decide +kernel))
          (fun _ _ _ _ _ => pg_name (i := 12) scNames.nd rfl (Or.inl rfl)) (fun _ _ _ _ _ => pts_nil) (fun _ _ _ _ _ => pe_ix ix_str (pv 2) (pe_op op_mod (pe_op op_add (pv 4) (pe_op op_mul pe_int (pv 12))) pe_int) (fun _ _ => rfl)))
      (pss_cons (ps_set (i := 8) scNames.nd rfl (.inl rfl) (pe_lst (pa_cons (pv 7) (pa_cons (pe_lc (own := [("_law_sign", 13)]) (g := gName 13) (tt := tYes) rfl scNames.nd (pi_list (pv 7)) (blkOk_by (own := [("_law_sign", 13)]) (N := nNames) (sc := defScope sNames) (by decide +kernel))
            (fun _ _ _ _ _ => pg_name (i := 13) scNames.nd rfl (Or.inl rfl)) (fun _ _ _ _ _ => pts_nil) (fun _ _ _ _ _ => pe_op op_add_str (pe_op op_add_str (pe_slice sl_str (pv 6) po_none (po_some (pv 5))) (pv 13)) (pe_slice sl_str (pv 6) (po_some (pv 5)) po_none)))
          (pa_cons (pe_lc (own := [("_law_k", 12)]) (g := gName 12) (tt := tYes) rfl scNames.nd (pi_range1 (by rfl) G.range (pa_cons pe_int pa_nil)) (blkOk_by (own := [("_law_k", 12)]) (N := nNames) (sc := defScope sNames) (by decide +kernel))
            (fun _ _ _ _ _ => pg_name (i := 12) scNames.nd rfl (Or.inl rfl)) (fun _ _ _ _ _ => pts_nil) (fun _ _ _ _ _ => pe_op op_add_str pe_str (pe_slice sl_str (pv 6) po_none (po_some (pv 12))))) pa_nil)))))
      (pss_cons (ps_set (i := 9) scNames.nd rfl (.inl rfl) (pe_lst (pa_cons pe_str (pa_cons pe_str (pa_cons pe_str (pa_cons pe_str (pa_cons pe_str (pa_cons pe_str (pa_cons pe_str (pa_cons pe_str (pa_cons pe_str (pa_cons pe_str (pa_cons pe_str (pa_cons pe_str (pa_cons pe_str pa_nil)))))))))))))))
      (pss_cons (ps_set (i := 8) scNames.nd rfl (.inl rfl) (pe_ix ix_list (pe_op op_cat (pv 8) (pe_lst (pa_cons (pe_op op_cat (pe_slice sl_list (pv 9) (po_some (pe_op op_mod (pv 4) pe_int)) po_none) (pe_slice sl_list (pv 9) po_none (po_some (pe_op op_mod (pv 4) pe_int)))) pa_nil))) (pv 3) (fun _ _ => rfl)))
      ht)))))), ?_⟩
    have lz : (("abcdefghijklmnopqrstuvwxyz" : Str)).length ≤ sizeLine := by decide +kernel
    refine ⟨.ref a, rfl, a, c, 4, rfl, dk, by decide, by decide, fun way H1 w0 w1 m1 => ⟨.ref a, rfl, a, c, 26, rfl, m1.deck, by decide, by decide, fun at_ H2 at0 at1 m2 => ⟨.ref a, rfl, a, c, 8, rfl, m2.deck, by decide, by decide, fun hole H3 h0 h1 m3 => ⟨(by show 3 ≤ sizeLine; decide), fun t ht1 => ?_⟩⟩⟩⟩
    refine ⟨t, _, rfl, sq_new, rfl, _, _, rfl, _, _, rfl, _, _, rfl, rfl, ?_⟩
    have mv : Mv a c H (upd H3 t (.tup [.int way, .int at_, .int hole])) := ((m1.trans m2).trans m3).trans (Mv.same m3.deck (same_new ht1))
    revert mv
    show _ → tSeq _ _ _ _ (upd H3 t (.tup [.int way, .int at_, .int hole]))
    generalize upd H3 t (.tup [.int way, .int at_, .int hole]) = H4
    intro mv
    -- the word
    refine ⟨⟨_, rfl⟩, 7, rfl, by decide, by decide, fun D hD => lc_range (lo := 0) (n := 7) (fun i H' => Mv a c H4 H' ∧ Tx H' D (fun x => Lo1 x ∧ x.length = 1) i) ⟨Mv.same mv.deck (same_new hD), Tx.zero⟩ ?_ ?_⟩
    · rintro i H' hi ⟨m, ss, g1, g2, g3⟩
      have nDa : D ≠ a := mv.deck.neA hD
      have nDc : D ≠ c := mv.deck.neC hD
      refine ⟨rfl, _, rfl, .ref a, rfl, a, c, 26, rfl, m.deck, by decide, by decide, fun r H5 r0 r1 m5 => ?_⟩
      obtain ⟨ch, e1, c1, c2⟩ := letter_at r0 r1
      refine ⟨_, _, ch, rfl, rfl, lz, e1, _, m5.keep _ _ g1 nDa nDc, (by rw [List.length_map, g2, sizeLine_eq]; omega), ?_⟩
      exact ⟨Mv.put (m.trans m5) hD nDa nDc, Tx.snoc g2 g3 (one_low c1 c2)⟩
    · rintro H5 ⟨m5, ss, g1, g2, g3⟩
      have l0 : ("" : Str).length = 0 := by decide +kernel
      refine ⟨_, D, ss, rfl, rfl, .inl (SL g1), (by rw [sum_ones ss g3, l0]; omega), ?_⟩
      have ej : Txt.join ("" : Str) ss = Str.join ("" : Str) ss := TL.join_eq _ _
      rw [ej]
      obtain ⟨w1, w2⟩ := join_low ss g3
      rw [g2] at w2
      obtain ⟨word, ew⟩ : ∃ word, word = Str.join ("" : Str) ss := ⟨_, rfl⟩
      rw [← ew] at w1 w2 ⊢
      have wz : word.length ≤ sizeLine := by rw [w2]; decide
      have mv5 := mv.trans m5
      -- the signs
      refine ⟨26, rfl, by decide, by decide, fun D2 hD2 => lc_range (lo := 0) (n := 26) (fun i H' => Same H5 H' ∧ Tx H' D2 (fun x => Lo1 x ∧ x.length = 1) i) ⟨same_new hD2, Tx.zero⟩ ?_ ?_⟩
      · rintro i H' hi ⟨sm, ss2, g1, g2, g3⟩
        obtain ⟨ch, e1, c1, c2⟩ := letter_at (r := (at_ + 5 * (0 + (i : Int))) % 26) (Int.emod_nonneg _ (by decide)) (Int.emod_lt_of_pos _ (by decide))
        refine ⟨rfl, _, rfl, _, rfl, _, rfl, _, _, rfl, rfl, .inl ⟨by decide, by decide⟩, _, _, rfl, rfl, _, _, rfl, rfl, (by decide : (0 : Int) < 26), _, _, ch, rfl, rfl, lz, e1, _, g1, (by rw [List.length_map, g2, sizeLine_eq]; omega), ?_⟩
        exact ⟨Same.put sm hD2, Tx.snoc g2 g3 (one_low c1 c2)⟩
      · rintro H6 ⟨s6, zs, z1, z2, z3⟩
        have mv6 := mv5.trans (Mv.same mv5.deck s6)
        have n2a : D2 ≠ a := mv5.deck.neA hD2
        have n2c : D2 ≠ c := mv5.deck.neC hD2
        -- the rows
        refine ⟨_, rfl, _, rfl, D2, rfl, ⟨_, SL z1⟩, fun D3 hD3 => lc_list (K := K) (a := D2) (xs := zs.map V.str) (fun i H' => Same H6 H' ∧ Tx H' D3 Lw i) ⟨same_new hD3, Tx.zero⟩ (fun i H' _ z => SL (z.1 _ _ z1)) ?_ ?_⟩
        · rintro i x H' hx ⟨sm, ss3, g1, g2, g3⟩
          rw [List.getElem?_map] at hx
          obtain ⟨sg, hsg, rfl⟩ := Option.map_eq_some_iff.mp hx
          have hq2 := z3 sg (List.mem_of_getElem? hsg)
          have il : i < zs.length := (List.getElem?_eq_some_iff.mp hsg).1
          have k1 := cut_low w1 none (some hole)
          have k2 := cut_low w1 (some hole) none
          refine ⟨rfl, _, rfl, _, rfl, _, rfl, word, rfl, wz, _, rfl, _, _, rfl, rfl, (by have := k1.2; rw [hq2.2, sizeLine_eq]; omega), _, rfl, _, rfl, _, rfl, word, rfl, wz, _, _, rfl, rfl, (by have := k1.2; have := k2.2; rw [lcat, hq2.2, sizeLine_eq]; omega), _, g1, (by rw [List.length_map, g2, sizeLine_eq]; omega), ?_⟩
          exact ⟨Same.put sm hD3, Tx.snoc g2 g3 ⟨Lo1.app (Lo1.app k1.1 hq2.1) k2.1, by have := k1.2; have := k2.2; rw [lcat, lcat, hq2.2]; omega⟩⟩
        · rintro H7 ⟨s7, r1s, q1, q2, q3⟩
          refine ⟨8, rfl, by decide, by decide, fun D4 hD4 => lc_range (lo := 0) (n := 8) (fun i H' => Same H7 H' ∧ Tx H' D4 Lw i) ⟨same_new hD4, Tx.zero⟩ ?_ ?_⟩
          · rintro i H' hi ⟨sm, ss4, g1, g2, g3⟩
            have k1 := cut_low w1 none (some (0 + (i : Int)))
            have lq : ("q" : Str).length = 1 := by decide +kernel
            refine ⟨rfl, _, rfl, _, rfl, _, rfl, word, rfl, wz, _, _, rfl, rfl, (by have := k1.2; rw [lq, sizeLine_eq]; omega), _, g1, (by rw [List.length_map, g2, sizeLine_eq]; omega), ?_⟩
            exact ⟨Same.put sm hD4, Tx.snoc g2 g3 ⟨Lo1.app (lw_of (by decide +kernel)).1 k1.1, by have := k1.2; rw [lcat, lq]; omega⟩⟩
          · rintro H8 ⟨s8, r2s, p1, p2, p3⟩
            refine ⟨(by show 3 ≤ sizeLine; decide), fun so hso => ?_⟩
            have s9 := same_new (o := .lst [.ref D2, .ref D3, .ref D4]) hso
            have eso : upd H8 so (.lst [.ref D2, .ref D3, .ref D4]) so = some (.lst [.ref D2, .ref D3, .ref D4]) := upd_same
            refine ⟨(by show 13 ≤ sizeLine; decide), fun wo hwo => ?_⟩
            have s10 := same_new (o := .lst (thirteen.map V.str)) hwo
            have s8' := s8.trans (s9.trans s10)
            have e1 := ((s7.trans s8').trans (Same.refl _)) _ _ z1
            have e2 := s8' _ _ q1
            have e3 := (s9.trans s10) _ _ p1
            have e4 := s10 _ _ eso
            have e5 : upd (upd H8 so (.lst [.ref D2, .ref D3, .ref D4])) wo (.lst (thirteen.map V.str)) wo = some (.lst (thirteen.map V.str)) := upd_same
            have sA := (s6.trans s7).trans s8'
            have mvA := mv5.trans (Mv.same mv5.deck sA)
            have n3a : D3 ≠ a := (mv6).deck.neA hD3
            have n3c : D3 ≠ c := (mv6).deck.neC hD3
            have mv7 := mv6.trans (Mv.same mv6.deck s7)
            have n4a : D4 ≠ a := mv7.deck.neA hD4
            have n4c : D4 ≠ c := mv7.deck.neC hD4
            revert e1 e2 e3 e4 e5 mvA
            show _ → _ → _ → _ → _ → _ → tSeq _ _ _ _ (upd (upd H8 so (.lst [.ref D2, .ref D3, .ref D4])) wo (.lst (thirteen.map V.str)))
            generalize upd (upd H8 so (.lst [.ref D2, .ref D3, .ref D4])) wo (.lst (thirteen.map V.str)) = H9
            intro e1 e2 e3 e4 e5 mvA
            have sub : ∀ (lo hi : Option Int) (x : V), x ∈ cutV (thirteen.map V.str) lo hi → ∃ y ∈ thirteen, x = .str y := fun lo hi x hx => by
              unfold cutV at hx
              obtain ⟨y, hy, rfl⟩ := List.mem_map.mp (List.mem_of_mem_drop (List.mem_of_mem_take hx))
              exact ⟨y, hy, rfl⟩
            have txs : ∀ (lo hi : Option Int), ∃ zs : List Str, cutV (thirteen.map V.str) lo hi = zs.map V.str ∧ (∀ x ∈ zs, x ∈ thirteen) ∧ zs.length ≤ 13 := fun lo hi => by
              refine ⟨(thirteen.drop (HT.sIx 13 0 lo)).take (HT.sIx 13 13 hi - HT.sIx 13 0 lo), ?_, fun x hx => List.mem_of_mem_drop (List.mem_of_mem_take hx), ?_⟩
              · unfold cutV
                rw [List.map_take, List.map_drop]
                rfl
              · rw [List.length_take, List.length_drop]
                have : thirteen.length = 13 := rfl
                omega
            obtain ⟨c1, ec1, hc1, lc1⟩   := txs (some (at_ % 13)) none
            obtain ⟨c2, ec2, hc2, lc2⟩ := txs none (some (at_ % 13))
            refine ⟨_, rfl, _, rfl, _, rfl, _, _, rfl, rfl, (by decide : (0 : Int) < 13), _, rfl, wo, _, rfl, SL e5, fun b1 hb1 => ?_⟩
            rw [ec1]
            have t1 := same_new (o := .lst (c1.map V.str)) hb1
            refine ⟨_, rfl, _, rfl, _, _, rfl, rfl, (by decide : (0 : Int) < 13), _, rfl, wo, _, rfl, SL (t1 _ _ e5), fun b2 hb2 => ?_⟩
            rw [ec2]
            have t2 := same_new (o := .lst (c2.map V.str)) hb2
            have eb1 : upd H9 b1 (.lst (c1.map V.str)) b1 = some (.lst (c1.map V.str)) := upd_same
            refine ⟨b1, b2, _, _, rfl, rfl, t2 _ _ eb1, upd_same, (by rw [List.length_map, List.length_map, sizeLine_eq]; omega), fun b3 hb3 => ?_⟩
            rw [← List.map_append]
            have t3 := same_new (o := .lst ((c1 ++ c2).map V.str)) hb3
            have eb3 : upd (upd (upd H9 b1 (.lst (c1.map V.str))) b2 (.lst (c2.map V.str))) b3 (.lst ((c1 ++ c2).map V.str)) b3 = some (.lst ((c1 ++ c2).map V.str)) := upd_same
            refine ⟨(by show 1 ≤ sizeLine; decide), fun b4 hb4 => ?_⟩
            have t4 := same_new (o := .lst [.ref b3]) hb4
            have tA := ((t1.trans t2).trans t3).trans t4
            refine ⟨so, b4, _, _, rfl, rfl, tA _ _ e4, upd_same, (by show 3 + 1 ≤ sizeLine; decide), fun b5 hb5 => ?_⟩
            have t5 := same_new (o := .lst [.ref D2, .ref D3, .ref D4, .ref b3]) hb5
            have tB := tA.trans t5
            have mvB := mvA.trans (Mv.same mvA.deck tB)
            have n5a : b3 ≠ a := (mvA.trans (Mv.same mvA.deck (t1.trans t2))).deck.neA hb3
            have n5c : b3 ≠ c := (mvA.trans (Mv.same mvA.deck (t1.trans t2))).deck.neC hb3
            have f3 := (t4.trans t5) _ _ eb3
            have pick : ∃ (sm : Addr) (ss : List Str), atI [V.ref D2, .ref D3, .ref D4, .ref b3] way = some (.ref sm) ∧ upd (upd (upd (upd (upd H9 b1 (.lst (c1.map V.str))) b2 (.lst (c2.map V.str))) b3 (.lst ((c1 ++ c2).map V.str))) b4 (.lst [.ref b3])) b5 (.lst [.ref D2, .ref D3, .ref D4, .ref b3]) sm = some (.lst (ss.map V.str)) ∧ sm ≠ a ∧ sm ≠ c ∧ (∀ x ∈ ss, Lw x) ∧ ss.length ≤ 26 := by
              have wc : way = 0 ∨ way = 1 ∨ way = 2 ∨ way = 3 := by omega
              rcases wc with e | e | e | e <;> subst e
              · exact ⟨D2, zs, rfl, tB _ _ e1, n2a, n2c, (fun x hx => ⟨(z3 x hx).1, by rw [(z3 x hx).2]; decide⟩), by omega⟩
              · exact ⟨D3, r1s, rfl, tB _ _ e2, n3a, n3c, q3, by rw [q2, List.length_map]; omega⟩
              · exact ⟨D4, r2s, rfl, tB _ _ e3, n4a, n4c, p3, by omega⟩
              · refine ⟨b3, c1 ++ c2, rfl, f3, n5a, n5c, fun x hx => ?_, by rw [List.length_append]; omega⟩
                exact (List.mem_append.mp hx).elim (fun z => thirteen_lw x (hc1 x z)) fun z => thirteen_lw x (hc2 x z)
            obtain ⟨sm, ss5, k1, k2, k3, k4, k5, k6⟩ := pick
            exact ⟨_, rfl, b5, _, _, _, rfl, rfl, SL upd_same, k1, hq _ sm D2 ss5 zs _ _ _ _ _ _ mvB k2 (tB _ _ e1) k3 k4 n2a n2c k5 z3 k6 z2⟩
end
end K15
set_option Elab.async false
set_option linter.all false
set_option maxRecDepth 100000
set_option maxHeartbeats 4000000
namespace K15
open PySem PySem.Spec PyProof.Rows L2 KG NR SU SA RI
section
variable {P : Program} {w : World} {K : PySem.W.Frag} {mg : Str → Option Value} {base : Heap} {pW pN : Addr}
theorem Deck.lst1 {a c : Addr} {H : Hp} (d : Deck H a c) : ∃ xs, H a = some (.lst xs) := by
  obtain ⟨⟨ns, sd, n, h, _⟩, _⟩ := d
  exact ⟨_, h⟩
theorem Deck.lst2 {a c : Addr} {H : Hp} (d : Deck H a c) : ∃ xs, H c = some (.lst xs) := by
  obtain ⟨⟨ns, sd, n, _, h, _⟩, _⟩ := d
  exact ⟨_, h⟩
theorem Mv.tk {a c : Addr} {H H' : Hp} (m : Mv a c H H') (d : Deck H a c) : Tk H H' := by
  obtain ⟨x1, h1⟩ := d.lst1
  obtain ⟨x2, h2⟩ := d.lst2
  have no : ∀ {b : Addr} {o : HO}, H b = some o → (∀ ys, o ≠ .lst ys) → b ≠ a ∧ b ≠ c := fun {b o} e h => by
    refine ⟨fun z => ?_, fun z => ?_⟩
    · rw [z, h1] at e
      exact h _ (Option.some.inj e).symm
    · rw [z, h2] at e
      exact h _ (Option.some.inj e).symm
  refine ⟨fun b xs e => ?_, fun b o u e => ?_⟩
  · obtain ⟨n1, n2⟩ := no e (fun ys z => nomatch z)
    exact m.keep _ _ e n1 n2
  · obtain ⟨n1, n2⟩ := no e (fun ys z => nomatch z)
    exact m.keep _ _ e n1 n2
/-! ### leaf -/
abbrev sLLeaf : Stmt := topS 31
abbrev pDN : List Str := ["_law_deck_here", "_law_names_here"]
theorem scLLeaf : FnScope ["_law_deck_here", "_law_names_here", "_law_way", "_law_number_here"] pDN (defScope sLLeaf) := ⟨rfl, rfl, rfl, by decide +kernel, rfl, by decide +kernel, by decide +kernel⟩
/-- names at p, none of the deck's -/
structure NmAt (K : PySem.W.Frag) (H : Hp) (a c p : Addr) (ns : List Str) : Prop where
  at_ : SqL K H p (ns.map V.str)
  pa : p ≠ a
  pc : p ≠ c
  ne : ns ≠ []
  ln : ns.length ≤ 8
theorem NmAt.mv {a c p : Addr} {H H' : Hp} {ns : List Str} (h : NmAt K H a c p ns) (m : Mv a c H H') : NmAt K H' a c p ns := ⟨m.sql h.at_ h.pa h.pc, h.pa, h.pc, h.ne, h.ln⟩
def spLLeaf (K : PySem.W.Frag) : Sp := fun vs H Q _ => ∃ (a c p : Addr) (ns : List Str), vs = [.ref a, .ref p] ∧ Deck H a c ∧ NmAt K H a c p ns ∧
  ∀ v t H', Mv a c H H' → TmAt K H' v t → Trm.In ns t → Trm.dep t = 1 → Q v H'
def nine : List Int := [0, 1, 2, 65535, 65534, 32768, 256, 3, 40503]
theorem nine_rng : ∀ x ∈ nine.map V.int, ∃ k, x = .int k ∧ 0 ≤ k ∧ k < 65536 := fun x hx => by
  obtain ⟨k, hk, rfl⟩ := List.mem_map.mp hx
  have h : ∀ k ∈ nine, 0 ≤ k ∧ k < 65536 := by decide
  exact ⟨k, rfl, h k hk⟩
/-- what a deck serves -/
structure DkD (K : PySem.W.Frag) (mg : Str → Option Value) (fD fP : Addr) (fdD fdP : FuncData) : Prop where
  d : Def K mg "_law_draw" sDraw ["_law_deck_here", "_law_many"] fD fdD
  p : Def K mg "_law_pick" sPick ["_law_deck_here", "_law_some"] fP fdP
variable {fD fPk : Addr} {fdD fdPk : FuncData}
theorem ok_lleaf {f : Addr} {fd : FuncData} {k : Nat} (F : Fun K "_law_leaf" "_law_leaf" sLLeaf f fd) (G : Glob K mg pW pN) (D : DkD K mg fD fPk fdD fdPk) : FnOk P w K mg base CX0 (k + 3) f fd pDN (spLLeaf K) := by
  have GD : FnOk P w K mg base CX0 (k + 1) fD fdD ["_law_deck_here", "_law_many"] spDraw := ok_draw D.d.fn
  have GP : FnOk P w K mg base CX0 (k + 2) fPk fdPk ["_law_deck_here", "_law_some"] (spPick K) := ok_pick D.p.fn G.len D.d.fn D.d.at_ D.d.b
  refine F.ok scLLeaf (fun vs H Q E h => ?_) (fun cdv A outer s H vs Q E hr h => ?_)
  · obtain ⟨a, c, p, ns, rfl, _⟩ := h
    rfl
  · obtain ⟨a, c, p, ns, rfl, dk, N, q⟩ := h
    have hr1 : Room (k + 1) _ := hr.mono (by omega)
    refine ⟨_, pss_cons (ps_par (i := 2) (j := 3) (by rfl) scLLeaf.nd rfl rfl (by decide) rfl rfl (pa_cons (pe_call GD hr1 (by rfl) D.d.at_ D.d.fn.kp D.d.b .nil pass0 (pa_cons (pv 0) (pa_cons pe_int pa_nil))) (pa_cons (pe_call GD hr1 (by rfl) D.d.at_ D.d.fn.kp D.d.b .nil pass0 (pa_cons (pv 0) (pa_cons pe_int pa_nil))) pa_nil)) (by rfl))
      (pss_cons (ps_if (pt_cmpR op_gt (pv 2) pe_int (nomark _)) (pss_one (ps_ret (pe_tup (pa_cons pe_str (pa_cons (pe_call GP hr (by rfl) D.p.at_ D.p.fn.kp D.p.b .nil pass0 (pa_cons (pv 0) (pa_cons (pv 1) pa_nil))) pa_nil))))) pss_nil)
      (pss_one (ps_ret (pe_tup (pa_cons pe_str (pa_cons (pe_ix ix_list (pe_lst (pa_cons pe_int (pa_cons pe_int (pa_cons pe_int (pa_cons pe_int (pa_cons pe_int (pa_cons pe_int (pa_cons pe_int (pa_cons pe_int (pa_cons pe_int pa_nil)))))))))) (pv 3) (fun _ _ => rfl)) pa_nil)))))), ?_⟩
    refine ⟨_, rfl, a, c, 3, rfl, dk, by decide, by decide, fun way H1 w0 w1 m1 => ⟨_, rfl, a, c, 9, rfl, m1.deck, by decide, by decide, fun nu H2 n0 n1 m2 => ⟨_, _, rfl, ?_⟩⟩⟩
    have m := m1.trans m2
    refine ⟨_, rfl, _, _, rfl, rfl, _, rfl, iteD (fun c1 => ?_) (fun c1 => ?_)⟩
    · have N2 := N.mv m
      refine ⟨_, rfl, _, rfl, a, c, p, ns.map V.str, rfl, m.deck, N2.at_, N.pa, N.pc, by simpa using N.ne, by have := N.ln; rw [List.length_map]; omega, fun x H3 hx m3 => ?_⟩
      obtain ⟨nm, hn, rfl⟩ := List.mem_map.mp hx
      refine ⟨(by show 2 ≤ sizeLine; decide), fun t ht => ?_⟩
      have mA := m.trans m3
      exact q _ (.nam nm) _ (mA.trans (Mv.same mA.deck (same_new ht))) (.nam sq_new) hn rfl
    · refine ⟨(by show 9 ≤ sizeLine; decide), fun l hl => ?_⟩
      obtain ⟨j, rfl⟩ := Int.eq_ofNat_of_zero_le n0
      have jl : j < (nine.map V.int).length := by
        show j < 9
        omega
      obtain ⟨kk, ek, k0, k1⟩ := nine_rng _ (List.getElem_mem jl)
      have hat : atI (nine.map V.int) (j : Int) = some (.int kk) := by
        rw [← ek]
        exact atI_nat (List.getElem?_eq_getElem jl)
      refine ⟨_, rfl, l, nine.map V.int, _, _, rfl, rfl, SL upd_same, hat, (by show 2 ≤ sizeLine; decide), fun t ht => ?_⟩
      exact q _ (.num kk) _ (m.trans (Mv.same m.deck ((same_new hl).trans (same_new ht)))) (.num sq_new) ⟨k0, k1⟩ rfl
/-! ### term -/
/-- all but the deck and the list at l is kept -/
structure Mw (a c l : Addr) (H H' : Hp) : Prop where
  keep : ∀ b o, H b = some o → b ≠ a → b ≠ c → b ≠ l → H' b = some o
  deck : Deck H' a c
  left : ∃ n : Int, H' l = some (.lst [.int n])
  tk : Tk H H'
theorem Mw.trans {a c l : Addr} {H H1 H2 : Hp} (m : Mw a c l H H1) (n : Mw a c l H1 H2) : Mw a c l H H2 := ⟨fun b o e h1 h2 h3 => n.keep b o (m.keep b o e h1 h2 h3) h1 h2 h3, n.deck, n.left, m.tk.trans n.tk⟩
theorem Mw.of {a c l : Addr} {H H' : Hp} (m : Mv a c H H') (d : Deck H a c) (hl : ∃ n : Int, H l = some (.lst [.int n])) (n1 : l ≠ a) (n2 : l ≠ c) : Mw a c l H H' := by
  obtain ⟨n, e⟩ := hl
  exact ⟨fun b o e h1 h2 _ => m.keep b o e h1 h2, m.deck, ⟨n, m.keep _ _ e n1 n2⟩, m.tk d⟩
theorem Mw.nm {a c l p : Addr} {H H' : Hp} {ns : List Str} (m : Mw a c l H H') (h : NmAt K H a c p ns) (pl : p ≠ l) : NmAt K H' a c p ns := by
  refine ⟨?_, h.pa, h.pc, h.ne, h.ln⟩
  rcases h.at_ with (z | ⟨o, z⟩) | z
  · exact .inl (.inl (m.keep _ _ z h.pa h.pc pl))
  · exact .inl (.inr ⟨o, m.keep _ _ z h.pa h.pc pl⟩)
  · exact .inr z
abbrev sTerm : Stmt := topS 32
abbrev pTerm : List Str := ["_law_deck_here", "_law_names_here", "_law_deep", "_law_left"]
abbrev nTerm : List Str := ["_law_deck_here", "_law_names_here", "_law_deep", "_law_left", "_law_word", "_law_here"]
theorem scTerm : FnScope nTerm pTerm (defScope sTerm) := ⟨rfl, rfl, rfl, by decide +kernel, rfl, by decide +kernel, by decide +kernel⟩
def eight : List Str := ["leaf", "sum", "less", "times", "over", "below", "same", "sum"]
theorem eight_six {x : Str} (h : x ∈ eight) (n : x ≠ "leaf") : x ∈ SU.six := by
  have z : ∀ x ∈ eight, x = "leaf" ∨ x ∈ SU.six := by decide +kernel
  exact (z x h).elim (fun e => absurd e n) id
def spTerm (K : PySem.W.Frag) (d : Nat) : Sp := fun vs H Q _ => ∃ (a c p l : Addr) (ns : List Str), vs = [.ref a, .ref p, .int d, .ref l] ∧ 1 ≤ d ∧ Deck H a c ∧ NmAt K H a c p ns ∧ p ≠ l ∧ (∃ n : Int, H l = some (.lst [.int n])) ∧ l ≠ a ∧ l ≠ c ∧
  ∀ v t H', Mw a c l H H' → TmAt K H' v t → Trm.dep t ≤ d → Trm.In ns t → Q v H'
theorem ok_term {f fL : Addr} {fd fdL : FuncData} (DT : Def K mg "_law_term" sTerm pTerm f fd) (G : Glob K mg pW pN) (D : DkD K mg fD fPk fdD fdPk) (DL : Def K mg "_law_leaf" sLLeaf pDN fL fdL) : ∀ d : Nat, FnOk P w K mg base CX0 (d + 4) f fd pTerm (spTerm K d)
  | 0 => ⟨fun vs H Q E h => by obtain ⟨a, c, p, l, ns, rfl, _⟩ := h; rfl, fun A outer s H args us vs Q E _ _ _ _ h => by
      obtain ⟨a, c, p, l, ns, _, h1, _⟩ := h
      exact absurd h1 (by decide)⟩
  | d + 1 => by
    have IH := ok_term DT G D DL d
    have GP : FnOk P w K mg base CX0 (0 + 2) fPk fdPk ["_law_deck_here", "_law_some"] (spPick K) := ok_pick D.p.fn G.len D.d.fn D.d.at_ D.d.b
    have GL : FnOk P w K mg base CX0 (0 + 3) fL fdL pDN (spLLeaf K) := ok_lleaf DL.fn G D
    refine DT.fn.ok scTerm (fun vs H Q E h => ?_) (fun cdv A outer s H vs Q E hr h => ?_)
    · obtain ⟨a, c, p, l, ns, rfl, _⟩ := h
      rfl
    · obtain ⟨a, c, p, l, ns, rfl, _, dk, N, pl, ⟨n, hl⟩, la, lc, q⟩ := h
      have h2 : Room (0 + 2) _ := hr.mono (by omega)
      have h3 : Room (0 + 3) _ := hr.mono (by omega)
      have tail : ∃ t, PSs (cxOf CX0 P w K mg base nTerm "_law_term" (defScope sTerm) f cdv A outer s H E).nox ((defBody sTerm).drop 2) t ∧
          ∀ (H2 : Hp) (wd : Str), Mw a c l H H2 → wd ∈ SU.six → 1 ≤ d → t { nx := fun _ H' => Q .non H', rt := Q } [some (.ref a), some (.ref p), some (.int (d + 1 : Nat)), some (.ref l), some (.str wd), none] H2 := by
        refine ⟨_, pss_cons (ps_asg (pe_op op_sub (pe_ix ix_list (pv 3) pe_int (fun _ _ => rfl)) pe_int) (pg_sub (pv 3) pe_int set_list))
          (pss_cons (ps_set (i := 5) scTerm.nd rfl (.inl rfl) (pe_call IH hr (by rfl) DT.at_ DT.fn.kp DT.b .nil pass0 (pa_cons (pv 0) (pa_cons (pv 1) (pa_cons (pe_op op_sub (pv 2) pe_int) (pa_cons (pv 3) pa_nil))))))
          (pss_one (ps_ret (pe_tup (pa_cons (pv 4) (pa_cons (pv 5) (pa_cons (pe_call IH hr (by rfl) DT.at_ DT.fn.kp DT.b .nil pass0 (pa_cons (pv 0) (pa_cons (pv 1) (pa_cons (pe_op op_sub (pv 2) pe_int) (pa_cons (pv 3) pa_nil))))) pa_nil))))))), fun H2 wd m2 hw d1 => ?_⟩
        obtain ⟨n2, e2⟩ := m2.left
        have ed : ((d + 1 : Nat) : Int) - 1 = (d : Nat) := by omega
        refine ⟨_, rfl, l, _, 0, .int n2, rfl, rfl, SL e2, rfl, _, _, rfl, rfl, _, rfl, l, _, 0, 0, rfl, rfl, e2, rfl, ?_⟩
        have m3 : Mw a c l H (upd H2 l (.lst [.int (n2 - 2)])) := by
          refine ⟨fun b o e h1 h2 h3 => by rw [upd_ne h3]; exact m2.keep b o e h1 h2 h3, ?_, ⟨n2 - 2, upd_same⟩, m2.tk.trans (tk_lst e2)⟩
          obtain ⟨⟨ms, sd, nn, e1, e2', e3⟩, ne⟩ := m2.deck
          exact ⟨⟨ms, sd, nn, by rw [upd_ne la.symm]; exact e1, by rw [upd_ne lc.symm]; exact e2', e3⟩, ne⟩
        revert m3
        show _ → tSeq _ _ _ _ (upd H2 l (.lst [.int (n2 - 2)]))
        generalize upd H2 l (.lst [.int (n2 - 2)]) = H3
        intro m3
        refine ⟨_, rfl, _, rfl, _, rfl, _, _, rfl, rfl, _, rfl, a, c, p, l, ns, ?_, d1, m3.deck, m3.nm N pl, pl, m3.left, la, lc, fun v1 t1 H4 m4 ht1 hd1 hi1 => ?_⟩
        · show [V.ref a, V.ref p, V.int (((d + 1 : Nat) : Int) - 1), V.ref l] = _
          rw [ed]
        have mA := m3.trans m4
        refine ⟨_, rfl, _, rfl, _, rfl, _, rfl, _, rfl, _, _, rfl, rfl, _, rfl, a, c, p, l, ns, ?_, d1, mA.deck, mA.nm N pl, pl, mA.left, la, lc, fun v2 t2 H5 m5 ht2 hd2 hi2 => ?_⟩
        · show [V.ref a, V.ref p, V.int (((d + 1 : Nat) : Int) - 1), V.ref l] = _
          rw [ed]
        have mB := mA.trans m5
        refine ⟨(by show 3 ≤ sizeLine; decide), fun t ht => ?_⟩
        have s6 := same_new (o := .tup [.str wd, v1, v2]) ht
        refine q _ (.op wd t1 t2) _ (mB.trans (Mw.of (Mv.same mB.deck s6) mB.deck mB.left la lc)) (.op hw sq_new ((ht1.tk m5.tk).tk (Tk.of s6)) (ht2.tk (Tk.of s6))) ?_ ⟨hw, hi1, hi2⟩
        show max (Trm.dep t1) (Trm.dep t2) + 1 ≤ d + 1
        omega
      obtain ⟨tt, ht, hq⟩ := tail
      refine ⟨_, pss_cons (ps_set (i := 4) scTerm.nd rfl (.inl rfl) (pe_call GP h2 (by rfl) D.p.at_ D.p.fn.kp D.p.b .nil pass0 (pa_cons (pv 0) (pa_cons (pe_lst (pa_cons pe_str (pa_cons pe_str (pa_cons pe_str (pa_cons pe_str (pa_cons pe_str (pa_cons pe_str (pa_cons pe_str (pa_cons pe_str pa_nil))))))))) pa_nil))))
        (pss_cons (ps_if (PW.pt (pw_or (pt_cmpR op_eq (pv 4) pe_str (nomark _)) (pw_or (pt_cmpR op_lt (pv 2) pe_int (nomark _)) (pw_or1 (pt_cmpR op_lt (pe_ix ix_list (pv 3) pe_int (fun _ _ => rfl)) pe_int (nomark _))))))
          (pss_one (ps_ret (pe_call GL h3 (by rfl) DL.at_ DL.fn.kp DL.b .nil pass0 (pa_cons (pv 0) (pa_cons (pv 1) pa_nil))))) pss_nil) ht), ?_⟩
      refine ⟨_, rfl, (by show 8 ≤ sizeLine; decide), fun l0 hl0 => ?_⟩
      have s0 := same_new (o := .lst (eight.map V.str)) hl0
      refine ⟨a, c, l0, eight.map V.str, rfl, dk.same s0, SL upd_same, dk.neA hl0, dk.neC hl0, by decide, by decide, fun x H1 hx m1 => ?_⟩
      obtain ⟨wd, hwd, rfl⟩ := List.mem_map.mp hx
      have m1' := (Mv.same dk s0).trans m1
      have mw1 : Mw a c l H H1 := Mw.of m1' dk ⟨n, hl⟩ la lc
      have leaf : (tRet (tCall (spLLeaf K) [] E0 (tCons (tVar 0) (tCons (tVar 1) tNil)))) { nx := fun _ H' => Q .non H', rt := Q } [some (.ref a), some (.ref p), some (.int (d + 1 : Nat)), some (.ref l), some (.str wd), none] H1 := by
        refine ⟨_, rfl, _, rfl, a, c, p, ns, rfl, m1'.deck, N.mv m1', fun v t H2 m2 ht hi hd => ?_⟩
        exact q v t H2 (mw1.trans (Mw.of m2 m1'.deck mw1.left la lc)) ht (by omega) hi
      obtain ⟨n1, e1⟩ := mw1.left
      refine ⟨_, rfl, rfl, _, rfl, ?_⟩
      rw [strEq]
      refine iteD (fun c1 => leaf) (fun c1 => ?_)
      refine ⟨_, rfl, _, _, rfl, rfl, _, rfl, iteD (fun c2 => leaf) (fun c2 => ?_)⟩
      refine ⟨_, rfl, l, _, 0, .int n1, rfl, rfl, SL e1, rfl, _, _, rfl, rfl, _, rfl, iteD (fun c3 => leaf) (fun c3 => ?_)⟩
      exact hq H1 wd mw1 (eight_six hwd c1) (by omega)
end
end K15
set_option Elab.async false
set_option linter.all false
set_option maxRecDepth 100000
set_option maxHeartbeats 4000000
/-! ## t[:0:-1] of a pair or a triple -/
namespace NB
open PySem PySem.Spec PyProof.Rows L2
section
variable {prog : Program} {w : World} {A : Around} {E : Value → Shared → Prop} {s : Shared}
def backOf : List Value → List Value
  | [_, y] => [y]
  | [_, y, z] => [z, y]
  | _ => []
theorem applied_back {sl : Addr} {vl vu vs : Value} {n : Nat} {Q : Int × Int × Nat → Shared → Prop} (hs : s.heap.IsSliceOf sl vl vu vs) (pl : IsPart vl none) (pu : IsPart vu (some 0)) (ps : IsPart vs (some (-1))) (hn : n = 2 ∨ n = 3)
    (h : Q (((n : Nat) : Int) - 1, -1, n - 1) s) : wpAny (model prog w) A (Builtin.Slice.sliceApplied (.ref sl) (pure (n : Int))) Q E s := by
  obtain ⟨os, hos, hcs, hds⟩ := id hs
  unfold Builtin.Slice.sliceApplied Builtin.Slice.sliceFields
  apply wpAny_bind
  apply wpAny_bind
  refine wpAny_field hos hds (x := vl) rfl (wpAny_bind (wpAny_field hos hds (x := vu) rfl (wpAny_bind (wpAny_field hos hds (x := vs) rfl (wpAny_pure ?_)))))
  refine wpAny_bind (HT.slicePart_ ps ?_)
  show wpAny _ _ (if ((-1 : Int) == 0) = true then _ else _) _ _ s
  rw [if_neg (by decide)]
  refine wpAny_bind (HT.slicePart_ pl (wpAny_bind (HT.slicePart_ pu (wpAny_bind (wpAny_pure ?_)))))
  show wpAny _ _ (match Builtin.Slice.sliceAdjust none (some 0) (-1) (n : Int) with | (lo, hi) => pure (lo, (-1 : Int), Builtin.Slice.slicePlaces lo hi (-1))) _ _ s
  rcases hn with rfl | rfl
  · have e1 : Builtin.Slice.sliceAdjust none (some 0) (-1) (((2 : Nat)) : Int) = (1, 0) := by decide
    have e2 : Builtin.Slice.slicePlaces 1 0 (-1) = 1 := by decide
    rw [e1]
    show wpAny _ _ (pure ((1 : Int), (-1 : Int), Builtin.Slice.slicePlaces 1 0 (-1))) _ _ s
    rw [e2]
    exact wpAny_pure h
  · have e1 : Builtin.Slice.sliceAdjust none (some 0) (-1) (((3 : Nat)) : Int) = (2, 0) := by decide
    have e2 : Builtin.Slice.slicePlaces 2 0 (-1) = 2 := by decide
    rw [e1]
    show wpAny _ _ (pure ((2 : Int), (-1 : Int), Builtin.Slice.slicePlaces 2 0 (-1))) _ _ s
    rw [e2]
    exact wpAny_pure h
theorem getItem_back {t sl : Addr} {its : List Value} {vl vu vs : Value} {Q : Value → Shared → Prop} (ht : IsTup s.heap t its.toArray) (hs : s.heap.IsSliceOf sl vl vu vs) (pl : IsPart vl none) (pu : IsPart vu (some 0)) (ps : IsPart vs (some (-1)))
    (hn : its.length = 2 ∨ its.length = 3) (h : Q (.ref s.heap.objs.size) { s with heap := s.heap.push { cls := .type "tuple", data := .seq (backOf its).toArray } }) : wpAny (model prog w) A (getItem (.ref t) (.ref sl)) Q E s := by
  obtain ⟨os, hos, hcs, hds⟩ := id hs
  have hTs : s.TypeIs (.ref sl) "slice" := ⟨os, hos, hcs⟩
  have hb : sizeOk (.seq (backOf its).toArray) := by
    show (backOf its).toArray.size ≤ sizeLine
    have z : (backOf its).length ≤ 2 := by
      rcases hn with e | e
      · match its, e with
        | [_, _], _ => show 1 ≤ 2; decide
      · match its, e with
        | [_, _, _], _ => show 2 ≤ 2; decide
    rw [List.size_toArray, sizeLine_eq]
    omega
  unfold getItem
  try with_reducible refine wpAny_holding (?_)
  first | refine wpAny_bind (wpAny_pure (?_)) | skip
  refine wpAny_bind (wpAny_sequenceKey ht.typeIs (by decide) (?_))
  refine wpAny_bind (?_)
  refine wpAny_callSpecial?_slot (name := Str.ofString "__getitem__") ht.typeIs PyProof.Rows.slot_tuple_getitem (wpAny_call_entry PyProof.Rows.slot_tuple_getitem ht.typeIs PyProof.Rows.entry_tuple_getitem ?_ (PyProof.Rows.args_tuple_getitem _ _))
  show wpAny _ _ (Builtin.Tuple.tupleItemsOf (.ref t) >>= _) _ _ s
  refine wpAny_bind (PyProof.Rows.tupleItemsOf_ ht (wpAny_bind (wpAny_typeOf hTs ?_)))
  rw [if_pos (by decide)]
  apply wpAny_bind
  rcases hn with e | e
  · match its, e with
    | [x, y], _ =>
      refine applied_back (n := 2) hs pl pu ps (.inl rfl) ?_
      show wpAny _ _ (if (((((2 : Nat) : Int) - 1) == 0 && (-1 : Int) == 1 && (2 - 1) == 2)) = true then _ else _) _ _ s
      have ef2 : ((List.range (2 - 1)).filterMap fun (k : Nat) => ([x, y] : List Value).toArray[(((2 : Nat) : Int) - 1 + (k : Int) * (-1)).toNat]?).toArray = ([y] : List Value).toArray := by rfl
      rw [if_neg (by decide), ef2]
      first
        | exact wpAny_bind (m := Builtin.Tuple.tupleExact _) (wpAny_newObj_type (wpAny_pure ⟨_, rfl, wpAny_pure h⟩) hb)
        | exact wpAny_bind (wpAny_bind (m := Builtin.Tuple.tupleExact _) (wpAny_newObj_type (wpAny_pure ⟨_, rfl, wpAny_pure h⟩) hb))
  · match its, e with
    | [x, y, z], _ =>
      refine applied_back (n := 3) hs pl pu ps (.inr rfl) ?_
      show wpAny _ _ (if (((((3 : Nat) : Int) - 1) == 0 && (-1 : Int) == 1 && (3 - 1) == 3)) = true then _ else _) _ _ s
      have ef3 : ((List.range (3 - 1)).filterMap fun (k : Nat) => ([x, y, z] : List Value).toArray[(((3 : Nat) : Int) - 1 + (k : Int) * (-1)).toNat]?).toArray = ([z, y] : List Value).toArray := by rfl
      rw [if_neg (by decide), ef3]
      first
        | exact wpAny_bind (m := Builtin.Tuple.tupleExact _) (wpAny_newObj_type (wpAny_pure ⟨_, rfl, wpAny_pure h⟩) hb)
        | exact wpAny_bind (wpAny_bind (m := Builtin.Tuple.tupleExact _) (wpAny_newObj_type (wpAny_pure ⟨_, rfl, wpAny_pure h⟩) hb))
end
section
variable {X : Cx}
def backV : List V → List V
  | [_, y] => [y]
  | [_, y, z] => [z, y]
  | _ => []
def tBack (K : PySem.W.Frag) (te : TE) : TE := fun σ H Q => te σ H fun x H1 => ∃ a xs, x = .ref a ∧ SqT K H1 a xs ∧ (xs.length = 2 ∨ xs.length = 3) ∧ ∀ p, H1 p = none → Q (.ref p) (upd H1 p (.tup (backV xs)))
theorem backV_len {xs : List V} : (backV xs).length ≤ 2 := by
  unfold backV
  split
  · exact Nat.le_succ 1
  · exact Nat.le_refl 2
  · exact Nat.zero_le 2
theorem back_vals {xs : List V} {its : List Value} (r : Vals xs its) (hn : xs.length = 2 ∨ xs.length = 3) : Vals (backV xs) (backOf its) := by
  rcases hn with e | e
  · cases r with
    | nil => cases e
    | cons r1 r =>
      cases r with
      | nil => cases e
      | cons r2 r =>
        cases r with
        | nil => exact .cons r2 .nil
        | cons r3 r => exact absurd e (by simp)
  · cases r with
    | nil => cases e
    | cons r1 r =>
      cases r with
      | nil => cases e
      | cons r2 r =>
        cases r with
        | nil => cases e
        | cons r3 r =>
          cases r with
          | nil => exact .cons r3 (.cons r2 .nil)
          | cons r4 r => exact absurd e (by simp)
theorem pe_back {e : Expr} {te : TE} {k k0 : Nat} {p0 p1 p2 p3 pos : Pos} (he : PE X e te) : PE X (.Subscript e (.Slice none (some (.Constant (.int 0) k0 p0)) (some (.UnaryOp .USub (.Constant (.int 1) k p1) p2)) p3) pos) (tBack X.K te) := by
  constructor
  intro pins s σ H Q I h
  refine Subscript_ (thn (he.run pins s σ H _ I h) fun v s1 z1 => ?_)
  obtain ⟨x, H1, I1, r1, a, xs, rfl, hx, hn, q⟩ := z1
  cases r1
  have h0 : PO X (some (.Constant (.int 0) k0 p0)) (tPart (tC (.int 0))) := po_some pe_int
  have hst : PO X (some (.UnaryOp .USub (.Constant (.int 1) k p1) p2)) (tPart (tUn (rU fun i => .int (-i)) (tC (.int 1)))) := po_some (pe_un un_neg pe_int)
  refine wpAny_Slice (thn (po_none.run pins s1 σ H1 (fun o H2 => o = none ∧ H2 = H1) I1 ⟨rfl, rfl⟩) fun vl s2 z2 => ?_)
  obtain ⟨l, H2, I2, pl, rfl, rfl⟩ := z2
  refine thn (h0.run pins s2 σ H2 (fun o H3 => o = some 0 ∧ H3 = H2) I2 ⟨0, rfl, rfl, rfl⟩) fun vu s3 z3 => ?_
  obtain ⟨u, H3, I3, pu, rfl, rfl⟩ := z3
  refine thn (hst.run pins s3 σ H3 (fun o H4 => o = some (-1) ∧ H4 = H3) I3 ⟨1, rfl, -1, rfl, rfl, rfl⟩) fun vs s4 z4 => ?_
  obtain ⟨o, H4, I4, ps, rfl, rfl⟩ := z4
  have I5 : Inv X pins σ H4 { s4 with heap := s4.heap.push { cls := .type "slice", data := .fields #[vl, vu, vs] } } := I4.kept (t' := s4.toks) fun b ob q => Heap.get?_push_of_some _ q
  obtain ⟨its, r, ht, hz⟩ := I5.tuple hx
  have hlen := r.length
  show wpAny (model X.prog X.w) X.A (subscriptTail e (.Slice none (some (.Constant (.int 0) k0 p0)) (some (.UnaryOp .USub (.Constant (.int 1) k p1) p2)) p3) (.ref a) (.ref s4.heap.objs.size)) (EP X pins σ Q) X.xe { s4 with heap := s4.heap.push { cls := .type "slice", data := .fields #[vl, vu, vs] } }
  refine tail_any (ops := [.ref a, .ref s4.heap.objs.size]) ht.typeIs (PyProof.Rows.slot_tuple_getitem.lookup) ?_ (by with_unfolding_all rfl)
  refine getItem_back ht (Heap.IsSliceOf.new _ vl vu vs) pl pu ps (by rw [← hlen]; exact hn) ?_
  have rb : Vals (backV xs) (backOf its) := back_vals r hn
  have lb : (backV xs).length ≤ sizeLine := by
    have z := backV_len (xs := xs)
    rw [sizeLine_eq]
    omega
  exact ⟨.ref _, _, I5.laid (t' := s4.toks) (o := .tup (backV xs)) (fun b ob q => Heap.get?_push_of_some _ q) (Nat.le_refl _) ⟨lb, _, rb, IsTup.new _ _⟩, rfl, q _ (I5.hok.fresh (Nat.le_refl _))⟩
end
end NB
set_option Elab.async false
set_option linter.all false
set_option maxRecDepth 100000
set_option maxHeartbeats 4000000
namespace SA
open PySem PySem.Spec PyProof.Rows L2 NR SU RI K15
/-- a term over names, not too deep -/
def Tg (K : PySem.W.Frag) (H : Hp) (ns : List Str) (m : Nat) (v : V) : Prop := ∃ t, TmAt K H v t ∧ Trm.In ns t ∧ Trm.dep t ≤ m
section
variable {K : PySem.W.Frag} {ns : List Str} {σ : L2.St} {H0 : Hp}
theorem Tg.tk {H H' : Hp} {m : Nat} {v : V} (k : Tk H H') (h : Tg K H ns m v) : Tg K H' ns m v := by
  obtain ⟨t, a, b, c⟩ := h
  exact ⟨t, a.tk k, b, c⟩
theorem Tg.le {H : Hp} {m n : Nat} {v : V} (h : Tg K H ns m v) (l : m ≤ n) : Tg K H ns n v := by
  obtain ⟨t, a, b, c⟩ := h
  exact ⟨t, a, b, Nat.le_trans c l⟩
/-- it builds a term -/
def TB (K : PySem.W.Frag) (ns : List Str) (σ : L2.St) (H0 : Hp) (m : Nat) (te : TE) : Prop := ∀ (H : Hp) (Q : V → Hp → Prop), Same H0 H → (∀ v H', Same H H' → Tg K H' ns m v → Q v H') → te σ H Q
theorem tb_var {i m : Nat} {v : V} (e : σ[i]? = some (some v)) (h : Tg K H0 ns m v) : TB K ns σ H0 m (tVar i) := fun H Q s q => ⟨v, e, q v H (Same.refl _) (h.tk (Tk.of s))⟩
theorem tb_le {m n : Nat} {te : TE} (h : TB K ns σ H0 m te) (l : m ≤ n) : TB K ns σ H0 n te := fun H Q s q => h H Q s fun v H' s' g => q v H' s' (g.le l)
theorem tb_num {m : Nat} {k : Int} (h0 : 0 ≤ k) (h1 : k < 65536) (hm : 1 ≤ m) : TB K ns σ H0 m (tTup (tCons (tC (.str "num")) (tCons (tC (.int k)) tNil))) := fun H Q s q =>
  ⟨(by show 2 ≤ sizeLine; decide), fun p hp => q _ _ (same_new hp) ⟨.num k, .num sq_new, ⟨h0, h1⟩, hm⟩⟩
theorem tb_opW {m : Nat} {tw t1 t2 : TE} {wd : Str} (hw : wd ∈ SU.six) (hs : ∀ (H : Hp) (Q : V → Hp → Prop), Same H0 H → (∀ H', Same H H' → Q (.str wd) H') → tw σ H Q) (h1 : TB K ns σ H0 m t1) (h2 : TB K ns σ H0 m t2) : TB K ns σ H0 (m + 1) (tTup (tCons tw (tCons t1 (tCons t2 tNil)))) := fun H Q s q => by
  refine hs H _ s fun Hw sw => h1 Hw _ (s.trans sw) fun v1 H1 s1 g1 => h2 H1 _ ((s.trans sw).trans s1) fun v2 H2 s2 g2 => ⟨(by show 3 ≤ sizeLine; decide), fun p hp => ?_⟩
  have s3 := same_new (o := .tup [.str wd, v1, v2]) hp
  obtain ⟨t1, a1, b1, c1⟩ := g1
  obtain ⟨t2, a2, b2, c2⟩ := g2
  refine q _ _ (((sw.trans s1).trans s2).trans s3) ⟨.op wd t1 t2, .op hw sq_new (a1.tk (Tk.of (s2.trans s3))) (a2.tk (Tk.of s3)), ⟨hw, b1, b2⟩, ?_⟩
  show max (Trm.dep t1) (Trm.dep t2) + 1 ≤ m + 1
  omega
theorem tb_op {m : Nat} {t1 t2 : TE} {wd : Str} (hw : wd ∈ SU.six) (h1 : TB K ns σ H0 m t1) (h2 : TB K ns σ H0 m t2) : TB K ns σ H0 (m + 1) (tTup (tCons (tC (.str wd)) (tCons t1 (tCons t2 tNil)))) := tb_opW hw (fun H Q _ q => q H (Same.refl _)) h1 h2
/-- the parts exchanged -/
theorem tb_swap {i m : Nat} {v : V} (e : σ[i]? = some (some v)) (h : Tg K H0 ns m v) : TB K ns σ H0 m (tOp (rCatT K) (tSl (rSlT K) (tVar i) tNoPart (tPart (tC (.int 1)))) (NB.tBack K (tVar i))) := fun H Q s q => by
  obtain ⟨t, ht, hi, hd⟩ := h.tk (Tk.of s)
  have leaf : ∀ (p : Addr) (x y : V), v = .ref p → SqT K H p [x, y] → (∀ p2 H', SqT K H' p2 [x, y] → TmAt K H' (.ref p2) t) → tOp (rCatT K) (tSl (rSlT K) (tVar i) tNoPart (tPart (tC (.int 1)))) (NB.tBack K (tVar i)) σ H Q := by
    rintro p x y rfl h0 mk
    refine ⟨_, e, 1, rfl, p, _, rfl, h0, (by show ¬ (HT.sIx 2 0 none = 0 ∧ HT.sIx 2 2 (some 1) = 2); decide), fun p2 hp2 => ?_⟩
    have s2 := same_new (o := .tup [x]) hp2
    refine ⟨_, e, p, _, rfl, (Tk.of s2).sq h0, .inl rfl, fun p3 hp3 => ?_⟩
    have s3 := same_new (o := .tup [y]) hp3
    refine ⟨p2, p3, [x], [y], rfl, rfl, (Tk.of s3).sq sq_new, sq_new, (fun z => nomatch z), (by show 1 + 1 ≤ sizeLine; decide), (fun z => nomatch z), fun _ p4 hp4 => ?_⟩
    exact q _ _ ((s2.trans s3).trans (same_new hp4)) ⟨t, mk _ _ sq_new, hi, hd⟩
  cases ht with
  | @num p k h0 => exact leaf p _ _ rfl h0 fun p2 H' z => .num z
  | @nam p x h0 => exact leaf p _ _ rfl h0 fun p2 H' z => .nam z
  | @op p wd v1 v2 t1 t2 hw h0 h1 h2 =>
    refine ⟨_, e, 1, rfl, p, _, rfl, h0, (by show ¬ (HT.sIx 3 0 none = 0 ∧ HT.sIx 3 3 (some 1) = 3); decide), fun p2 hp2 => ?_⟩
    have s2 := same_new (o := .tup [.str wd]) hp2
    refine ⟨_, e, p, _, rfl, (Tk.of s2).sq h0, .inr rfl, fun p3 hp3 => ?_⟩
    have s3 := same_new (o := .tup [v2, v1]) hp3
    refine ⟨p2, p3, [.str wd], [v2, v1], rfl, rfl, (Tk.of s3).sq sq_new, sq_new, (fun z => nomatch z), (by show 1 + 2 ≤ sizeLine; decide), (fun z => nomatch z), fun _ p4 hp4 => ?_⟩
    have s4 := (s2.trans s3).trans (same_new (o := .tup [.str wd, v2, v1]) hp4)
    refine q _ _ s4 ⟨.op wd t2 t1, .op hw sq_new (h2.tk (Tk.of s4)) (h1.tk (Tk.of s4)), ⟨hi.1, hi.2.2, hi.2.1⟩, ?_⟩
    have z : max (Trm.dep t1) (Trm.dep t2) + 1 ≤ m := hd
    show max (Trm.dep t2) (Trm.dep t1) + 1 ≤ m
    omega
/-- they build terms -/
def TBA (K : PySem.W.Frag) (ns : List Str) (σ : L2.St) (H0 : Hp) (m n : Nat) (ta : TA) : Prop := ∀ (H : Hp) (Q : List V → Hp → Prop), Same H0 H → (∀ vs H', Same H H' → vs.length = n → (∀ v ∈ vs, Tg K H' ns m v) → Q vs H') → ta σ H Q
theorem tba_nil {m : Nat} : TBA K ns σ H0 m 0 tNil := fun H Q s q => q [] H (Same.refl _) rfl (fun _ z => nomatch z)
theorem tba_cons {m n : Nat} {te : TE} {ta : TA} (h : TB K ns σ H0 m te) (g : TBA K ns σ H0 m n ta) : TBA K ns σ H0 m (n + 1) (tCons te ta) := fun H Q s q =>
  h H _ s fun v H1 s1 g1 => g H1 _ (s.trans s1) fun vs H2 s2 ln g2 => q (v :: vs) H2 (s1.trans s2) (by simp [ln]) fun x hx => by
    rcases List.mem_cons.mp hx with z | z
    · rw [z]; exact g1.tk (Tk.of s2)
    · exact g2 x z
/-- a list of terms -/
def LT (K : PySem.W.Frag) (H : Hp) (ns : List Str) (m n : Nat) (l : Addr) : Prop := ∃ xs, H l = some (.lst xs) ∧ xs.length = n ∧ ∀ v ∈ xs, Tg K H ns m v
theorem LT.same {H H' : Hp} {m n : Nat} {l : Addr} (h : LT K H ns m n l) (s : Same H H') : LT K H' ns m n l := by
  obtain ⟨xs, a, b, c⟩ := h
  exact ⟨xs, s _ _ a, b, fun v hv => (c v hv).tk (Tk.of s)⟩
theorem tb_list {m n : Nat} {ta : TA} (g : TBA K ns σ H0 m n ta) (hn : n ≤ 100) {H : Hp} {Q : V → Hp → Prop} (s : Same H0 H) (q : ∀ l H', Same H H' → H l = none → LT K H' ns m n l → Q (.ref l) H') : tLst ta σ H Q := by
  refine g H _ s fun vs H1 s1 ln g1 => ⟨by rw [ln, sizeLine_eq]; omega, fun l hl => ?_⟩
  have s2 := same_new (o := .lst vs) hl
  have hl0 : H l = none := by
    cases e : H l with
    | none => rfl
    | some o => rw [s1 _ _ e] at hl; cases hl
  exact q l _ (s1.trans s2) hl0 ⟨vs, upd_same, ln, fun v hv => (g1 v hv).tk (Tk.of s2)⟩
theorem lt_cat {m n1 n2 : Nat} {H : Hp} {l1 l2 : Addr} {Q : V → Hp → Prop} (h1 : LT K H ns m n1 l1) (h2 : LT K H ns m n2 l2) (hn : n1 + n2 ≤ 100) (q : ∀ l H', Same H H' → H l = none → LT K H' ns m (n1 + n2) l → Q (.ref l) H') : rCat (.ref l1) (.ref l2) H Q := by
  obtain ⟨xs, a1, b1, c1⟩ := h1
  obtain ⟨ys, a2, b2, c2⟩ := h2
  refine ⟨l1, l2, xs, ys, rfl, rfl, a1, a2, by rw [b1, b2, sizeLine_eq]; omega, fun p hp => ?_⟩
  have s2 := same_new (o := .lst (xs ++ ys)) hp
  refine q p _ s2 hp ⟨_, upd_same, by rw [List.length_append, b1, b2], fun v hv => ?_⟩
  exact (List.mem_append.mp hv).elim (fun z => (c1 v z).tk (Tk.of s2)) fun z => (c2 v z).tk (Tk.of s2)
end
end SA
set_option Elab.async false
set_option linter.all false
set_option maxRecDepth 100000
set_option maxHeartbeats 4000000
namespace K15
open PySem PySem.Spec PyProof.Rows L2 KG NR SU SA RI
section
variable {P : Program} {w : World} {K : PySem.W.Frag} {mg : Str → Option Value} {base : Heap} {pW pN : Addr}
abbrev sNumb : Stmt := topS 33
abbrev pNumb : List Str := ["_law_term_here", "_law_worths_here"]
abbrev nNumb : List Str := ["_law_term_here", "_law_worths_here", "_law_word", "_law_here", "_law_there", "_law_some"]
theorem scNumb : FnScope nNumb pNumb (defScope sNumb) := ⟨rfl, rfl, rfl, by decide +kernel, rfl, by decide +kernel, by decide +kernel⟩
theorem numBy_rng {wd : Str} {x y : Int} (hx : 0 ≤ x ∧ x < 65536) (hy : 0 ≤ y) : 0 ≤ numBy wd x y ∧ numBy wd x y < 65536 := by
  have md : ∀ z : Int, 0 ≤ z % 65536 ∧ z % 65536 < 65536 := fun z => ⟨Int.emod_nonneg _ (by decide), Int.emod_lt_of_pos _ (by decide)⟩
  unfold numBy
  split
  · split
    · exact divRng hx.1 hx.2 hy
    · exact ⟨by decide, by decide⟩
  · split
    · exact md _
    · split
      · exact md _
      · split
        · exact md _
        · split
          · split <;> exact ⟨by decide, by decide⟩
          · split <;> exact ⟨by decide, by decide⟩
theorem num_rng {ρ : Str → Int} (hρ : ∀ x, 0 ≤ ρ x ∧ ρ x < 65536) {ns : List Str} : ∀ {t : Trm}, Trm.In ns t → 0 ≤ num ρ t ∧ num ρ t < 65536
  | .num k, h => h
  | .nam x, _ => hρ x
  | .op wd a b, h => numBy_rng (num_rng hρ h.2.1) (num_rng hρ h.2.2).1
def four (x y : Int) : List (Key × V) := [(Sum.inr "sum", .int (x + y)), (Sum.inr "less", .int (x - y)), (Sum.inr "times", .int (x * y)), (Sum.inr "below", .int (if decide (x < y) = true then 1 else 0))]
theorem get_num {wd : Str} {x y : Int} (no : wd ≠ "over") : ∃ z : Int, (valV (mergeK [] (four x y)) (Sum.inr wd)).getD (.int (if decide (V.int x = V.int y) = true then 1 else 0)) = .int z ∧ z % 65536 = numBy wd x y := by
  have e : valV (mergeK [] (four x y)) (Sum.inr wd) = if wd = "below" then some (.int (if decide (x < y) = true then 1 else 0)) else if wd = "times" then some (.int (x * y)) else if wd = "less" then some (.int (x - y)) else if wd = "sum" then some (.int (x + y)) else none := by
    simp only [mergeK, four, List.foldl_cons, List.foldl_nil, valV_put, valV_nil, Sum.inr.injEq]
  rw [e]
  by_cases c1 : wd = "below"
  · rw [if_pos c1]
    refine ⟨_, rfl, ?_⟩
    have en : numBy wd x y = if x < y then 1 else 0 := by
      unfold numBy
      rw [if_neg no, if_neg (show ¬ wd = "sum" by rw [c1]; decide +kernel), if_neg (show ¬ wd = "less" by rw [c1]; decide +kernel), if_neg (show ¬ wd = "times" by rw [c1]; decide +kernel), if_pos c1]
    rw [en]
    by_cases d : x < y
    · rw [decide_eq_true d, if_pos d]
      rfl
    · rw [decide_eq_false d, if_neg d]
      rfl
  rw [if_neg c1]
  by_cases c2 : wd = "times"
  · rw [if_pos c2]
    refine ⟨_, rfl, ?_⟩
    unfold numBy
    rw [if_neg no, if_neg (by rw [c2]; decide +kernel), if_neg (by rw [c2]; decide +kernel), if_pos c2]
  rw [if_neg c2]
  by_cases c3 : wd = "less"
  · rw [if_pos c3]
    refine ⟨_, rfl, ?_⟩
    unfold numBy
    rw [if_neg no, if_neg (by rw [c3]; decide +kernel), if_pos c3]
  rw [if_neg c3]
  by_cases c4 : wd = "sum"
  · rw [if_pos c4]
    refine ⟨_, rfl, ?_⟩
    unfold numBy
    rw [if_neg no, if_pos c4]
  rw [if_neg c4]
  refine ⟨_, rfl, ?_⟩
  have en : numBy wd x y = if x = y then 1 else 0 := by
    unfold numBy
    rw [if_neg no, if_neg c4, if_neg c3, if_neg c2, if_neg c1]
  rw [en]
  by_cases d : x = y
  · rw [decide_eq_true (by rw [d]), if_pos d]
    rfl
  · rw [decide_eq_false (fun z => d (V.int.inj z)), if_neg d]
    rfl
/-- what the names are worth -/
def Worth (H : Hp) (d : Addr) (ns : List Str) (ρ : Str → Int) : Prop := ∃ kvs, H d = some (.dK kvs) ∧ ∀ x ∈ ns, valV kvs (Sum.inr x) = some (.int (ρ x))
theorem Worth.same {H H' : Hp} {d : Addr} {ns : List Str} {ρ : Str → Int} (h : Worth H d ns ρ) (s : Same H H') : Worth H' d ns ρ := by
  obtain ⟨kvs, a, b⟩ := h
  exact ⟨kvs, s _ _ a, b⟩
def spNumb (K : PySem.W.Frag) (n : Nat) : Sp := fun vs H Q _ => ∃ (v : V) (d : Addr) (t : Trm) (ns : List Str) (ρ : Str → Int), vs = [v, .ref d] ∧ TmAt K H v t ∧ Trm.dep t ≤ n ∧ Trm.In ns t ∧ Worth H d ns ρ ∧ (∀ x, 0 ≤ ρ x ∧ ρ x < 65536) ∧
  ∀ H', Same H H' → Q (.int (num ρ t)) H'
theorem ok_numb {f : Addr} {fd : FuncData} (D : Def K mg "_law_number" sNumb pNumb f fd) (G : Glob K mg pW pN) : ∀ n : Nat, FnOk P w K mg base CX0 (n + 1) f fd pNumb (spNumb K n)
  | 0 => ⟨fun vs H Q E h => by obtain ⟨v, d, t, ns, ρ, rfl, _⟩ := h; rfl, fun A outer s H args us vs Q E _ _ _ _ h => by
      obtain ⟨v, d, t, ns, ρ, _, _, h1, _⟩ := h
      have := Trm.dep_pos t
      exact absurd h1 (by omega)⟩
  | n + 1 => by
    have IH := ok_numb D G n
    refine D.fn.ok scNumb (fun vs H Q E h => ?_) (fun cdv A outer s H vs Q E hr h => ?_)
    · obtain ⟨v, d, t, ns, ρ, rfl, _⟩ := h
      rfl
    · obtain ⟨v, d, t, ns, ρ, rfl, ht, hd, hin, hW, hρ, q⟩ := h
      have hu := hu_of hr
      refine ⟨_, pss_cons (ps_if (pt_cmpR op_in_seq (pe_ix ix_tup (pv 0) pe_int (fun _ _ => rfl)) (pe_tup (pa_cons pe_str (pa_cons pe_str pa_nil))) rfl) (pss_one (ps_ret (pe_ifExp (pt_cmpR op_eq (pe_ix ix_tup (pv 0) pe_int (fun _ _ => rfl)) pe_str (nomark _)) (pe_ix ix_tup (pv 0) pe_int (fun _ _ => rfl)) (pe_dget hu (pv 1) (pe_ix ix_tup (pv 0) pe_int (fun _ _ => rfl)) (fun _ _ => rfl))))) pss_nil)
        (pss_cons (ps_par3 (i := 2) (j := 3) (l := 4) (by rfl) scNumb.nd rfl rfl rfl (by decide) (by decide) (by decide) rfl rfl rfl (pa_cons (pe_ix ix_tup (pv 0) pe_int (fun _ _ => rfl)) (pa_cons (pe_call IH hr (by rfl) D.at_ D.fn.kp D.b .nil pass0 (pa_cons (pe_ix ix_tup (pv 0) pe_int (fun _ _ => rfl)) (pa_cons (pv 1) pa_nil))) (pa_cons (pe_call IH hr (by rfl) D.at_ D.fn.kp D.b .nil pass0 (pa_cons (pe_ix ix_tup (pv 0) pe_int (fun _ _ => rfl)) (pa_cons (pv 1) pa_nil))) pa_nil))) (by rfl))
        (pss_cons (ps_if (pt_cmpR op_eq (pv 2) pe_str (nomark _)) (pss_one (ps_ret (pe_ifExp (pt_cmpR op_gt (pv 4) pe_int (nomark _)) (pe_op op_fdiv (pv 3) (pv 4)) pe_int))) pss_nil)
        (pss_cons (ps_set (i := 5) scNumb.nd rfl (.inl rfl) (pe_disp (pps_cons pe_str (pe_op op_add (pv 3) (pv 4)) (pps_cons pe_str (pe_op op_sub (pv 3) (pv 4)) (pps_cons pe_str (pe_op op_mul (pv 3) (pv 4)) (pps_cons pe_str (pe_callTy call_int1 (by rfl) G.int (by decide +kernel) (pa_cons (pe_cmpR op_lt (pv 3) (pv 4) (nomark _)) pa_nil)) pps_nil)))) (by rfl) (by rfl) (fun z => by cases z) (by decide)))
        (pss_one (ps_ret (pe_op op_mod (pe_dget2 hu (pv 5) (pv 2) (pe_callTy call_int1 (by rfl) G.int (by decide +kernel) (pa_cons (pe_cmpR op_eq (pv 3) (pv 4) (nomark _)) pa_nil)) ⟨rfl, rfl, rfl, rfl⟩) pe_int)))))), ?_⟩
      cases ht with
      | @num p kk h0 =>
        refine ⟨_, rfl, p, _, 0, _, rfl, rfl, h0, rfl, (by show 2 ≤ sizeLine; decide), fun t1 ht1 => ⟨t1, (["num", "name"] : List Str).map V.str, rfl, .inr sq_new, rfl, rfl, _, rfl, ?_⟩⟩
        have s1 := same_new (o := .tup [.str "num", .str "name"]) ht1
        show if inV (.str "num") ((["num", "name"] : List Str).map V.str) = true then _ else _
        rw [inV_str (by decide +kernel)]
        refine iteT ⟨_, rfl, p, _, 0, _, rfl, rfl, (Tk.of s1).sq h0, rfl, rfl, _, rfl, ?_⟩
        rw [decide_eq_true rfl]
        exact iteT ⟨_, rfl, p, _, 1, _, rfl, rfl, (Tk.of s1).sq h0, rfl, q _ s1⟩
      | @nam p nmx h0 =>
        refine ⟨_, rfl, p, _, 0, _, rfl, rfl, h0, rfl, (by show 2 ≤ sizeLine; decide), fun t1 ht1 => ⟨t1, (["num", "name"] : List Str).map V.str, rfl, .inr sq_new, rfl, rfl, _, rfl, ?_⟩⟩
        have s1 := same_new (o := .tup [.str "num", .str "name"]) ht1
        show if inV (.str "name") ((["num", "name"] : List Str).map V.str) = true then _ else _
        rw [inV_str (by decide +kernel)]
        refine iteT ⟨_, rfl, p, _, 0, _, rfl, rfl, (Tk.of s1).sq h0, rfl, rfl, _, rfl, ?_⟩
        rw [strEq, decide_eq_false (by decide +kernel)]
        obtain ⟨kvs, hk, hv⟩ := hW.same s1
        have z := DGet.k (k := (Sum.inr nmx : Key)) hk
        rw [hv nmx hin] at z
        exact iteF ⟨_, rfl, _, rfl, p, _, 1, .str nmx, rfl, rfl, (Tk.of s1).sq h0, rfl, d, _, rfl, z, q _ s1⟩
      | @op p wd v1 v2 t1 t2 hw h0 ht1 ht2 =>
        have hm : max (Trm.dep t1) (Trm.dep t2) + 1 ≤ n + 1 := hd
        have nin : wd ∉ (["num", "name"] : List Str) := by
          have z : ∀ x ∈ SU.six, x ∉ (["num", "name"] : List Str) := by decide +kernel
          exact z wd hw
        refine ⟨_, rfl, p, _, 0, _, rfl, rfl, h0, rfl, (by show 2 ≤ sizeLine; decide), fun t1' ht1' => ⟨t1', (["num", "name"] : List Str).map V.str, rfl, .inr sq_new, rfl, rfl, _, rfl, ?_⟩⟩
        have s1 := same_new (o := .tup [.str "num", .str "name"]) ht1'
        show if inV (.str wd) ((["num", "name"] : List Str).map V.str) = true then _ else _
        rw [ninV_str nin]
        refine iteF ?_
        revert s1
        show _ → tSeq _ _ _ _ (upd H t1' (.tup [.str "num", .str "name"]))
        generalize upd H t1' (.tup [.str "num", .str "name"]) = H1
        intro s1
        have k1 := Tk.of s1
        refine ⟨_, rfl, p, _, 0, _, rfl, rfl, k1.sq h0, rfl, _, rfl, p, _, 1, _, rfl, rfl, k1.sq h0, rfl, _, rfl, v1, d, t1, ns, ρ, rfl, ht1.tk k1, by omega, hin.2.1, hW.same s1, hρ, fun H2 s2 => ?_⟩
        have k2 := Tk.of (s1.trans s2)
        refine ⟨_, rfl, p, _, 2, _, rfl, rfl, k2.sq h0, rfl, _, rfl, v2, d, t2, ns, ρ, rfl, ht2.tk k2, by omega, hin.2.2, hW.same (s1.trans s2), hρ, fun H3 s3 => ⟨_, _, _, rfl, ?_⟩⟩
        have sA := (s1.trans s2).trans s3
        obtain ⟨x, ex⟩ : ∃ x, x = num ρ t1 := ⟨_, rfl⟩
        obtain ⟨y, ey⟩ : ∃ y, y = num ρ t2 := ⟨_, rfl⟩
        have rx := num_rng hρ hin.2.1
        have ry := num_rng hρ hin.2.2
        have q' : ∀ H', Same H3 H' → Q (.int (numBy wd x y)) H' := fun H' s' => by
          rw [ex, ey]
          exact q H' (sA.trans s')
        rw [← ex] at rx ⊢
        rw [← ey] at ry ⊢
        refine ⟨_, rfl, rfl, _, rfl, ?_⟩
        rw [strEq]
        refine iteD (fun c1 => ?_) (fun c1 => ?_)
        · refine ⟨_, rfl, _, _, rfl, rfl, _, rfl, iteD (fun c2 => ?_) (fun c2 => ?_)⟩
          · refine ⟨_, rfl, _, rfl, _, _, rfl, rfl, ⟨c2, by omega⟩, ?_⟩
            have z := q' H3 (Same.refl _)
            unfold numBy at z
            rw [if_pos c1, if_pos c2] at z
            exact z
          · have z := q' H3 (Same.refl _)
            unfold numBy at z
            rw [if_pos c1, if_neg c2] at z
            exact z
        · refine fun p5 hp5 => ?_
          have e5 : upd H3 p5 (.dK []) p5 = some (.dK []) := upd_same
          refine ⟨_, rfl, _, rfl, _, _, rfl, rfl, _, rfl, _, rfl, _, _, rfl, rfl, _, rfl, _, rfl, _, _, rfl, rfl, .inl ⟨by omega, by omega⟩, _, rfl, _, rfl, _, _, rfl, rfl, .inr ⟨_, rfl, e5, four x y, rfl, (by show 4 ≤ 15; decide), ?_⟩⟩
          have s5 : Same H3 (upd (upd H3 p5 (.dK [])) p5 (.dK (mergeK [] (four x y)))) := Same.put (same_new hp5) hp5
          have g5 : upd (upd H3 p5 (.dK [])) p5 (.dK (mergeK [] (four x y))) p5 = some (.dK (mergeK [] (four x y))) := upd_same
          revert s5 g5
          generalize upd (upd H3 p5 (.dK [])) p5 (.dK (mergeK [] (four x y))) = H5
          intro s5 g5
          obtain ⟨z, ez, em⟩ := get_num (x := x) (y := y) c1
          have dg := DGet.k (k := (Sum.inr wd : Key)) g5
          refine ⟨_, rfl, p5, rfl, .inl ⟨_, .inl g5⟩, _, rfl, _, rfl, _, rfl, rfl, .inr ⟨_, rfl, _, dg, ?_⟩⟩
          rw [ez]
          refine ⟨_, _, rfl, rfl, (by decide : (0 : Int) < 65536), ?_⟩
          show Q (.int (z % 65536)) H5
          rw [em]
          exact q' _ s5
end
end K15
set_option Elab.async false
set_option linter.all false
set_option maxRecDepth 100000
set_option maxHeartbeats 4000000
/-! ## list(zip(xs, ys)) -/
namespace NZ
open PySem PySem.Spec PyProof.Rows L2
theorem zip_no_len : typeLookup (.type "zip") "__len__" = pure none := by rw [typeLookup_type, builtinLookup_eq_fast]; kernel_rfl
theorem zip_no_hint : typeLookup (.type "zip") "__length_hint__" = pure none := by rw [typeLookup_type, builtinLookup_eq_fast]; kernel_rfl
section
variable {X : Cx} {pins : List (Addr × Obj)} {σ : L2.St}
/-- the walk stands at i -/
def ZS (z TI TO i1 i2 l1 l2 S : Addr) (i : Nat) (h : Heap) : Prop := IsPair h TI (.ref i1) (.ref i2) ∧ h.IsListIter i1 l1 i ∧ h.IsListIter i2 l2 i ∧
  ((IsZip h z TI TO .none ∧ ∃ a b, IsPair h TO a b) ∨ ∃ T f oT, IsZipHeld h z TI TO T f ∧ h.get? T = some oT ∧ T ≠ z ∧ T ≠ i1 ∧ T ≠ i2 ∧ T ≠ S)
theorem ZS.keep {z TI TO i1 i2 l1 l2 S : Addr} {i : Nat} {h h' : Heap} (st : ZS z TI TO i1 i2 l1 l2 S i h) (hS : S ∉ [z, TI, TO, i1, i2]) (hk : ∀ c o, c ≠ S → h.get? c = some o → h'.get? c = some o) : ZS z TI TO i1 i2 l1 l2 S i h' := by
  obtain ⟨hTI, h1, h2, hz⟩ := st
  have nz : z ≠ S := fun e => hS (by simp [e])
  have nTI : TI ≠ S := fun e => hS (by simp [e])
  have nTO : TO ≠ S := fun e => hS (by simp [e])
  have n1 : i1 ≠ S := fun e => hS (by simp [e])
  have n2 : i2 ≠ S := fun e => hS (by simp [e])
  refine ⟨hk _ _ nTI hTI, h1.at fun o e => hk _ o n1 e, h2.at fun o e => hk _ o n2 e, ?_⟩
  rcases hz with ⟨hz, a, b, hTO⟩ | ⟨T, f, oT, hz, hT, r1, r2, r3, r4⟩
  · exact .inl ⟨hk _ _ nz hz, a, b, hk _ _ nTO hTO⟩
  · exact .inr ⟨T, f, oT, hk _ _ nz hz, hk _ _ r4 hT, r1, r2, r3, r4⟩
theorem paired_snoc {α β : Type} {F : α → β → Prop} : ∀ {l : List α} {m : List β} {a : α} {b : β}, Paired F l m → F a b → Paired F (l ++ [a]) (m ++ [b])
  | _, _, _, _, .nil, h => .cons h .nil
  | _, _, _, _, .cons x y, h => .cons x (paired_snoc y h)
theorem paired_imp {α β : Type} {F G : α → β → Prop} (h : ∀ a b, F a b → G a b) : ∀ {l : List α} {m : List β}, Paired F l m → Paired G l m
  | _, _, .nil => .nil
  | _, _, .cons a b => .cons (h _ _ a) (paired_imp h b)
theorem sql_keep {K : PySem.W.Frag} {H H' : Hp} {l : Addr} {xs : List V} (h : SqL K H l xs) (k : ∀ o, H l = some o → H' l = some o) : SqL K H' l xs := by
  rcases h with (z | ⟨o, z⟩) | z
  · exact .inl (.inl (k _ z))
  · exact .inl (.inr ⟨o, k _ z⟩)
  · exact .inr z
theorem loop_zip {A : Around} {R : Result → Shared → Prop} {z TI TO i1 i2 l1 l2 S : Addr} {res : Value} (hh : A.handled = none) (D : ZipApart z TI TO i1 i2 l1 l2) (xs ys : List V) (hl : xs.length = ys.length) (hz : xs.length < sizeLine) (hS : S ∉ [z, TI, TO, i1, i2]) :
    ∀ (k i : Nat) (H : Hp) (s : Shared) (ps : List Addr), xs.length - i = k → i ≤ xs.length → Inv X pins σ H s → (∀ c ∈ [z, TI, TO, i1, i2], FpOk X pins H c) → (∀ c ∈ [z, TI, TO, i1, i2], c < s.heap.objs.size) → ZS z TI TO i1 i2 l1 l2 S i s.heap → SqL X.K H l1 xs → SqL X.K H l2 ys → S ≠ l1 → S ≠ l2 → H S = some (.lst (ps.map V.ref)) →
      Paired (fun p (q : V × V) => H p = some (.tup [q.1, q.2])) ps ((xs.zip ys).take i) →
      (∀ H' s' (ps' : List Addr), Inv X pins σ H' s' → (∀ b o, b ≠ S → H b = some o → H' b = some o) → H' S = some (.lst (ps'.map V.ref)) → Paired (fun p (q : V × V) => H' p = some (.tup [q.1, q.2])) ps' (xs.zip ys) → R (.ok (.ret res)) s') →
      codeAny (model X.prog X.w) A (.builtin "list.extend.loop" ⟨[.ref S, .ref z, res], []⟩) R s := by
  intro k
  induction k with
  | zero =>
    intro i H s ps hk hi I hf hb st q1 q2 n1 n2 hD pr fin
    obtain ⟨hTI, h1, h2, hzz⟩ := st
    obtain ⟨its, rv, p, _⟩ := I.list q1
    obtain ⟨its2, rv2, p2, _⟩ := I.list q2
    have e1 := rv.length
    have e2 := rv2.length
    refine codeAny_builtin F.entry_extend_loop ?_
    rw [Around.under_plainId F.plain_extend_loop _]
    show wpAny _ A.in1 (pyNext (.ref z) >>= _) _ _ s
    have he : its.toArray[i]? = none ∨ its2.toArray[i]? = none := .inl (by simp; omega)
    have last : Paired (fun p (q : V × V) => H p = some (.tup [q.1, q.2])) ps (xs.zip ys) := by
      rw [List.take_of_length_le (by rw [List.length_zip]; omega)] at pr
      exact pr
    have go : ∀ h', (∀ c o, c ∉ [z, TI, TO, i1, i2] → s.heap.get? c = some o → h'.get? c = some o) → R (.ok (.ret res)) { s with heap := h' } := fun h' hk => fin H _ ps (I.turnedL (t' := s.toks) (ch := [z, TI, TO, i1, i2]) hk hf) (fun b o _ e => e) hD last
    rcases hzz with ⟨hz1, a, b, hTO⟩ | ⟨T, f, oT, hz1, hT, r1, r2, r3, r4⟩
    · exact wpAny_bind (wpAny_pyNext_zip_end hh D hz1 hTI hTO h1 h2 p.isList p2.isList he fun h' hk => wpAny_pure (go h' fun c o hb q => hk c o (fun q' => hb (by simp [q'])) (fun q' => hb (by simp [q'])) (fun q' => hb (by simp [q'])) (fun q' => hb (by simp [q'])) q))
    · exact wpAny_bind (wpAny_pyNext_zip_end_held hh D hz1 hT hTI h1 h2 p.isList p2.isList he fun h' hk => wpAny_pure (go h' fun c o hb q => hk c o (fun q' => hb (by simp [q'])) (fun q' => hb (by simp [q'])) (fun q' => hb (by simp [q'])) q))
  | succ k ih =>
    intro i H s ps hk hi I hf hb st q1 q2 n1 n2 hD pr fin
    obtain ⟨hTI, h1, h2, hzz⟩ := st
    obtain ⟨its, rv, p, _⟩ := I.list q1
    obtain ⟨its2, rv2, p2, _⟩ := I.list q2
    have lt : i < xs.length := by omega
    have lt2 : i < ys.length := by omega
    obtain ⟨x, hx⟩ : ∃ x, xs[i]? = some x := ⟨_, List.getElem?_eq_getElem lt⟩
    obtain ⟨y, hy⟩ : ∃ y, ys[i]? = some y := ⟨_, List.getElem?_eq_getElem lt2⟩
    obtain ⟨u, hu, ru⟩ := rv.get hx
    obtain ⟨u2, hu2, ru2⟩ := rv2.get hy
    refine codeAny_builtin F.entry_extend_loop ?_
    rw [Around.under_plainId F.plain_extend_loop _]
    show wpAny _ A.in1 (pyNext (.ref z) >>= _) _ _ s
    have hTn : H s.heap.objs.size = none := I.hok.fresh (Nat.le_refl _)
    have nST : S ≠ s.heap.objs.size := fun e => by
      rw [e, hTn] at hD
      cases hD
    have step : ∀ h', ZS z TI TO i1 i2 l1 l2 S (i + 1) h' → IsPair h' s.heap.objs.size u u2 → h'.objs.size = s.heap.objs.size + 1 → (∀ c o, c ∉ [z, TI, TO, i1, i2] → s.heap.get? c = some o → h'.get? c = some o) →
        wpAny (model X.prog X.w) A.in1 (updateSeq S (·.push (.ref s.heap.objs.size)) >>= fun _ => again (.builtin "list.extend.loop" ⟨[.ref S, .ref z, res], []⟩))
          (fun fin s' => match fin with | .done f => R (.ok f) s' | .again c' => c'.quiet = true ∧ codeAny (model X.prog X.w) A c' R s') (fun e s' => R (.error e) s') { s with heap := h' } := by
      intro h' st' hT hsz hkk
      have new : ObjOk X.prog X.w (upd H s.heap.objs.size (.tup [x, y])) h' s.heap.objs.size (.tup [x, y]) := ⟨by show 2 ≤ sizeLine; decide, [u, u2], .cons ru (.cons ru2 .nil), ⟨_, hT, rfl, _, rfl⟩⟩
      have I1 : Inv X pins σ (upd H s.heap.objs.size (.tup [x, y])) { s with heap := h' } := I.turnedNew (t' := s.toks) (ch := [z, TI, TO, i1, i2]) hkk hf (Nat.le_refl _) new
      have hD1 : upd H s.heap.objs.size (.tup [x, y]) S = some (.lst (ps.map V.ref)) := by
        rw [upd_ne nST]
        exact hD
      obtain ⟨hz', its3, n3, r3, e3⟩ := I1.hok S _ hD1
      have l3 := r3.length
      rw [List.length_map] at l3
      have lp : ps.length = i := by
        have := pr.length
        rw [List.length_take, List.length_zip] at this
        omega
      refine wpAny_bind (wpAny_updateSeq e3 rfl (wpAny_pure ⟨plainId_quiet F.plain_extend_loop _, ?_⟩) ?_ ?_)
      · have I2 : Inv X pins σ (upd (upd H s.heap.objs.size (.tup [x, y])) S (.lst ((ps ++ [s.heap.objs.size]).map V.ref))) { s with heap := h'.update S (Obj.mapSeq (·.push (.ref s.heap.objs.size))) } :=
          I1.write (t' := s.toks) (by rw [hD1]; trivial) (.inl rfl) (fun b u hb q => (Heap.get?_update_other _ _ (Ne.symm hb)).trans q) ⟨_, Heap.get?_update_self _ e3 rfl⟩ ⟨by rw [List.length_map, List.length_append]; show ps.length + 1 ≤ _; omega, its3 ++ [.ref s.heap.objs.size], _, by rw [List.map_append]; exact r3.append (.cons rfl .nil), by rw [Heap.get?_update_self _ e3 rfl]; simp [Obj.mapSeq]; rfl⟩
        have kp : ∀ b o, b ≠ S → H b = some o → upd (upd H s.heap.objs.size (.tup [x, y])) S (.lst ((ps ++ [s.heap.objs.size]).map V.ref)) b = some o := fun b o hb e => by
          rw [upd_ne hb, upd_ne (ne_of_none e hTn)]
          exact e
        refine ih (i + 1) _ _ (ps ++ [s.heap.objs.size]) (by omega) lt I2 (fun c hc => ⟨?_, (hf c hc).2⟩) (fun c hc => ?_) (st'.keep hS fun c o hb e => (Heap.get?_update_other _ _ (Ne.symm hb)).trans e) (sql_keep q1 fun o e => kp _ o (Ne.symm n1) e) (sql_keep q2 fun o e => kp _ o (Ne.symm n2) e) n1 n2 upd_same ?_ fun H' s' ps' J kk hd' pp => fin H' s' ps' J (fun b o hb e => kk b o hb (kp b o hb e)) hd' pp
        · have c1 : c ≠ S := fun e => hS (e ▸ hc)
          have c2 : c ≠ s.heap.objs.size := Nat.ne_of_lt (hb c hc)
          rw [upd_ne c1, upd_ne c2]
          exact (hf c hc).1
        · have := hb c hc
          show c < (h'.update S _).objs.size
          rw [Heap.size_update, hsz]
          exact Nat.lt_succ_of_lt this
        · have et : (xs.zip ys).take (i + 1) = (xs.zip ys).take i ++ [(x, y)] := by
            have hzi : (xs.zip ys)[i]? = some (x, y) := by
              rw [List.getElem?_zip_eq_some]
              exact ⟨hx, hy⟩
            rw [List.take_succ, hzi]
            rfl
          rw [et]
          refine paired_snoc (paired_imp (fun p q e => kp p _ (fun z => ?_) e) pr) ?_
          · rw [z, hD] at e
            cases e
          · rw [upd_ne (Ne.symm nST), upd_same]
      · rw [List.size_toArray]
        omega
      · show (its3.toArray.push _).size ≤ sizeLine + 1
        rw [Array.size_push, List.size_toArray]
        omega
    have ltz : ∀ {c : Addr} {o : Obj}, s.heap.get? c = some o → s.heap.objs.size ≠ c := fun e => Nat.ne_of_gt (Heap.lt_size e)
    have m1 : s.heap.objs.size ≠ i1 := let ⟨_, e, _⟩ := h1; ltz e
    have m2 : s.heap.objs.size ≠ i2 := let ⟨_, e, _⟩ := h2; ltz e
    rcases hzz with ⟨hz1, a, b, hTO⟩ | ⟨T, f, oT, hz1, hT, r1, r2, r3, r4⟩
    · refine wpAny_bind (wpAny_pyNext_zip_item D hz1 hTI hTO h1 h2 p.isList p2.isList (x := u) (y := u2) (by simpa using hu) (by simpa using hu2) fun h' a1 a2 a3 a4 a5 a6 hk => ?_)
      exact step h' ⟨hk _ _ D.TIz D.TITO D.TIi1 D.TIi2 hTI, a3, a4, .inr ⟨s.heap.objs.size, false, _, a1, a5, ltz hz1, m1, m2, Ne.symm nST⟩⟩ a5 a6 fun c o hb q => hk c o (fun q' => hb (by simp [q'])) (fun q' => hb (by simp [q'])) (fun q' => hb (by simp [q'])) (fun q' => hb (by simp [q'])) q
    · refine wpAny_bind (wpAny_pyNext_zip_item_held D hz1 hT hTI h1 h2 p.isList p2.isList (x := u) (y := u2) (by simpa using hu) (by simpa using hu2) fun h' a1 a3 a4 a5 a6 hk => ?_)
      exact step h' ⟨hk _ _ D.TIz D.TIi1 D.TIi2 hTI, a3, a4, .inr ⟨T, true, oT, a1, hk _ _ r1 r2 r3 hT, r1, r2, r3, r4⟩⟩ a5 a6 fun c o hb q => hk c o (fun q' => hb (by simp [q'])) (fun q' => hb (by simp [q'])) (fun q' => hb (by simp [q'])) q
section
variable {prog : Program} {w : World} {A : Around} {E : Value → Shared → Prop} {s : Shared}
theorem extend_zip {R : Result → Shared → Prop} {z TI TO S : Addr} (hz : IsZip s.heap z TI TO .none) (hSz : S ≠ z) {c₀ : Nat} (hS : s.heap.get? S = some { cls := .type "list", data := .seq #[] c₀ })
    (h : ∀ h3 c, (∀ b o, b ≠ S → s.heap.get? b = some o → h3.get? b = some o) → h3.objs.size = s.heap.objs.size → h3.get? S = some { cls := .type "list", data := .seq #[] c } →
      codeAny (model prog w) A (.builtin "list.extend.loop" ⟨[.ref S, .ref z, .none], []⟩) R { s with heap := h3 }) :
    wpAny (model prog w) A.in1 (Builtin.List.listExtendWith (.ref S) (.ref z) .none)
      (fun fin s' => match fin with | .done f => R (.ok f) s' | .again c' => c'.quiet = true ∧ codeAny (model prog w) A c' R s') (fun e s' => R (.error e) s') s := by
  have hT : s.TypeIs (.ref z) "zip" := ⟨_, hz, rfl⟩
  unfold Builtin.List.listExtendWith
  refine wpAny_bind (wpAny_typeOf hT ?_)
  have h1 : Builtin.List.listSameRef (.ref S) (.ref z) = false := by simp [Builtin.List.listSameRef, hSz]
  have h2 : (Value.type "zip" == Value.type "list") = false := by decide
  have h3 : (Value.type "zip" == Value.type "tuple") = false := by decide
  simp only [h1, h2, h3, Bool.or_false, Bool.false_eq_true, if_false]
  refine wpAny_bind (wpAny_pyIter_zip hz ?_)
  refine wpAny_bind (wpAny_holding ?_)
  unfold Builtin.List.listLengthHint
  refine wpAny_bind (wpAny_specialOf hT zip_no_len ?_)
  show wpAny _ A.in1 (specialOf (Value.ref z) (Str.ofString "__length_hint__") >>= _) _ _ _
  refine wpAny_bind (wpAny_specialOf hT zip_no_hint ?_)
  refine wpAny_pure ?_
  show wpAny _ A.in1 (rule "list.extend.makes-room" >>= fun _ => Builtin.List.listTouch (.ref S) >>= fun _ =>
    again (.builtin "list.extend.loop" ⟨[.ref S, .ref z, .none], []⟩)) _ _ _
  refine wpAny_bind (wpAny_rule ?_)
  refine wpAny_bind ?_
  show wpAny _ A.in1 (updateSeq S (·.push .none) >>= fun _ => updateSeq S (·.pop)) _ _ _
  refine wpAny_bind (wpAny_updateSeq hS rfl ?_)
  have hS₂ := Heap.get?_update_self (Obj.mapSeq (·.push Value.none)) hS rfl
  refine wpAny_updateSeq (hz := by seq_fits) hS₂ rfl ?_
  have hS₃ := Heap.get?_update_self (Obj.mapSeq (·.pop)) hS₂ rfl
  refine wpAny_pure ⟨plainId_quiet F.plain_extend_loop _, h _ _ (fun b o hb e => (Heap.get?_update_other _ _ (Ne.symm hb)).trans ((Heap.get?_update_other _ _ (Ne.symm hb)).trans e)) ?_ hS₃⟩
  rw [Heap.size_update, Heap.size_update]
theorem call_list_zip {z TI TO : Addr} {Q : Value → Shared → Prop} (hz : IsZip s.heap z TI TO .none)
    (h : ∀ h3 c, (∀ b o, s.heap.get? b = some o → h3.get? b = some o) → h3.objs.size = s.heap.objs.size + 1 → h3.get? s.heap.objs.size = some { cls := .type "list", data := .seq #[] c } →
      codeAny (model prog w) A.in1 (.builtin "list.extend.loop" ⟨[.ref s.heap.objs.size, .ref z, .none], []⟩) (wants (fun r s₂ => r = .none ∧ Q (.ref s.heap.objs.size) s₂) E) { s with heap := h3 }) :
    wpAny (model prog w) A (call (.type "list") [.ref z]) Q E s := by
  refine callType_codes (Q₁ := fun obj s₁ => obj = .ref s.heap.objs.size ∧ s₁ = { s with heap := s.heap.push { cls := .type "list", data := .seq #[] } }) F.called_list (F.typeCall_list_1 _) F.entry_list_init
    (code_list_new _ ⟨rfl, rfl⟩) fun obj s₁ h₁ => ?_
  obtain ⟨rfl, rfl⟩ := h₁
  have hS : (s.heap.push { cls := .type "list", data := .seq #[] }).get? s.heap.objs.size = some { cls := .type "list", data := .seq #[] } := Heap.get?_push_size _ rfl
  have hSz : s.heap.objs.size ≠ z := Nat.ne_of_gt (Heap.lt_size hz)
  refine ⟨⟨_, hS, rfl⟩, F.args_list_init_2 _ _, ?_⟩
  show wpAny _ A.in1.in1 (do let old ← Builtin.List.listItems (.ref s.heap.objs.size); Builtin.List.listUpdate (.ref s.heap.objs.size) (fun _ => #[]); letGo old.toList.reverse; Builtin.List.listExtendWith (.ref s.heap.objs.size) (.ref z) .none) _ _ _
  refine wpAny_bind ?_
  unfold Builtin.List.listItems
  refine wpAny_bind (wpAny_seqItems hS rfl (wpAny_pure ?_))
  show wpAny _ A.in1.in1 (updateSeq s.heap.objs.size (fun _ => #[]) >>= fun _ => letGo (#[] : Array Value).toList.reverse >>= fun _ => Builtin.List.listExtendWith (.ref s.heap.objs.size) (.ref z) .none) _ _ _
  refine wpAny_bind (wpAny_updateSeq hS rfl ?_)
  have hS₂ := Heap.get?_update_self (Obj.mapSeq (fun _ => (#[] : Array Value))) hS rfl
  refine wpAny_bind (wpAny_letGo ?_)
  have oth : ∀ b o, b ≠ s.heap.objs.size → s.heap.get? b = some o → ((s.heap.push { cls := .type "list", data := .seq #[] }).update s.heap.objs.size (Obj.mapSeq (fun _ => (#[] : Array Value)))).get? b = some o :=
    fun b o hb e => (Heap.get?_update_other _ _ (Ne.symm hb)).trans (Heap.get?_push_of_some _ e)
  refine extend_zip (A := A.in1) (oth _ _ (Ne.symm hSz) hz) hSz hS₂ fun h3 c k3 z3 g3 => ?_
  refine h h3 c (fun b o e => k3 b o (Nat.ne_of_lt (Heap.lt_size e)) (oth b o (Nat.ne_of_lt (Heap.lt_size e)) e)) ?_ g3
  rw [z3]
  show ((s.heap.push _).update _ _).objs.size = _
  rw [Heap.size_update, Heap.size_push]
end
/-- list(zip(e, e2)) of two lists of one length -/
def tLstZip (K : PySem.W.Frag) (ta : TA) : TE := fun σ H Q => ta σ H fun vs H1 => ∃ a b xs ys, vs = [.ref a, .ref b] ∧ SqL K H1 a xs ∧ SqL K H1 b ys ∧ xs.length = ys.length ∧ xs.length < sizeLine ∧
  ∀ (S : Addr) (H' : Hp) (ps : List Addr), (∀ c o, H1 c = some o → H' c = some o) → H1 S = none → H' S = some (.lst (ps.map V.ref)) → Paired (fun p (q : V × V) => H' p = some (.tup [q.1, q.2])) ps (xs.zip ys) → Q (.ref S) H'
theorem pe_listZip {e e2 : Expr} {ta : TA} {p pos p1 pos1 : Pos} (hc : X.calm = true) (hgl : Gl X "list") (hml : X.mg "list" = none) (hg : Gl X "zip") (hm : X.mg "zip" = none) (ha : PA X [e, e2] ta)
    (na : starEach [.Call (.Name "zip" p1) [e, e2] [] pos1] X.env = (false, eval (.Call (.Name "zip" p1) [e, e2] [] pos1) X.env) :: starEach [] X.env := by rfl)
    (hs : starEach [e, e2] X.env = (false, eval e X.env) :: starEach [e2] X.env := by rfl) (hpl : (backTo pos1 (starEach [e2] X.env)).any (·.1) = false := by rfl) :
    PE X (.Call (.Name "list" p) [.Call (.Name "zip" p1) [e, e2] [] pos1] [] pos) (tLstZip X.K ta) := by
  refine ⟨fun pins s σ H Q I h => ?_⟩
  have inner : wpAny (model X.prog X.w) X.A (eval (.Call (.Name "zip" p1) [e, e2] [] pos1) X.env) (fun v s2 => wpAny (model X.prog X.w) X.A (call (.type "list") [v]) (EP X pins σ Q) X.xe s2) X.xe s := by
    refine Call_ (ld_blt I hg hm PyProof.Rows.boot_zip (PyProof.Rows.callWith_type1 (thn (ha.run pos1 pins s σ H _ I h) fun us s1 ⟨vs, H1, I1, r1, q1⟩ => ?_) hs hpl))
    obtain ⟨a, b, xs, ys, ex, hqx, hqy, hl, hz, q⟩ := q1
    subst ex
    cases r1 with
    | cons r rr =>
      cases rr with
      | cons r' rr =>
        cases rr
        cases r
        cases r'
        obtain ⟨its, rv, p1, _⟩ := I1.list hqx
        obtain ⟨its2, rv2, p2, _⟩ := I1.list hqy
        have la : a < s1.heap.objs.size := p1.lt
        have lb : b < s1.heap.objs.size := p2.lt
        refine call_zip_2 p1.isList p2.isList fun h' hzz hTI hTO h1 h2 hsz hk => ?_
        have I2 : Inv X pins σ H1 { s1 with heap := h' } := I1.kept (t' := s1.toks) hk
        refine call_list_zip hzz fun h3 c k3 z3 g3 => ?_
        have S0 : H1 h'.objs.size = none := I2.hok.fresh (Nat.le_refl _)
        have I3 : Inv X pins σ (upd H1 h'.objs.size (.lst (([] : List Addr).map V.ref))) { s1 with heap := h3 } := I2.laid (t' := s1.toks) k3 (Nat.le_refl _) ⟨Nat.zero_le _, [], c, .nil, g3⟩
        have five : ∀ d ∈ [s1.heap.objs.size + 4, s1.heap.objs.size + 2, s1.heap.objs.size + 3, s1.heap.objs.size, s1.heap.objs.size + 1], s1.heap.objs.size ≤ d ∧ d < s1.heap.objs.size + 5 := fun d hd => by
          simp only [List.mem_cons, List.not_mem_nil, or_false] at hd
          rcases hd with e | e | e | e | e <;> subst e
          · exact ⟨Nat.le_add_right _ _, Nat.lt_succ_self _⟩
          · exact ⟨Nat.le_add_right _ _, Nat.add_lt_add_left (by decide) _⟩
          · exact ⟨Nat.le_add_right _ _, Nat.add_lt_add_left (by decide) _⟩
          · exact ⟨Nat.le_refl _, Nat.lt_add_of_pos_right (by decide)⟩
          · exact ⟨Nat.le_add_right _ _, Nat.add_lt_add_left (by decide) _⟩
        have nS : ∀ d, d < s1.heap.objs.size + 5 → d ≠ h'.objs.size := fun d hd => by
          rw [hsz]
          exact Nat.ne_of_lt hd
        have la' : a ≠ h'.objs.size := nS a (Nat.lt_of_lt_of_le la (Nat.le_add_right _ _))
        have lb' : b ≠ h'.objs.size := nS b (Nat.lt_of_lt_of_le lb (Nat.le_add_right _ _))
        refine loop_zip (X := X) (pins := pins) (σ := σ) (A := X.A.in1) (S := h'.objs.size) (I1.ok.hd hc) (PySem.W.ktu_apart s1.heap.objs.size a b la lb) xs ys hl hz (fun hm => nS _ (five _ hm).2 rfl) xs.length 0 _ _ [] rfl (Nat.zero_le _) I3 (fun d hd => ?_) (fun d hd => ?_) ⟨k3 _ _ hTI, h1.at fun o e => k3 _ o e, h2.at fun o e => k3 _ o e, .inl ⟨k3 _ _ hzz, _, _, k3 _ _ hTO⟩⟩
          (sql_keep hqx fun o e => by rw [upd_ne la']; exact e) (sql_keep hqy fun o e => by rw [upd_ne lb']; exact e) (Ne.symm la') (Ne.symm lb') upd_same .nil fun H' s' ps' J kk hd' pp => ?_
        · exact I1.fpOk (five d hd).1 (by rw [upd_ne (nS d (five d hd).2)]; exact I1.hok.fresh (five d hd).1)
        · show d < h3.objs.size
          rw [z3, hsz]
          exact Nat.lt_succ_of_lt (five d hd).2
        · refine ⟨rfl, .ref h'.objs.size, H', J, rfl, q _ H' ps' (fun d o e => kk d o (ne_of_none e S0) (by rw [upd_ne (ne_of_none e S0)]; exact e)) S0 hd' pp⟩
  refine Call_ (ld_blt I hgl hml boot_list (PyProof.Rows.callWith_type1 (args_cons (thn inner fun v s2 h2 => args_nil h2) na) na))
end
end NZ
set_option Elab.async false
set_option linter.all false
set_option maxRecDepth 100000
set_option maxHeartbeats 4000000
namespace SA
open PySem PySem.Spec PyProof.Rows L2 KG NR SU RI K15
/-! ### lengths of texts -/
theorem lt_len (ts : List Str) : (listText ts).length ≤ piled ts + 2 := by
  cases ts with
  | nil => decide +kernel
  | cons t r =>
    show (textFrom 0 "[" (t :: r) ++ ("]" : Str)).length ≤ _
    have e1 : textFrom 0 "[" (t :: r) = textFrom 1 (("[" : Str) ++ ("" : Str) ++ t) r := rfl
    have e3 : (("[" : Str)).length = 1 := by decide +kernel
    have e4 : (("]" : Str)).length = 1 := by decide +kernel
    have e5 : (("" : Str)).length = 0 := by decide +kernel
    rw [e1, strLen_append, textFrom_length_pos r 1 _ (by decide), strLen_append, strLen_append, e3, e4, e5, piled_cons]
    omega
theorem tt_len (ts : List Str) : (tupleText ts).length ≤ piled ts + 3 := by
  have e3 : (((if ts.length == 1 then ",)" else ")" : String) : Str)).length ≤ 2 := by split <;> decide +kernel
  have e1 : ((("(" : String) : Str)).length = 1 := by decide +kernel
  unfold tupleText
  rw [strLen_append, strLen_append, e1]
  by_cases h : ts = []
  · subst h
    have : (Str.join ", " []).length = 0 := by decide +kernel
    omega
  · have := join_length_add ts h
    omega
theorem int_len {k : Int} (h : 0 ≤ k ∧ k < 65536) : (Str.ofString (toString k)).length ≤ 6 := by
  have h1 : k.natAbs < 10 ^ 5 := by
    have := h.1
    have := h.2
    omega
  have e := int_text_length_le10 (k := 5) (by decide) h1
  rw [PySem.ofString_length]
  omega
theorem rng_show {k : Int} (h : 0 ≤ k ∧ k < 65536) : (PyData.int k).showable = true := by
  have h1 : k.natAbs < 65536 := by
    have := h.1
    have := h.2
    omega
  rw [PyData.showable]
  refine decide_eq_true ?_
  by_cases h0 : k.natAbs = 0
  · rw [h0]
    decide
  · exact Nat.lt_trans ((Nat.log2_lt h0).mpr (Nat.lt_of_lt_of_le h1 (by decide : 65536 ≤ 2 ^ 16))) (by decide)
/-! ### the data of a term -/
def dT : Trm → PyData
  | .num k => .tuple [.str "num", .int k]
  | .nam x => .tuple [.str "name", .str x]
  | .op w t u => .tuple [.str w, dT t, dT u]
theorem TmAt.dp {K : PySem.W.Frag} {H : Hp} : ∀ {v : V} {t : Trm}, TmAt K H v t → Dp K H v (dT t)
  | _, _, .num h => .tup h (.cons (.str _) (.cons (.int _) .nil))
  | _, _, .nam h => .tup h (.cons (.str _) (.cons (.str _) .nil))
  | _, _, .op hw h h1 h2 => .tup h (.cons (.str _) (.cons (TmAt.dp h1) (.cons (TmAt.dp h2) .nil)))
theorem nm_text {x : Str} (h : Pr x ∧ x.length ≤ 20) : (reprText x).length ≤ 92 := by
  have z := repr_len h.1
  have e := len_cd (reprText x)
  omega
theorem six_text : ∀ w ∈ SU.six, (reprText w).length ≤ 10 := by decide +kernel
theorem data_ok {ns : List Str} (hn : Nms ns) : ∀ t : Trm, Trm.In ns t → (dT t).showable = true ∧ (dT t).hasDict = false ∧ (dT t).depth ≤ Trm.dep t ∧ (dT t).shown.length + 100 ≤ 300 * 2 ^ Trm.dep t
  | .num k, h => by
    refine ⟨?_, ?_, ?_, ?_⟩
    · simp only [dT, PyData.showable, PyData.showableAll]
      have := rng_show h
      rw [PyData.showable] at this
      rw [this]
      rfl
    · simp only [dT, PyData.hasDict, PyData.hasDictAll]
      rfl
    · simp only [dT, PyData.depth, PyData.depthAll, Trm.dep]
      decide
    · simp only [dT, PyData.shown, PyData.shownAll, Trm.dep]
      have h1 := tt_len [reprText "num", Str.ofString (toString k)]
      have h2 : (reprText "num").length ≤ 10 := by decide +kernel
      have h3 := int_len h
      rw [piled_cons, piled_cons, piled_nil] at h1
      have e : ((toString k : String) : Str) = Str.ofString (toString k) := rfl
      omega
  | .nam x, h => by
    refine ⟨?_, ?_, ?_, ?_⟩
    · simp only [dT, PyData.showable, PyData.showableAll]
      rfl
    · simp only [dT, PyData.hasDict, PyData.hasDictAll]
      rfl
    · simp only [dT, PyData.depth, PyData.depthAll, Trm.dep]
      decide
    · simp only [dT, PyData.shown, PyData.shownAll, Trm.dep]
      have h1 := tt_len [reprText "name", reprText x]
      have h2 : (reprText "name").length ≤ 10 := by decide +kernel
      have h3 := nm_text (hn x h)
      rw [piled_cons, piled_cons, piled_nil] at h1
      omega
  | .op w t u, h => by
    obtain ⟨a1, a2, a3, a4⟩ := data_ok hn t h.2.1
    obtain ⟨b1, b2, b3, b4⟩ := data_ok hn u h.2.2
    refine ⟨?_, ?_, ?_, ?_⟩
    · simp only [dT, PyData.showable, PyData.showableAll, a1, b1]
      rfl
    · simp only [dT, PyData.hasDict, PyData.hasDictAll, a2, b2]
      rfl
    · simp only [dT, PyData.depth, PyData.depthAll, Trm.dep]
      omega
    · simp only [dT, PyData.shown, PyData.shownAll, Trm.dep]
      have h1 := tt_len [reprText w, (dT t).shown, (dT u).shown]
      have h3 : (reprText w).length ≤ 10 := six_text w h.1
      rw [piled_cons, piled_cons, piled_cons, piled_nil] at h1
      have p1 : 2 ^ Trm.dep t ≤ 2 ^ max (Trm.dep t) (Trm.dep u) := Nat.pow_le_pow_right (by decide) (Nat.le_max_left _ _)
      have p2 : 2 ^ Trm.dep u ≤ 2 ^ max (Trm.dep t) (Trm.dep u) := Nat.pow_le_pow_right (by decide) (Nat.le_max_right _ _)
      rw [Nat.pow_succ]
      omega

end SA
set_option Elab.async false
set_option linter.all false
set_option maxRecDepth 100000
set_option maxHeartbeats 4000000
namespace K15
open PySem PySem.Spec PyProof.Rows L2 KG KL LamX NdefX NR SU SA RI
/-! ### what is kept by all that a turn does -/
structure Kp (a c : Addr) (H H' : Hp) : Prop where
  keep : ∀ b o, H b = some o → b ≠ a → b ≠ c → (∀ ps, o ≠ .tbl ps) → H' b = some o
theorem Kp.trans {a c : Addr} {H H1 H2 : Hp} (m : Kp a c H H1) (n : Kp a c H1 H2) : Kp a c H H2 := ⟨fun b o e h1 h2 h3 => n.keep b o (m.keep b o e h1 h2 h3) h1 h2 h3⟩
theorem Kp.mv {a c : Addr} {H H' : Hp} (m : Mv a c H H') : Kp a c H H' := ⟨fun b o e h1 h2 _ => m.keep b o e h1 h2⟩
theorem Kp.same {a c : Addr} {H H' : Hp} (m : Same H H') : Kp a c H H' := ⟨fun b o e _ _ _ => m b o e⟩
theorem Kp.ext {a c : Addr} {H H' : Hp} (m : ExtN H H') : Kp a c H H' := ⟨fun b o e _ _ h => m b o e h⟩
theorem Deck.ext {a c : Addr} {H H' : Hp} (d : Deck H a c) (m : ExtN H H') : Deck H' a c := by
  obtain ⟨⟨ns, sd, n, h1, h2, h3⟩, ne⟩ := d
  exact ⟨⟨ns, sd, n, m _ _ h1 (fun _ z => nomatch z), m _ _ h2 (fun _ z => nomatch z), h3⟩, ne⟩
theorem Kp.lst {a c p : Addr} {H H' : Hp} {xs : List V} (m : Kp a c H H') (h : H p = some (.lst xs)) (h1 : p ≠ a) (h2 : p ≠ c) : H' p = some (.lst xs) := m.keep _ _ h h1 h2 fun _ z => nomatch z
/-- where the deck stands nothing but lists is touched -/
theorem Kp.sqt {K : PySem.W.Frag} {a c p : Addr} {H H' : Hp} {xs : List V} (m : Kp a c H H') (d : Deck H a c) (h : SqT K H p xs) : SqT K H' p xs := by
  obtain ⟨⟨ns, sd, n, e1, e2, _⟩, _⟩ := d
  have no : ∀ {o : HO}, H p = some o → (∀ ys, o ≠ .lst ys) → p ≠ a ∧ p ≠ c := fun {o} e h => by
    refine ⟨fun z => ?_, fun z => ?_⟩
    · rw [z, e1] at e
      exact h _ (Option.some.inj e).symm
    · rw [z, e2] at e
      exact h _ (Option.some.inj e).symm
  rcases h with (h | ⟨o, h⟩) | h
  · obtain ⟨h1, h2⟩ := no h fun ys z => nomatch z
    exact .inl (.inl (m.keep _ _ h h1 h2 fun _ z => nomatch z))
  · obtain ⟨h1, h2⟩ := no h fun ys z => nomatch z
    exact .inl (.inr ⟨o, m.keep _ _ h h1 h2 fun _ z => nomatch z⟩)
  · exact .inr h
theorem TmAt.kp {K : PySem.W.Frag} {a c : Addr} {H H' : Hp} (m : Kp a c H H') (d : Deck H a c) : ∀ {v : V} {t : Trm}, TmAt K H v t → TmAt K H' v t
  | _, _, .num h => .num (m.sqt d h)
  | _, _, .nam h => .nam (m.sqt d h)
  | _, _, .op hw h h1 h2 => .op hw (m.sqt d h) (TmAt.kp m d h1) (TmAt.kp m d h2)
/-- a table and its code objects are neither the deck nor a list -/
theorem tabs_mv {T : List (Addr × Str)} {a c : Addr} {H H' : Hp} (d : Deck H a c) (h : ∀ b o, H b = some o → (∀ ys, o ≠ .lst ys) → H' b = some o) (t : Tabs T H) : Tabs T H' := fun p hp => by
  obtain ⟨ps, h1, h2, h3⟩ := t p hp
  refine ⟨ps, h _ _ h1 (fun _ z => nomatch z), h2, fun pos cv hc => ?_⟩
  obtain ⟨cc, e1, e2⟩ := h3 pos cv hc
  refine ⟨cc, e1, h _ _ e2 fun ys z => ?_⟩
  unfold CodeO at z
  cases z
theorem Tabs.mv {T : List (Addr × Str)} {a c : Addr} {H H' : Hp} (t : Tabs T H) (d : Deck H a c) (m : Mv a c H H') : Tabs T H' := by
  refine tabs_mv d (fun b o e h => ?_) t
  obtain ⟨⟨ns, sd, n, e1, e2, _⟩, _⟩ := d
  refine m.keep b o e (fun z => ?_) fun z => ?_
  · rw [z, e1] at e
    exact h _ (Option.some.inj e).symm
  · rw [z, e2] at e
    exact h _ (Option.some.inj e).symm
theorem Tabs.mw {T : List (Addr × Str)} {a c l : Addr} {H H' : Hp} (t : Tabs T H) (d : Deck H a c) (hl : ∃ n : Int, H l = some (.lst [.int n])) (m : Mw a c l H H') : Tabs T H' := by
  refine tabs_mv d (fun b o e h => ?_) t
  obtain ⟨⟨ns, sd, n, e1, e2, _⟩, _⟩ := d
  obtain ⟨n2, e3⟩ := hl
  refine m.keep b o e (fun z => ?_) (fun z => ?_) fun z => ?_
  · rw [z, e1] at e
    exact h _ (Option.some.inj e).symm
  · rw [z, e2] at e
    exact h _ (Option.some.inj e).symm
  · rw [z, e3] at e
    exact h _ (Option.some.inj e).symm
/-! ### a dict made of pairs -/
theorem merge_val {F : Key → V → Prop} : ∀ (kvs acc : List (Key × V)) (k : Key), (∀ kv ∈ kvs, F kv.1 kv.2) → ((∃ v, valV acc k = some v ∧ F k v) ∨ k ∈ kvs.map (·.1)) → ∃ v, valV (mergeK acc kvs) k = some v ∧ F k v
  | [], acc, k, _, h => by
    rcases h with h | h
    · exact h
    · cases h
  | kv :: r, acc, k, hF, h => by
    show ∃ v, valV (mergeK (putK acc kv.1 kv.2) r) k = some v ∧ F k v
    refine merge_val r _ k (fun q hq => hF q (List.mem_cons_of_mem _ hq)) ?_
    rw [valV_put]
    by_cases e : k = kv.1
    · refine .inl ⟨kv.2, by rw [if_pos e], ?_⟩
      rw [e]
      exact hF kv List.mem_cons_self
    · rw [if_neg e]
      rcases h with h | h
      · exact .inl h
      · rcases List.mem_cons.mp h with z | z
        · exact absurd z e
        · exact .inr z
end K15
set_option Elab.async false
set_option linter.all false
set_option maxRecDepth 100000
set_option maxHeartbeats 4000000
/-! ## pairs that always, never come to one sum -/
namespace SU
open PySem RI
theorem j_sum (x y : LS) : joinL "sum" x y = addL x y 1 := by rw [joinL, if_pos rfl]
theorem j_less (x y : LS) : joinL "less" x y = addL x y 65535 := by rw [joinL, if_neg (by decide +kernel), if_pos rfl]
theorem j_times (x y : LS) : joinL "times" x y = timesL x y := by rw [joinL, if_neg (by decide +kernel), if_neg (by decide +kernel), if_pos rfl]
theorem j_same (x y : LS) : joinL "same" x y = sameL x y := by rw [joinL, if_neg (by decide +kernel), if_neg (by decide +kernel), if_neg (by decide +kernel), if_pos rfl]
theorem j_over (x y : LS) : joinL "over" x y = twoL "over" x y := by rw [joinL, if_neg (by decide +kernel), if_neg (by decide +kernel), if_neg (by decide +kernel), if_neg (by decide +kernel)]
theorem j_below (x y : LS) : joinL "below" x y = twoL "below" x y := by rw [joinL, if_neg (by decide +kernel), if_neg (by decide +kernel), if_neg (by decide +kernel), if_neg (by decide +kernel)]
theorem sum_ok {t : Trm} (h : t.Good) : Ok ltS (sumL t) := by
  obtain ⟨τ, vs, A⟩ := sums (ρ := fun _ => 0) (fun _ => by decide) t h (Sta.nil _)
  exact A.r.okl
theorem sum_gd {t : Trm} (h : t.Good) : Gd (sumL t) := by
  obtain ⟨τ, vs, A⟩ := sums (ρ := fun _ => 0) (fun _ => by decide) t h (Sta.nil _)
  exact A.r.gd A.st.pr
/-! ### always -/
section
variable {x y z : LS}
theorem ok_n {n : Int} (h0 : 0 ≤ n) (h1 : n < 65536) : Ok ltS ((n, []) : LS) := ⟨h0, h1, .nil⟩
theorem cf0 (c : Str) : cf ([] : List (Str × Int)) c = 0 := rfl
abbrev O := Lo.str
theorem a_sum (hx : Ok ltS x) (hy : Ok ltS y) (hz : Ok ltS z) : addL x (addL y z 1) 1 = addL (addL z x 1) y 1 := by
  refine ok_ext O (addBy_ok O hx) (addBy_ok O (addBy_ok O hz)) ?_ fun c => ?_
  · show (x.1 + (y.1 + z.1 * 1) % 65536 * 1) % 65536 = ((z.1 + x.1 * 1) % 65536 + y.1 * 1) % 65536
    omega
  · rw [cf_addBy O hx (addBy_ok O hy), cf_addBy O hy hz, cf_addBy O (addBy_ok O hz) hy, cf_addBy O hz hx]
    omega
theorem a_nought (hx : Ok ltS x) : timesL x (0, []) = (0, []) := by
  rw [timesL, if_pos rfl]
  refine ok_ext O (addBy_ok O .nil) .nil ?_ fun c => ?_
  · show (0 + x.1 * 0) % 65536 = 0
    omega
  · rw [cf_addBy O .nil hx]
    show (cf ([] : List (Str × Int)) c + cf x.2 c * 0) % 65536 = cf ([] : List (Str × Int)) c
    rw [cf0]
    omega
theorem a_by {n : Int} : timesL x (n, []) = addL (0, []) x n := by rw [timesL, if_pos rfl]
theorem a_by' {n : Int} (h0 : 0 ≤ n) (h1 : n < 65536) (hx : Ok ltS x) : timesL (n, []) x = addL (0, []) x n := by
  rw [timesL]
  split
  · rename_i e
    refine ok_ext O (addBy_ok O .nil) (addBy_ok O .nil) ?_ fun c => ?_
    · show (0 + n * x.1) % 65536 = (0 + x.1 * n) % 65536
      rw [Int.mul_comm]
    · rw [cf_addBy O .nil (ok_n h0 h1), cf_addBy O .nil hx, e]
      show (cf ([] : List (Str × Int)) c + cf ([] : List (Str × Int)) c * x.1) % 65536 = (cf ([] : List (Str × Int)) c + cf ([] : List (Str × Int)) c * n) % 65536
      rw [cf0, Int.zero_mul, Int.zero_mul]
  · rw [if_pos rfl]
theorem a_back (hx : Ok ltS x) (hy : Ok ltS y) : addL x (addL y x 65535) 1 = y := by
  refine ok_ext O (addBy_ok O hx) hy ?_ fun c => ?_
  · show (x.1 + (y.1 + x.1 * 65535) % 65536 * 1) % 65536 = y.1
    have := hy.n0
    have := hy.n1
    omega
  · rw [cf_addBy O hx (addBy_ok O hy), cf_addBy O hy hx]
    have := cf_rng O hy.cn c
    omega
theorem a_two0 {w : Str} : twoL w x (0, []) = (0, []) := by rw [twoL, if_pos (.inl rfl)]
theorem a_below : twoL "below" x x = (0, []) := by rw [twoL, if_pos (.inr ⟨rfl, rfl⟩)]
theorem a_times (hx : Ok ltS x) (hy : Ok ltS y) : timesL x y = timesL y x := by
  by_cases e1 : x.2 = []
  · have ex : x = (x.1, []) := Prod.ext rfl e1
    rw [ex, a_by, a_by' hx.n0 hx.n1 hy]
  · by_cases e2 : y.2 = []
    · have ey : y = (y.1, []) := Prod.ext rfl e2
      rw [ey, a_by, a_by' hy.n0 hy.n1 hx]
    · rw [timesL, if_neg e2, if_neg e1, timesL, if_neg e1, if_neg e2]
      unfold txTimes
      rw [sort2_comm]
theorem a_self (hx : Ok ltS x) : addL x x 65535 = (0, []) := by
  refine ok_ext O (addBy_ok O hx) .nil ?_ fun c => ?_
  · show (x.1 + x.1 * 65535) % 65536 = 0
    omega
  · rw [cf_addBy O hx hx]
    show _ = (0 : Int)
    omega
theorem a_same (hx : Ok ltS x) : sameL x x = (1, []) := by
  rw [sameL, a_self hx, if_pos rfl, if_pos rfl]
theorem a_one (hx : Ok ltS x) : sameL x (addL x (1, []) 1) = (0, []) := by
  have e : addL x (addL x (1, []) 1) 65535 = (65535, []) := by
    refine ok_ext O (addBy_ok O hx) (ok_n (by decide) (by decide)) ?_ fun c => ?_
    · show (x.1 + (x.1 + 1 * 1) % 65536 * 65535) % 65536 = 65535
      omega
    · rw [cf_addBy O hx (addBy_ok O hx), cf_addBy O hx (ok_n (by decide) (by decide))]
      show (cf x.2 c + (cf x.2 c + (0 : Int) * 1) % 65536 * 65535) % 65536 = (0 : Int)
      omega
  rw [sameL, e, if_pos rfl]
  rfl
theorem same_of {x' y' : LS} (e1 : addL x y 65535 = addL x' y' 65535) (e2 : addL y x 65535 = addL y' x' 65535) : sameL x y = sameL x' y' := by
  rw [sameL, sameL, e1, e2]
theorem a_swap (hx : Ok ltS x) (hy : Ok ltS y) : sameL x y = sameL y x := by
  have e : ∀ {x y : LS}, Ok ltS x → Ok ltS y → (addL x y 65535).2 = [] → (addL y x 65535).2 = [] ∧ ((addL x y 65535).1 = 0 → (addL y x 65535).1 = 0) := by
    intro x y hx hy h
    constructor
    · refine (cn_nil_iff (addBy_ok O hy).cn).mpr fun c => ?_
      have z := (cn_nil_iff (addBy_ok O (y := y) (k := 65535) hx).cn).mp h c
      rw [cf_addBy O hx hy] at z
      rw [cf_addBy O hy hx]
      omega
    · intro z
      have z' : (x.1 + y.1 * 65535) % 65536 = 0 := z
      show (y.1 + x.1 * 65535) % 65536 = 0
      omega
  by_cases c1 : (addL x y 65535).2 = []
  · obtain ⟨c2, n1⟩ := e hx hy c1
    obtain ⟨_, n2⟩ := e hy hx c2
    rw [sameL, sameL, if_pos c1, if_pos c2]
    by_cases d : (addL x y 65535).1 = 0
    · rw [if_pos d, if_pos (n1 d)]
    · rw [if_neg d, if_neg fun z => d (n2 z)]
  · have c2 : ¬ (addL y x 65535).2 = [] := fun z => c1 (e hy hx z).1
    rw [sameL, sameL, if_neg c1, if_neg c2]
    unfold txNought
    rw [minS_comm]
theorem a_gap (hx : Ok ltS x) (hy : Ok ltS y) (hz : Ok ltS z) : sameL (addL x z 1) (addL z y 1) = sameL (addL x y 65535) (0, []) := by
  refine same_of ?_ ?_
  · refine ok_ext O (addBy_ok O (addBy_ok O hx)) (addBy_ok O (addBy_ok O hx)) ?_ fun c => ?_
    · show ((x.1 + z.1 * 1) % 65536 + (z.1 + y.1 * 1) % 65536 * 65535) % 65536 = ((x.1 + y.1 * 65535) % 65536 + 0 * 65535) % 65536
      omega
    · rw [cf_addBy O (addBy_ok O hx) (addBy_ok O hz), cf_addBy O hx hz, cf_addBy O hz hy, cf_addBy O (addBy_ok O hx) .nil, cf_addBy O hx hy]
      show _ = ((cf x.2 c + cf y.2 c * 65535) % 65536 + (0 : Int) * 65535) % 65536
      omega
  · refine ok_ext O (addBy_ok O (addBy_ok O hz)) (addBy_ok O .nil) ?_ fun c => ?_
    · show ((z.1 + y.1 * 1) % 65536 + (x.1 + z.1 * 1) % 65536 * 65535) % 65536 = (0 + (x.1 + y.1 * 65535) % 65536 * 65535) % 65536
      omega
    · rw [cf_addBy O (addBy_ok O hz) (addBy_ok O hx), cf_addBy O hx hz, cf_addBy O hz hy, cf_addBy O .nil (addBy_ok O hx), cf_addBy O hx hy]
      show _ = ((0 : Int) + (cf x.2 c + cf y.2 c * 65535) % 65536 * 65535) % 65536
      omega
theorem a_half (hx : Ok ltS x) : addL (addL (0, []) x 32768) (addL (0, []) x 32768) 1 = (0, []) := by
  refine ok_ext O (addBy_ok O (addBy_ok O .nil)) .nil ?_ fun c => ?_
  · show ((0 + x.1 * 32768) % 65536 + (0 + x.1 * 32768) % 65536 * 1) % 65536 = 0
    omega
  · rw [cf_addBy O (addBy_ok O .nil) (addBy_ok O .nil), cf_addBy O .nil hx]
    show (((0 : Int) + cf x.2 c * 32768) % 65536 + ((0 : Int) + cf x.2 c * 32768) % 65536 * 1) % 65536 = (0 : Int)
    omega
theorem a_three (hx : Ok ltS x) (hy : Ok ltS y) : addL (0, []) (addL x y 1) 3 = addL (addL (0, []) x 3) (addL (0, []) y 3) 1 := by
  refine ok_ext O (addBy_ok O .nil) (addBy_ok O (addBy_ok O .nil)) ?_ fun c => ?_
  · show (0 + (x.1 + y.1 * 1) % 65536 * 3) % 65536 = ((0 + x.1 * 3) % 65536 + (0 + y.1 * 3) % 65536 * 1) % 65536
    omega
  · rw [cf_addBy O .nil (addBy_ok O hx), cf_addBy O hx hy, cf_addBy O (addBy_ok O .nil) (addBy_ok O .nil), cf_addBy O .nil hx, cf_addBy O .nil hy]
    show ((0 : Int) + (cf x.2 c + cf y.2 c * 1) % 65536 * 3) % 65536 = (((0 : Int) + cf x.2 c * 3) % 65536 + ((0 : Int) + cf y.2 c * 3) % 65536 * 1) % 65536
    omega
theorem a_comm (hx : Ok ltS x) (hy : Ok ltS y) : addL x y 1 = addL y x 1 := by
  refine ok_ext O (addBy_ok O hx) (addBy_ok O hy) ?_ fun c => ?_
  · show (x.1 + y.1 * 1) % 65536 = (y.1 + x.1 * 1) % 65536
    omega
  · rw [cf_addBy O hx hy, cf_addBy O hy hx]
    omega
end
abbrev oSum (a b : Trm) : Trm := .op "sum" a b
abbrev oLess (a b : Trm) : Trm := .op "less" a b
abbrev oTimes (a b : Trm) : Trm := .op "times" a b
abbrev oOver (a b : Trm) : Trm := .op "over" a b
abbrev oBelow (a b : Trm) : Trm := .op "below" a b
abbrev oSame (a b : Trm) : Trm := .op "same" a b
theorem s_num {n : Int} (h0 : 0 ≤ n) (h1 : n < 65536) : sumL (.num n) = (n, []) := by
  show (n % 65536, []) = _
  rw [Int.emod_eq_of_lt h0 h1]
def alwaysT (t u v : Trm) : List (Trm × Trm) :=
  [(oSum t (oSum u v), oSum (oSum v t) u), (oTimes t (.num 0), .num 0), (oTimes t (.num 65535), oLess (.num 0) t), (oSum t (oLess u t), u), (oOver t (.num 0), .num 0),
   (oTimes t u, oTimes u t), (oBelow t (.num 0), .num 0), (oBelow t t, .num 0), (oSame t t, .num 1), (oSame t (oSum t (.num 1)), .num 0), (oSame t u, oSame u t),
   (oSame (oSum t v) (oSum v u), oSame (oLess t u) (.num 0)), (oSum (oTimes t (.num 32768)) (oTimes t (.num 32768)), .num 0), (oTimes (.num 3) (oSum t u), oSum (oTimes t (.num 3)) (oTimes u (.num 3))),
   (oBelow (.num 7) (.num 9), .num 1), (oOver (.num 65535) (.num 256), .num 255), (oTimes (.num 256) (.num 256), .num 0), (oLess (.num 0) (.num 1), .num 65535), (oTimes (oSum t u) v, oTimes v (oSum u t))]
theorem always {t u v : Trm} (ht : t.Good) (hu : u.Good) (hv : v.Good) : ∀ p ∈ alwaysT t u v, sumL p.1 = sumL p.2 := by
  have x := sum_ok ht
  have y := sum_ok hu
  have z := sum_ok hv
  have n0 : sumL (.num 0) = (0, []) := rfl
  have n1 : sumL (.num 1) = (1, []) := rfl
  have n3 : sumL (.num 3) = (3, []) := rfl
  have nw : sumL (.num 65535) = (65535, []) := rfl
  have nh : sumL (.num 32768) = (32768, []) := rfl
  intro p hp
  simp only [alwaysT, List.mem_cons, List.not_mem_nil, or_false] at hp
  rcases hp with e | e | e | e | e | e | e | e | e | e | e | e | e | e | e | e | e | e | e <;> subst e <;> simp only [sumL, j_sum, j_less, j_times, j_same, j_over, j_below]
  · exact a_sum x y z
  · exact a_nought x
  · exact a_by
  · exact a_back x y
  · exact a_two0
  · exact a_times x y
  · exact a_two0
  · exact a_below
  · exact a_same x
  · exact a_one x
  · exact a_swap x y
  · exact a_gap x y z
  · have e : timesL (sumL t) (32768 % 65536, []) = addL (0, []) (sumL t) 32768 := a_by
    rw [e]
    exact a_half x
  · have e1 : timesL (3 % 65536, []) (addL (sumL t) (sumL u) 1) = addL (0, []) (addL (sumL t) (sumL u) 1) 3 := a_by' (by decide) (by decide) (addBy_ok O x)
    have e2 : ∀ s : LS, timesL s (3 % 65536, []) = addL (0, []) s 3 := fun s => a_by
    rw [e1, e2, e2]
    exact a_three x y
  · decide +kernel
  · decide +kernel
  · decide +kernel
  · decide +kernel
  · have e := a_comm x y
    rw [a_times (addBy_ok O x) z]
    exact congrArg (timesL (sumL v)) e
/-! ### never -/
theorem sg_inj {a b : Str} (h : (single a : LS) = single b) : a = b := by
  injection h with h1 h2
  injection h2 with h3 h4
  injection h3
theorem sg_num {a : Str} {n : Int} (h : (single a : LS) = (n, [])) : False := by
  injection h with h1 h2
  cases h2
theorem h_leaf (x : Str) : headOf (cd (("name " : Str) ++ x)) = 0 := by rw [tx_leaf_codes]; rfl
theorem h_over (l m : LS) : headOf (cd (txTwo "over" l m)) = 1 := by rw [tx_two_codes, cd_over]; rfl
theorem h_times (l m : LS) : headOf (cd (txTimes l m)) = 3 := by rw [tx_times_codes]; rfl
theorem two_inj {w : Str} {l m l' m' : LS} (g1 : Gd l) (g2 : Gd m) (g3 : Gd l') (g4 : Gd m') (e : txTwo w l m = txTwo w l' m') : l = l' ∧ m = m' := by
  have z := congrArg cd e
  rw [tx_two_codes, tx_two_codes] at z
  have z1 := (List.cons.inj (List.append_cancel_left z)).2
  obtain ⟨e1, z2⟩ := sh_pre g1 g3 z1
  exact ⟨e1, sh_inj g2 g4 (cd_inj (List.cons.inj z2).2)⟩
theorem times_inj {l m l' m' : LS} (g1 : Gd l) (g2 : Gd m) (g3 : Gd l') (g4 : Gd m') (e : txTimes l m = txTimes l' m') : (l = l' ∧ m = m') ∨ (l = m' ∧ m = l') := by
  have z := congrArg cd e
  rw [tx_times_codes, tx_times_codes] at z
  have z1 := List.append_cancel_left z
  rcases sort2_or (sh l) (sh m) with ⟨a1, a2⟩ | ⟨a1, a2⟩ <;> rcases sort2_or (sh l') (sh m') with ⟨b1, b2⟩ | ⟨b1, b2⟩ <;> rw [a1, a2, b1, b2] at z1
  · obtain ⟨e1, z2⟩ := sh_pre g1 g3 z1
    exact .inl ⟨e1, sh_inj g2 g4 (cd_inj (List.cons.inj z2).2)⟩
  · obtain ⟨e1, z2⟩ := sh_pre g1 g4 z1
    exact .inr ⟨e1, sh_inj g2 g3 (cd_inj (List.cons.inj z2).2)⟩
  · obtain ⟨e1, z2⟩ := sh_pre g2 g3 z1
    exact .inr ⟨sh_inj g1 g4 (cd_inj (List.cons.inj z2).2), e1⟩
  · obtain ⟨e1, z2⟩ := sh_pre g2 g4 z1
    exact .inl ⟨sh_inj g1 g3 (cd_inj (List.cons.inj z2).2), e1⟩
theorem nought_inj {l m l' m' : LS} (g1 : Gd l) (g2 : Gd m) (g3 : Gd l') (g4 : Gd m') (e : txNought l m = txNought l' m') : l = l' ∨ l = m' ∨ m = l' ∨ m = m' := by
  have z := congrArg cd e
  rw [tx_nought_codes, tx_nought_codes] at z
  have z1 := cd_inj (List.append_cancel_left z)
  rcases minS_or (sh l) (sh m) with a | a <;> rcases minS_or (sh l') (sh m') with b | b <;> rw [a, b] at z1
  · exact .inl (sh_inj g1 g3 z1)
  · exact .inr (.inl (sh_inj g1 g4 z1))
  · exact .inr (.inr (.inl (sh_inj g2 g3 z1)))
  · exact .inr (.inr (.inr (sh_inj g2 g4 z1)))
theorem ne_nil {l : LS} {c : Str} {k : Int} (h : cf l.2 c = k) (hk : k ≠ 0) : l.2 ≠ [] := fun e => by
  rw [e] at h
  exact hk h.symm
def neverT (x y : Trm) : List (Trm × Trm) :=
  [(oOver x (.num 1), x), (oOver x x, .num 1), (oBelow x y, oBelow y x), (x, y), (oTimes x (oSum y (.num 1)), oSum (oTimes x y) x), (oOver (.num 0) x, .num 0),
   (oSame (oTimes x (.num 2)) (oTimes y (.num 2)), oSame x y), (oBelow (.num 0) x, .num 0), (oTimes (oTimes x (.num 2)) y, oTimes x (oTimes y (.num 2))), (oTimes x x, x)]
theorem never {x y : Str} (hx : Pr x) (hy : Pr y) (ne : x ≠ y) : ∀ p ∈ neverT (.nam x) (.nam y), sumL p.1 ≠ sumL p.2 := by
  have lf : ∀ z : Str, sumL (.nam z) = single (("name " : Str) ++ z) := fun _ => rfl
  have g2 : (2 : Int) % 65536 = 2 := rfl
  have goodN : ∀ {z : Str}, Pr z → (Trm.nam z).Good := fun h => h
  have two : (Trm.num 2).Good := ⟨by decide, by decide⟩
  have one : (Trm.num 1).Good := ⟨by decide, by decide⟩
  have tim : ("times" : Str) ∈ six := by decide +kernel
  have les : ("less" : Str) ∈ six := by decide +kernel
  have nn : (("name " : Str) ++ x) ≠ (("name " : Str) ++ y) := fun e => by
    have z := congrArg cd e
    rw [tx_leaf_codes, tx_leaf_codes] at z
    exact ne (cd_inj (List.append_cancel_left z))
  have ox : Ok ltS (sumL (.nam x)) := sum_ok (goodN hx)
  have oy : Ok ltS (sumL (.nam y)) := sum_ok (goodN hy)
  have gx : Gd (sumL (.nam x)) := sum_gd (goodN hx)
  have gy : Gd (sumL (.nam y)) := sum_gd (goodN hy)
  have cx : cf (sumL (.nam x)).2 (("name " : Str) ++ x) = 1 := by rw [lf, cf_single, if_pos rfl]
  have cy : cf (sumL (.nam y)).2 (("name " : Str) ++ x) = 0 := by rw [lf, cf_single, if_neg (Ne.symm nn)]
  have xn : (sumL (.nam x)).2 ≠ [] := ne_nil cx (by decide)
  have yn : (sumL (.nam y)).2 ≠ [] := by
    refine ne_nil (c := ("name " : Str) ++ y) (k := 1) ?_ (by decide)
    rw [lf, cf_single, if_pos rfl]
  have tx : sumL (oTimes (.nam x) (.num 2)) = addL (0, []) (sumL (.nam x)) 2 := by simp only [sumL, j_times]; exact a_by
  have ty : sumL (oTimes (.nam y) (.num 2)) = addL (0, []) (sumL (.nam y)) 2 := by simp only [sumL, j_times]; exact a_by
  have c2x : cf (sumL (oTimes (.nam x) (.num 2))).2 (("name " : Str) ++ x) = 2 := by
    rw [tx, cf_addBy O .nil ox, cx]
    rfl
  have c2y : cf (sumL (oTimes (.nam y) (.num 2))).2 (("name " : Str) ++ x) = 0 := by
    rw [ty, cf_addBy O .nil oy, cy]
    rfl
  have G2x : (oTimes (.nam x) (.num 2)).Good := ⟨tim, hx, two⟩
  have G2y : (oTimes (.nam y) (.num 2)).Good := ⟨tim, hy, two⟩
  have tx2 : (sumL (oTimes (.nam x) (.num 2))).2 ≠ [] := ne_nil c2x (by decide)
  have ty2 : (sumL (oTimes (.nam y) (.num 2))).2 ≠ [] := by
    refine ne_nil (c := ("name " : Str) ++ y) (k := 2) ?_ (by decide)
    have cyy : cf (sumL (.nam y)).2 (("name " : Str) ++ y) = 1 := by rw [lf, cf_single, if_pos rfl]
    rw [ty, cf_addBy O .nil oy, cyy]
    rfl
  have x0 : sumL (.nam x) ≠ (0, []) := fun e => xn (by rw [e])
  have y0 : sumL (.nam y) ≠ (0, []) := fun e => yn (by rw [e])
  have xy : sumL (.nam x) ≠ sumL (.nam y) := fun e => by
    rw [e, cy] at cx
    exact absurd cx (by decide)
  have twoS : ∀ {w : Str} {l m : LS}, m ≠ (0, []) → (w = "below" → l ≠ m) → (l.2 ≠ [] ∨ m.2 ≠ []) → twoL w l m = single (txTwo w l m) := by
    intro w l m h1 h2 h3
    rw [twoL, if_neg (fun z => z.elim h1 fun q => h2 q.1 q.2), if_neg (fun z => h3.elim (fun q => q z.1) fun q => q z.2)]
  have nOB : ¬ ("over" : Str) = "below" := by decide +kernel
  have tmS : ∀ {l m : LS}, l.2 ≠ [] → m.2 ≠ [] → timesL l m = single (txTimes l m) := by
    intro l m h1 h2
    rw [timesL, if_neg h2, if_neg h1]
  intro p hp
  simp only [neverT, List.mem_cons, List.not_mem_nil, or_false] at hp
  rcases hp with e | e | e | e | e | e | e | e | e | e <;> subst e <;> intro h
  · have h' : twoL "over" (sumL (.nam x)) (1, []) = sumL (.nam x) := by
      have q : sumL (oOver (.nam x) (.num 1)) = sumL (.nam x) := h
      simp only [sumL, j_over] at q
      exact q
    rw [twoS (fun z => by injection z with z1 z2; exact absurd z1 (by decide)) (fun z => absurd z nOB) (.inl xn)] at h'
    have e := sg_inj h'
    have z := h_over (sumL (.nam x)) (1, [])
    rw [e, h_leaf] at z
    exact absurd z (by decide)
  · have h' : twoL "over" (sumL (.nam x)) (sumL (.nam x)) = (1, []) := by
      have q : sumL (oOver (.nam x) (.nam x)) = sumL (.num 1) := h
      simp only [sumL, j_over] at q
      exact q
    rw [twoS x0 (fun z => absurd z nOB) (.inl xn)] at h'
    exact sg_num h'
  · have h' : twoL "below" (sumL (.nam x)) (sumL (.nam y)) = twoL "below" (sumL (.nam y)) (sumL (.nam x)) := by
      have q : sumL (oBelow (.nam x) (.nam y)) = sumL (oBelow (.nam y) (.nam x)) := h
      simp only [sumL, j_below] at q
      exact q
    rw [twoS y0 (fun _ => xy) (.inl xn), twoS x0 (fun _ => Ne.symm xy) (.inl yn)] at h'
    exact xy (two_inj gx gy gy gx (sg_inj h')).1
  · exact xy h
  · have h' : timesL (sumL (.nam x)) (addL (sumL (.nam y)) (1, []) 1) = addL (timesL (sumL (.nam x)) (sumL (.nam y))) (sumL (.nam x)) 1 := by
      have q : sumL (oTimes (.nam x) (oSum (.nam y) (.num 1))) = sumL (oSum (oTimes (.nam x) (.nam y)) (.nam x)) := h
      simp only [sumL, j_times, j_sum] at q
      exact q
    have y1 : (addL (sumL (.nam y)) (1, []) 1).2 ≠ [] := yn
    rw [tmS xn y1, tmS xn yn] at h'
    have nh : ∀ l m, txTimes l m ≠ (("name " : Str) ++ x) := fun l m e => by
      have z := h_times l m
      rw [e, h_leaf] at z
      exact absurd z (by decide)
    have z := congrArg (fun q : LS => cf q.2 (("name " : Str) ++ x)) h'
    rw [cf_single, if_neg (nh _ _), cf_addBy O (single_ok _) ox, cf_single, if_neg (nh _ _), cx] at z
    exact absurd z (by decide)
  · have h' : twoL "over" (0, []) (sumL (.nam x)) = (0, []) := by
      have q : sumL (oOver (.num 0) (.nam x)) = sumL (.num 0) := h
      simp only [sumL, j_over] at q
      exact q
    rw [twoS x0 (fun z => absurd z nOB) (.inr xn)] at h'
    exact sg_num h'
  · have h' : sameL (sumL (oTimes (.nam x) (.num 2))) (sumL (oTimes (.nam y) (.num 2))) = sameL (sumL (.nam x)) (sumL (.nam y)) := by
      have q : sumL (oSame (oTimes (.nam x) (.num 2)) (oTimes (.nam y) (.num 2))) = sumL (oSame (.nam x) (.nam y)) := h
      simp only [sumL, j_same] at q
      exact q
    have lessL : ∀ a b : Trm, sumL (oLess a b) = addL (sumL a) (sumL b) 65535 := fun a b => by simp only [sumL, j_less]
    have A1 : cf (addL (sumL (oTimes (.nam x) (.num 2))) (sumL (oTimes (.nam y) (.num 2))) 65535).2 (("name " : Str) ++ x) = 2 := by
      rw [cf_addBy O (sum_ok G2x) (sum_ok G2y), c2x, c2y]
      rfl
    have A2 : cf (addL (sumL (oTimes (.nam y) (.num 2))) (sumL (oTimes (.nam x) (.num 2))) 65535).2 (("name " : Str) ++ x) = 65534 := by
      rw [cf_addBy O (sum_ok G2y) (sum_ok G2x), c2x, c2y]
      rfl
    have B1 : cf (addL (sumL (.nam x)) (sumL (.nam y)) 65535).2 (("name " : Str) ++ x) = 1 := by
      rw [cf_addBy O ox oy, cx, cy]
      rfl
    have B2 : cf (addL (sumL (.nam y)) (sumL (.nam x)) 65535).2 (("name " : Str) ++ x) = 65535 := by
      rw [cf_addBy O oy ox, cx, cy]
      rfl
    have K1 : Gd (addL (sumL (oTimes (.nam x) (.num 2))) (sumL (oTimes (.nam y) (.num 2))) 65535) := by rw [← lessL]; exact sum_gd ⟨les, G2x, G2y⟩
    have K2 : Gd (addL (sumL (oTimes (.nam y) (.num 2))) (sumL (oTimes (.nam x) (.num 2))) 65535) := by rw [← lessL]; exact sum_gd ⟨les, G2y, G2x⟩
    have K3 : Gd (addL (sumL (.nam x)) (sumL (.nam y)) 65535) := by rw [← lessL]; exact sum_gd ⟨les, hx, hy⟩
    have K4 : Gd (addL (sumL (.nam y)) (sumL (.nam x)) 65535) := by rw [← lessL]; exact sum_gd ⟨les, hy, hx⟩
    rw [sameL, sameL, if_neg (ne_nil A1 (by decide)), if_neg (ne_nil B1 (by decide))] at h'
    rcases nought_inj K1 K2 K3 K4 (sg_inj h') with e | e | e | e
    · rw [e, B1] at A1
      exact absurd A1 (by decide)
    · rw [e, B2] at A1
      exact absurd A1 (by decide)
    · rw [e, B1] at A2
      exact absurd A2 (by decide)
    · rw [e, B2] at A2
      exact absurd A2 (by decide)
  · have h' : twoL "below" (0, []) (sumL (.nam x)) = (0, []) := by
      have q : sumL (oBelow (.num 0) (.nam x)) = sumL (.num 0) := h
      simp only [sumL, j_below] at q
      exact q
    rw [twoS x0 (fun _ => Ne.symm x0) (.inr xn)] at h'
    exact sg_num h'
  · have h' : timesL (sumL (oTimes (.nam x) (.num 2))) (sumL (.nam y)) = timesL (sumL (.nam x)) (sumL (oTimes (.nam y) (.num 2))) := by
      have q : sumL (oTimes (oTimes (.nam x) (.num 2)) (.nam y)) = sumL (oTimes (.nam x) (oTimes (.nam y) (.num 2))) := h
      simp only [sumL, j_times] at q
      simp only [sumL, j_times]
      exact q
    rw [tmS tx2 yn, tmS xn ty2] at h'
    rcases times_inj (sum_gd G2x) gy gx (sum_gd G2y) (sg_inj h') with e | e
    · rw [e.1, cx] at c2x
      exact absurd c2x (by decide)
    · rw [e.1, c2y] at c2x
      exact absurd c2x (by decide)
  · have h' : timesL (sumL (.nam x)) (sumL (.nam x)) = sumL (.nam x) := by
      have q : sumL (oTimes (.nam x) (.nam x)) = sumL (.nam x) := h
      simp only [sumL, j_times] at q
      exact q
    rw [tmS xn xn] at h'
    have e := sg_inj h'
    have z := h_times (sumL (.nam x)) (sumL (.nam x))
    rw [e, h_leaf] at z
    exact absurd z (by decide)
end SU
set_option Elab.async false
set_option linter.all false
set_option maxRecDepth 100000
set_option maxHeartbeats 4000000
/-! ## terms, pairs and lists of pairs built by expressions -/
namespace SA
open PySem PySem.Spec PyProof.Rows L2 NR SU RI K15
theorem seq_of {t u : TS} {D : Ends} {σ : L2.St} {H : Hp} (h : t { D with nx := u D } σ H) : tSeq t u D σ H := h
theorem asg_of {te : TE} {g : TG} {D : Ends} {σ : L2.St} {H : Hp} (h : te σ H fun x H1 => g x σ H1 D.nx) : tAsg te g D σ H := h
theorem st_set {te : TE} {i : Nat} {t : TS} {D : Ends} {σ : L2.St} {H : Hp} (h : te σ H fun x H1 => t D (σ.set i (some x)) H1) : tSeq (tAsg te (gName i)) t D σ H := h
theorem st_drop {te : TE} {t : TS} {D : Ends} {σ : L2.St} {H : Hp} (h : te σ H fun _ H1 => t D σ H1) : tSeq (tDrop te) t D σ H := h
theorem drop_of {te : TE} {D : Ends} {σ : L2.St} {H : Hp} (h : te σ H fun _ H1 => D.nx σ H1) : tDrop te D σ H := h
theorem ret_of {te : TE} {D : Ends} {σ : L2.St} {H : Hp} (h : te σ H D.rt) : tRet te D σ H := h
theorem cons_of {te : TE} {ta : TA} {σ : L2.St} {H : Hp} {Q : List V → Hp → Prop} (h : te σ H fun x H1 => ta σ H1 fun xs H2 => Q (x :: xs) H2) : tCons te ta σ H Q := h
theorem tup_of {ta : TA} {σ : L2.St} {H : Hp} {Q : V → Hp → Prop} (h : ta σ H fun xs H1 => xs.length ≤ sizeLine ∧ ∀ p, H1 p = none → Q (.ref p) (upd H1 p (.tup xs))) : tTup ta σ H Q := h
theorem op_of {r : R2} {ta tb : TE} {σ : L2.St} {H : Hp} {Q : V → Hp → Prop} (h : ta σ H fun x H1 => tb σ H1 fun y H2 => r x y H2 Q) : tOp r ta tb σ H Q := h
theorem bm_of {K : PySem.W.Frag} {T : String} {r : V → List V → Hp → VK → Prop} {to : TE} {t : TA} {σ : L2.St} {H : Hp} {Q : V → Hp → Prop} (h : to σ H fun x H1 => tyV K T x H1 ∧ t σ H1 fun xs H2 => r x xs H2 Q) : tBM K T r to t σ H Q := h
section
variable {K : PySem.W.Frag} {σ : L2.St} {H0 : Hp}
/-- it builds this term -/
def TX (K : PySem.W.Frag) (σ : L2.St) (H0 : Hp) (te : TE) (t : Trm) : Prop := ∀ (H : Hp) (Q : V → Hp → Prop), Same H0 H → (∀ v H', Same H H' → TmAt K H' v t → Q v H') → te σ H Q
theorem tx_var {i : Nat} {v : V} {t : Trm} (e : σ[i]? = some (some v)) (h : TmAt K H0 v t) : TX K σ H0 (tVar i) t := fun H Q s q => ⟨v, e, q v H (Same.refl _) (h.tk (Tk.of s))⟩
theorem tx_num {k : Int} : TX K σ H0 (tTup (tCons (tC (.str "num")) (tCons (tC (.int k)) tNil))) (.num k) := fun H Q s q =>
  ⟨(by show 2 ≤ sizeLine; decide), fun p hp => q _ _ (same_new hp) (.num sq_new)⟩
theorem tx_opW {tw t1 t2 : TE} {wd : Str} {a b : Trm} (hw : wd ∈ SU.six) (hs : ∀ (H : Hp) (Q : V → Hp → Prop), Same H0 H → (∀ H', Same H H' → Q (.str wd) H') → tw σ H Q) (h1 : TX K σ H0 t1 a) (h2 : TX K σ H0 t2 b) : TX K σ H0 (tTup (tCons tw (tCons t1 (tCons t2 tNil)))) (.op wd a b) := fun H Q s q => by
  refine hs H _ s fun Hw sw => h1 Hw _ (s.trans sw) fun v1 H1 s1 g1 => h2 H1 _ ((s.trans sw).trans s1) fun v2 H2 s2 g2 => ⟨(by show 3 ≤ sizeLine; decide), fun p hp => ?_⟩
  have s3 := same_new (o := .tup [.str wd, v1, v2]) hp
  exact q _ _ (((sw.trans s1).trans s2).trans s3) (.op hw sq_new (g1.tk (Tk.of (s2.trans s3))) (g2.tk (Tk.of s3)))
theorem tx_op {t1 t2 : TE} {wd : Str} {a b : Trm} (hw : wd ∈ SU.six) (h1 : TX K σ H0 t1 a) (h2 : TX K σ H0 t2 b) : TX K σ H0 (tTup (tCons (tC (.str wd)) (tCons t1 (tCons t2 tNil)))) (.op wd a b) := tx_opW hw (fun H Q _ q => q H (Same.refl _)) h1 h2
/-- a pair of terms -/
def PrAt (K : PySem.W.Frag) (H : Hp) (v : V) (p : Trm × Trm) : Prop := ∃ (r : Addr) (v1 v2 : V), v = .ref r ∧ SqT K H r [v1, v2] ∧ TmAt K H v1 p.1 ∧ TmAt K H v2 p.2
theorem PrAt.tk {H H' : Hp} {v : V} {p : Trm × Trm} (k : Tk H H') (h : PrAt K H v p) : PrAt K H' v p := by
  obtain ⟨r, v1, v2, e, a, b, c⟩ := h
  exact ⟨r, v1, v2, e, k.sq a, b.tk k, c.tk k⟩
def PX (K : PySem.W.Frag) (σ : L2.St) (H0 : Hp) (te : TE) (p : Trm × Trm) : Prop := ∀ (H : Hp) (Q : V → Hp → Prop), Same H0 H → (∀ v H', Same H H' → PrAt K H' v p → Q v H') → te σ H Q
theorem px_mk {t1 t2 : TE} {a b : Trm} (h1 : TX K σ H0 t1 a) (h2 : TX K σ H0 t2 b) : PX K σ H0 (tTup (tCons t1 (tCons t2 tNil))) (a, b) := fun H Q s q => by
  refine h1 H _ s fun v1 H1 s1 g1 => h2 H1 _ (s.trans s1) fun v2 H2 s2 g2 => ⟨(by show 2 ≤ sizeLine; decide), fun p hp => ?_⟩
  have s3 := same_new (o := .tup [v1, v2]) hp
  exact q _ _ ((s1.trans s2).trans s3) ⟨p, v1, v2, rfl, sq_new, g1.tk (Tk.of (s2.trans s3)), g2.tk (Tk.of s3)⟩
def PXA (K : PySem.W.Frag) (σ : L2.St) (H0 : Hp) (ta : TA) (L : List (Trm × Trm)) : Prop := ∀ (H : Hp) (Q : List V → Hp → Prop), Same H0 H → (∀ vs H', Same H H' → Paired (PrAt K H') vs L → Q vs H') → ta σ H Q
theorem pxa_nil : PXA K σ H0 tNil [] := fun H Q s q => q [] H (Same.refl _) .nil
theorem pxa_cons {te : TE} {ta : TA} {p : Trm × Trm} {L : List (Trm × Trm)} (h : PX K σ H0 te p) (g : PXA K σ H0 ta L) : PXA K σ H0 (tCons te ta) (p :: L) := fun H Q s q =>
  h H _ s fun v H1 s1 g1 => g H1 _ (s.trans s1) fun vs H2 s2 g2 => q (v :: vs) H2 (s1.trans s2) (.cons (g1.tk (Tk.of s2)) g2)
/-- a list of pairs -/
def PLs (K : PySem.W.Frag) (H : Hp) (l : Addr) (L : List (Trm × Trm)) : Prop := ∃ xs, H l = some (.lst xs) ∧ Paired (PrAt K H) xs L
theorem PLs.same {H H' : Hp} {l : Addr} {L : List (Trm × Trm)} (h : PLs K H l L) (s : Same H H') : PLs K H' l L := by
  obtain ⟨xs, a, b⟩ := h
  exact ⟨xs, s _ _ a, Paired.imp (fun v p z => z.tk (Tk.of s)) b⟩
theorem lx_list {ta : TA} {L : List (Trm × Trm)} (g : PXA K σ H0 ta L) (hn : L.length ≤ 200) {Q : V → Hp → Prop} (q : ∀ l H', Same H0 H' → H0 l = none → PLs K H' l L → Q (.ref l) H') : tLst ta σ H0 Q := by
  refine g H0 _ (Same.refl _) fun vs H1 s1 g1 => ⟨by rw [g1.length, sizeLine_eq]; omega, fun l hl => ?_⟩
  have s2 := same_new (o := .lst vs) hl
  have s12 := s1.trans s2
  exact q l _ s12 (s1.free hl) ⟨vs, upd_same, Paired.imp (fun v p z => z.tk (Tk.of s2)) g1⟩
theorem paired_app {α β : Type} {F : α → β → Prop} : ∀ {l l' : List α} {m m' : List β}, Paired F l m → Paired F l' m' → Paired F (l ++ l') (m ++ m')
  | _, _, _, _, .nil, k => k
  | _, _, _, _, .cons a b, k => .cons a (paired_app b k)
theorem lx_cat {H : Hp} {l1 l2 : Addr} {L1 L2 : List (Trm × Trm)} (h1 : PLs K H l1 L1) (h2 : PLs K H l2 L2) (hn : L1.length + L2.length ≤ 300) {Q : V → Hp → Prop} (q : ∀ l H', Same H H' → H l = none → PLs K H' l (L1 ++ L2) → Q (.ref l) H') : rCat (.ref l1) (.ref l2) H Q := by
  obtain ⟨xs, a1, b1⟩ := h1
  obtain ⟨ys, a2, b2⟩ := h2
  refine ⟨l1, l2, xs, ys, rfl, rfl, a1, a2, by rw [b1.length, b2.length, sizeLine_eq]; omega, fun p hp => ?_⟩
  have s2 := same_new (o := .lst (xs ++ ys)) hp
  exact q p _ s2 hp ⟨_, upd_same, paired_app (Paired.imp (fun v p z => z.tk (Tk.of s2)) b1) (Paired.imp (fun v p z => z.tk (Tk.of s2)) b2)⟩
/-- some + [..] -/
theorem lx_plus {i : Nat} {l1 : Addr} {ta : TA} {L1 L2 : List (Trm × Trm)} (e : σ[i]? = some (some (.ref l1))) (h1 : PLs K H0 l1 L1) (g : PXA K σ H0 ta L2) (n1 : L1.length ≤ 100) (n2 : L2.length ≤ 100) {Q : V → Hp → Prop} (q : ∀ l H', Same H0 H' → H0 l = none → PLs K H' l (L1 ++ L2) → Q (.ref l) H') : tOp rCat (tVar i) (tLst ta) σ H0 Q := by
  refine op_of ⟨_, e, ?_⟩
  refine lx_list g (by omega) fun l2 H2 s2 f2 P2 => ?_
  refine lx_cat (h1.same s2) P2 (by omega) fun l3 H3 s3 f3 P3 => ?_
  exact q l3 H3 (s2.trans s3) (s2.free f3) P3
/-- some.append(..) -/
theorem lx_app {H : Hp} {i : Nat} {l : Addr} {te : TE} {L : List (Trm × Trm)} {p : Trm × Trm} (e : σ[i]? = some (some (.ref l))) (s : Same H H0) (fl : H l = none) (h : PLs K H0 l L) (g : PX K σ H0 te p) (n1 : L.length ≤ 100) {t : TS} {D : Ends} (q : ∀ H', Same H H' → Tk H0 H' → PLs K H' l (L ++ [p]) → t D σ H') :
    tSeq (tDrop (tBM K "list" rAppend (tVar i) (tCons te tNil))) t D σ H0 := by
  obtain ⟨xs, a, b⟩ := h
  refine st_drop (bm_of ⟨_, e, .inl ⟨rfl, _, SL a⟩, cons_of ?_⟩)
  refine g H0 _ (Same.refl _) fun v H1 s1 g1 => ⟨l, xs, v, rfl, rfl, s1 _ _ a, by rw [b.length, sizeLine_eq]; omega, ?_⟩
  have k : Tk H1 (upd H1 l (.lst (xs ++ [v]))) := tk_lst (s1 _ _ a)
  exact q _ (Same.put (s.trans s1) fl) ((Tk.of s1).trans k) ⟨_, upd_same, paired_app (Paired.imp (fun v p z => (z.tk (Tk.of s1)).tk k) b) (.cons (g1.tk k) .nil)⟩
end
end SA
set_option Elab.async false
set_option linter.all false
set_option maxRecDepth 100000
set_option maxHeartbeats 4000000
namespace K15
open PySem PySem.Spec PyProof.Rows L2 KG NR SU SA RI
section
variable {P : Program} {w : World} {K : PySem.W.Frag} {mg : Str → Option Value} {base : Heap}
/-- terms in slots -/
def Ev (K : PySem.W.Frag) (H : Hp) (σ : L2.St) (Γ : List (Nat × Trm)) : Prop := ∀ p ∈ Γ, ∃ v, σ[p.1]? = some (some v) ∧ TmAt K H v p.2
theorem Ev.tk {H H' : Hp} {σ : L2.St} {Γ : List (Nat × Trm)} (h : Ev K H σ Γ) (k : Tk H H') : Ev K H' σ Γ := fun p hp => by
  obtain ⟨v, a, b⟩ := h p hp
  exact ⟨v, a, b.tk k⟩
theorem Ev.set {H : Hp} {σ : L2.St} {Γ : List (Nat × Trm)} {i : Nat} {x : Option V} (h : Ev K H σ Γ) (n : i ∉ Γ.map (·.1)) : Ev K H (σ.set i x) Γ := fun p hp => by
  obtain ⟨v, a, b⟩ := h p hp
  refine ⟨v, ?_, b⟩
  have ne : i ≠ p.1 := fun e => n (by rw [e]; exact List.mem_map_of_mem (f := (·.1)) hp)
  rw [List.getElem?_set_ne ne]
  exact a
theorem Ev.add {H : Hp} {σ : L2.St} {Γ : List (Nat × Trm)} {i : Nat} {v : V} {t : Trm} (h : Ev K H σ Γ) (e : σ[i]? = some (some v)) (ht : TmAt K H v t) : Ev K H σ ((i, t) :: Γ) := fun p hp => by
  rcases List.mem_cons.mp hp with z | z
  · subst z
    exact ⟨v, e, ht⟩
  · exact h p z
theorem Ev.nil {H : Hp} {σ : L2.St} : Ev K H σ [] := fun _ z => nomatch z
theorem tx_at {H0 : Hp} {σ : L2.St} {Γ : List (Nat × Trm)} {i : Nat} {t : Trm} (j : Nat) (h : Ev K H0 σ Γ) (e : Γ[j]? = some (i, t)) : TX K σ H0 (tVar i) t := by
  obtain ⟨v, a, b⟩ := h _ (List.mem_of_getElem? e)
  exact tx_var a b
abbrev nN (k : Int) : TE := tTup (tCons (tC (.str "num")) (tCons (tC (.int k)) tNil))
theorem st_nums3 {k1 k2 k3 : Int} {i j l : Nat} {t : TS} {D : Ends} {σ : L2.St} {H : Hp} (q : ∀ v1 v2 v3 H', Same H H' → TmAt K H' v1 (.num k1) → TmAt K H' v2 (.num k2) → TmAt K H' v3 (.num k3) → t D (((σ.set i (some v1)).set j (some v2)).set l (some v3)) H') :
    tSeq (tAsg (tTup (tCons (nN k1) (tCons (nN k2) (tCons (nN k3) tNil)))) (gTup K 3 (gCons (gName i) (gCons (gName j) (gCons (gName l) gNil))))) t D σ H := by
  refine seq_of (asg_of (tup_of (cons_of ?_)))
  refine tx_num (K := K) (σ := σ) (H0 := H) (k := k1) H _ (Same.refl _) fun v1 H1 s1 g1 => cons_of ?_
  refine tx_num (K := K) (σ := σ) (H0 := H1) (k := k2) H1 _ (Same.refl _) fun v2 H2 s2 g2 => cons_of ?_
  refine tx_num (K := K) (σ := σ) (H0 := H2) (k := k3) H2 _ (Same.refl _) fun v3 H3 s3 g3 => ?_
  refine ⟨(by show 3 ≤ sizeLine; decide), fun p hp => ?_⟩
  have s4 := same_new (o := .tup [v1, v2, v3]) hp
  refine ⟨p, _, rfl, sq_new, rfl, _, _, rfl, _, _, rfl, _, _, rfl, rfl, ?_⟩
  exact q _ _ _ _ (((s1.trans s2).trans s3).trans s4) (g1.tk (Tk.of ((s2.trans s3).trans s4))) (g2.tk (Tk.of (s3.trans s4))) (g3.tk (Tk.of s4))
theorem st_nums2 {k1 k2 : Int} {i j : Nat} {t : TS} {D : Ends} {σ : L2.St} {H : Hp} (q : ∀ v1 v2 H', Same H H' → TmAt K H' v1 (.num k1) → TmAt K H' v2 (.num k2) → t D ((σ.set i (some v1)).set j (some v2)) H') :
    tSeq (tAsg (tTup (tCons (nN k1) (tCons (nN k2) tNil))) (gTup K 2 (gCons (gName i) (gCons (gName j) gNil)))) t D σ H := by
  refine seq_of (asg_of (tup_of (cons_of ?_)))
  refine tx_num (K := K) (σ := σ) (H0 := H) (k := k1) H _ (Same.refl _) fun v1 H1 s1 g1 => cons_of ?_
  refine tx_num (K := K) (σ := σ) (H0 := H1) (k := k2) H1 _ (Same.refl _) fun v2 H2 s2 g2 => ?_
  refine ⟨(by show 2 ≤ sizeLine; decide), fun p hp => ?_⟩
  have s4 := same_new (o := .tup [v1, v2]) hp
  refine ⟨p, _, rfl, sq_new, rfl, _, _, rfl, _, _, rfl, rfl, ?_⟩
  exact q _ _ _ ((s1.trans s2).trans s4) (g1.tk (Tk.of (s2.trans s4))) (g2.tk (Tk.of s4))
theorem w_sum : ("sum" : Str) ∈ SU.six := by decide +kernel
theorem w_less : ("less" : Str) ∈ SU.six := by decide +kernel
theorem w_times : ("times" : Str) ∈ SU.six := by decide +kernel
theorem w_over : ("over" : Str) ∈ SU.six := by decide +kernel
theorem w_below : ("below" : Str) ∈ SU.six := by decide +kernel
theorem w_same : ("same" : Str) ∈ SU.six := by decide +kernel
abbrev sAlw : Stmt := topS 34
abbrev pAlw : List Str := ["_law_t", "_law_u", "_law_v"]
abbrev nAlw : List Str := ["_law_t", "_law_u", "_law_v", "_law_none", "_law_unit", "_law_wide", "_law_some", "_law_half"]
theorem scAlw : FnScope nAlw pAlw (defScope sAlw) := ⟨rfl, rfl, rfl, by decide +kernel, rfl, by decide +kernel, by decide +kernel⟩
def spAlw (K : PySem.W.Frag) : Sp := fun vs H Q _ => ∃ (v0 v1 v2 : V) (t0 t1 t2 : Trm), vs = [v0, v1, v2] ∧ TmAt K H v0 t0 ∧ TmAt K H v1 t1 ∧ TmAt K H v2 t2 ∧
  ∀ l H', Same H H' → H l = none → PLs K H' l (alwaysT t0 t1 t2) → Q (.ref l) H'
theorem ok_alw {f : Addr} {fd : FuncData} {k : Nat} (F : Fun K "_law_always" "_law_always" sAlw f fd) : FnOk P w K mg base CX0 (k + 1) f fd pAlw (spAlw K) := by
  refine F.ok scAlw (fun vs H Q E h => ?_) (fun cdv A outer s H vs Q E hr h => ?_)
  · obtain ⟨v0, v1, v2, t0, t1, t2, rfl, _⟩ := h
    rfl
  · obtain ⟨v0, v1, v2, t0, t1, t2, rfl, h0, h1, h2, q⟩ := h
    refine ⟨_, (pss_cons (ps_asg (pe_tup (pa_cons (pe_tup (pa_cons pe_str (pa_cons pe_int pa_nil))) (pa_cons (pe_tup (pa_cons pe_str (pa_cons pe_int pa_nil))) (pa_cons (pe_tup (pa_cons pe_str (pa_cons pe_int pa_nil))) pa_nil)))) (pg_tup rfl (pgs_cons (pg_name (i := 3) scAlw.nd rfl (.inl rfl)) (pgs_cons (pg_name (i := 4) scAlw.nd rfl (.inl rfl)) (pgs_cons (pg_name (i := 5) scAlw.nd rfl (.inl rfl)) pgs_nil)))))
        (pss_cons (ps_set (i := 6) scAlw.nd rfl (.inl rfl) (pe_lst (pa_cons (pe_tup (pa_cons (pe_tup (pa_cons pe_str (pa_cons (pv 0) (pa_cons (pe_tup (pa_cons pe_str (pa_cons (pv 1) (pa_cons (pv 2) pa_nil)))) pa_nil)))) (pa_cons (pe_tup (pa_cons pe_str (pa_cons (pe_tup (pa_cons pe_str (pa_cons (pv 2) (pa_cons (pv 0) pa_nil)))) (pa_cons (pv 1) pa_nil)))) pa_nil))) (pa_cons (pe_tup (pa_cons (pe_tup (pa_cons pe_str (pa_cons (pv 0) (pa_cons (pv 3) pa_nil)))) (pa_cons (pv 3) pa_nil))) pa_nil))))
        (pss_cons (ps_set (i := 6) scAlw.nd rfl (.inl rfl) (pe_op op_cat (pv 6) (pe_lst (pa_cons (pe_tup (pa_cons (pe_tup (pa_cons pe_str (pa_cons (pv 0) (pa_cons (pv 5) pa_nil)))) (pa_cons (pe_tup (pa_cons pe_str (pa_cons (pv 3) (pa_cons (pv 0) pa_nil)))) pa_nil))) (pa_cons (pe_tup (pa_cons (pe_tup (pa_cons pe_str (pa_cons (pv 0) (pa_cons (pe_tup (pa_cons pe_str (pa_cons (pv 1) (pa_cons (pv 0) pa_nil)))) pa_nil)))) (pa_cons (pv 1) pa_nil))) pa_nil)))))
        (pss_cons (ps_expr (pe_bm PySem.F.plainAttrs_list PySem.F.slot_list_append PySem.F.type_list_append mt_append (pv 6) (pa_cons (pe_tup (pa_cons (pe_tup (pa_cons pe_str (pa_cons (pv 0) (pa_cons (pv 3) pa_nil)))) (pa_cons (pv 3) pa_nil))) pa_nil)))
        (pss_cons (ps_set (i := 6) scAlw.nd rfl (.inl rfl) (pe_op op_cat (pv 6) (pe_lst (pa_cons (pe_tup (pa_cons (pe_tup (pa_cons pe_str (pa_cons (pv 0) (pa_cons (pv 1) pa_nil)))) (pa_cons (pe_tup (pa_cons pe_str (pa_cons (pv 1) (pa_cons (pv 0) pa_nil)))) pa_nil))) (pa_cons (pe_tup (pa_cons (pe_tup (pa_cons pe_str (pa_cons (pv 0) (pa_cons (pv 3) pa_nil)))) (pa_cons (pv 3) pa_nil))) (pa_cons (pe_tup (pa_cons (pe_tup (pa_cons pe_str (pa_cons (pv 0) (pa_cons (pv 0) pa_nil)))) (pa_cons (pv 3) pa_nil))) pa_nil))))))
        (pss_cons (ps_set (i := 6) scAlw.nd rfl (.inl rfl) (pe_op op_cat (pv 6) (pe_lst (pa_cons (pe_tup (pa_cons (pe_tup (pa_cons pe_str (pa_cons (pv 0) (pa_cons (pv 0) pa_nil)))) (pa_cons (pv 4) pa_nil))) (pa_cons (pe_tup (pa_cons (pe_tup (pa_cons pe_str (pa_cons (pv 0) (pa_cons (pe_tup (pa_cons pe_str (pa_cons (pv 0) (pa_cons (pv 4) pa_nil)))) pa_nil)))) (pa_cons (pv 3) pa_nil))) (pa_cons (pe_tup (pa_cons (pe_tup (pa_cons pe_str (pa_cons (pv 0) (pa_cons (pv 1) pa_nil)))) (pa_cons (pe_tup (pa_cons pe_str (pa_cons (pv 1) (pa_cons (pv 0) pa_nil)))) pa_nil))) pa_nil))))))
        (pss_cons (ps_set (i := 6) scAlw.nd rfl (.inl rfl) (pe_op op_cat (pv 6) (pe_lst (pa_cons (pe_tup (pa_cons (pe_tup (pa_cons pe_str (pa_cons (pe_tup (pa_cons pe_str (pa_cons (pv 0) (pa_cons (pv 2) pa_nil)))) (pa_cons (pe_tup (pa_cons pe_str (pa_cons (pv 2) (pa_cons (pv 1) pa_nil)))) pa_nil)))) (pa_cons (pe_tup (pa_cons pe_str (pa_cons (pe_tup (pa_cons pe_str (pa_cons (pv 0) (pa_cons (pv 1) pa_nil)))) (pa_cons (pv 3) pa_nil)))) pa_nil))) pa_nil))))
        (pss_cons (ps_set (i := 7) scAlw.nd rfl (.inl rfl) (pe_tup (pa_cons pe_str (pa_cons (pv 0) (pa_cons (pe_tup (pa_cons pe_str (pa_cons pe_int pa_nil))) pa_nil)))))
        (pss_cons (ps_set (i := 6) scAlw.nd rfl (.inl rfl) (pe_op op_cat (pv 6) (pe_lst (pa_cons (pe_tup (pa_cons (pe_tup (pa_cons pe_str (pa_cons (pv 7) (pa_cons (pv 7) pa_nil)))) (pa_cons (pv 3) pa_nil))) (pa_cons (pe_tup (pa_cons (pe_tup (pa_cons pe_str (pa_cons (pe_tup (pa_cons pe_str (pa_cons pe_int pa_nil))) (pa_cons (pe_tup (pa_cons pe_str (pa_cons (pv 0) (pa_cons (pv 1) pa_nil)))) pa_nil)))) (pa_cons (pe_tup (pa_cons pe_str (pa_cons (pe_tup (pa_cons pe_str (pa_cons (pv 0) (pa_cons (pe_tup (pa_cons pe_str (pa_cons pe_int pa_nil))) pa_nil)))) (pa_cons (pe_tup (pa_cons pe_str (pa_cons (pv 1) (pa_cons (pe_tup (pa_cons pe_str (pa_cons pe_int pa_nil))) pa_nil)))) pa_nil)))) pa_nil))) pa_nil)))))
        (pss_cons (ps_set (i := 6) scAlw.nd rfl (.inl rfl) (pe_op op_cat (pv 6) (pe_lst (pa_cons (pe_tup (pa_cons (pe_tup (pa_cons pe_str (pa_cons (pe_tup (pa_cons pe_str (pa_cons pe_int pa_nil))) (pa_cons (pe_tup (pa_cons pe_str (pa_cons pe_int pa_nil))) pa_nil)))) (pa_cons (pv 4) pa_nil))) (pa_cons (pe_tup (pa_cons (pe_tup (pa_cons pe_str (pa_cons (pv 5) (pa_cons (pe_tup (pa_cons pe_str (pa_cons pe_int pa_nil))) pa_nil)))) (pa_cons (pe_tup (pa_cons pe_str (pa_cons pe_int pa_nil))) pa_nil))) pa_nil)))))
        (pss_cons (ps_expr (pe_bm PySem.F.plainAttrs_list PySem.F.slot_list_append PySem.F.type_list_append mt_append (pv 6) (pa_cons (pe_tup (pa_cons (pe_tup (pa_cons pe_str (pa_cons (pe_tup (pa_cons pe_str (pa_cons pe_int pa_nil))) (pa_cons (pe_tup (pa_cons pe_str (pa_cons pe_int pa_nil))) pa_nil)))) (pa_cons (pv 3) pa_nil))) pa_nil)))
        (pss_one (ps_ret (pe_op op_cat (pv 6) (pe_lst (pa_cons (pe_tup (pa_cons (pe_tup (pa_cons pe_str (pa_cons (pv 3) (pa_cons (pv 4) pa_nil)))) (pa_cons (pv 5) pa_nil))) (pa_cons (pe_tup (pa_cons (pe_tup (pa_cons pe_str (pa_cons (pe_tup (pa_cons pe_str (pa_cons (pv 0) (pa_cons (pv 1) pa_nil)))) (pa_cons (pv 2) pa_nil)))) (pa_cons (pe_tup (pa_cons pe_str (pa_cons (pv 2) (pa_cons (pe_tup (pa_cons pe_str (pa_cons (pv 1) (pa_cons (pv 0) pa_nil)))) pa_nil)))) pa_nil))) pa_nil))))))))))))))))), ?_⟩
    have E0 : Ev K H (start nAlw [v0, v1, v2]) [(2, t2), (1, t1), (0, t0)] := (Ev.add (Ev.add (Ev.add Ev.nil rfl h0) rfl h1) rfl h2)
    refine st_nums3 (K := K) fun n0 n1 n2 H1 s1 g0 g1 g2 => ?_
    have E1 := (Ev.add (i := 5) (Ev.add (i := 4) (Ev.add (i := 3) (Ev.set (i := 5) (x := some n2) (Ev.set (i := 4) (x := some n1) (Ev.set (i := 3) (x := some n0) (E0.tk (Tk.of s1)) (show 3 ∉ ([2, 1, 0] : List Nat) by decide)) (show 4 ∉ ([2, 1, 0] : List Nat) by decide)) (show 5 ∉ ([2, 1, 0] : List Nat) by decide)) rfl g0) rfl g1) rfl g2)
    have S1 := s1
    refine st_set (lx_list (K := K) (pxa_cons (px_mk (tx_op w_sum (tx_at 5 E1 rfl) (tx_op w_sum (tx_at 4 E1 rfl) (tx_at 3 E1 rfl))) (tx_op w_sum (tx_op w_sum (tx_at 3 E1 rfl) (tx_at 5 E1 rfl)) (tx_at 4 E1 rfl))) (pxa_cons (px_mk (tx_op w_times (tx_at 5 E1 rfl) (tx_at 2 E1 rfl)) (tx_at 2 E1 rfl)) pxa_nil)) (by show 2 ≤ 200; decide) fun l2 H2 s2 f2 P2 => ?_)
    have F2 := S1.free f2
    have E2 := Ev.set (i := 6) (x := some (.ref l2)) (E1.tk (Tk.of s2)) (show 6 ∉ ([5, 4, 3, 2, 1, 0] : List Nat) by decide)
    have S2 := S1.trans s2
    refine st_set (lx_plus (K := K) rfl P2 (pxa_cons (px_mk (tx_op w_times (tx_at 5 E2 rfl) (tx_at 0 E2 rfl)) (tx_op w_less (tx_at 2 E2 rfl) (tx_at 5 E2 rfl))) (pxa_cons (px_mk (tx_op w_sum (tx_at 5 E2 rfl) (tx_op w_less (tx_at 4 E2 rfl) (tx_at 5 E2 rfl))) (tx_at 4 E2 rfl)) pxa_nil)) (by show 2 ≤ 100; decide) (by show 2 ≤ 100; decide) fun l3 H3 s3 f3 P3 => ?_)
    have F3 := S2.free f3
    have E3 := Ev.set (i := 6) (x := some (.ref l3)) (E2.tk (Tk.of s3)) (show 6 ∉ ([5, 4, 3, 2, 1, 0] : List Nat) by decide)
    have S3 := S2.trans s3
    refine lx_app (K := K) (H := H) rfl S3 F3 P3 (px_mk (tx_op w_over (tx_at 5 E3 rfl) (tx_at 2 E3 rfl)) (tx_at 2 E3 rfl)) (by show 4 ≤ 100; decide) fun H4 S4 k4 P4 => ?_
    have E4 := E3.tk k4
    refine st_set (lx_plus (K := K) rfl P4 (pxa_cons (px_mk (tx_op w_times (tx_at 5 E4 rfl) (tx_at 4 E4 rfl)) (tx_op w_times (tx_at 4 E4 rfl) (tx_at 5 E4 rfl))) (pxa_cons (px_mk (tx_op w_below (tx_at 5 E4 rfl) (tx_at 2 E4 rfl)) (tx_at 2 E4 rfl)) (pxa_cons (px_mk (tx_op w_below (tx_at 5 E4 rfl) (tx_at 5 E4 rfl)) (tx_at 2 E4 rfl)) pxa_nil))) (by show 5 ≤ 100; decide) (by show 3 ≤ 100; decide) fun l5 H5 s5 f5 P5 => ?_)
    have F5 := S4.free f5
    have E5 := Ev.set (i := 6) (x := some (.ref l5)) (E4.tk (Tk.of s5)) (show 6 ∉ ([5, 4, 3, 2, 1, 0] : List Nat) by decide)
    have S5 := S4.trans s5
    refine st_set (lx_plus (K := K) rfl P5 (pxa_cons (px_mk (tx_op w_same (tx_at 5 E5 rfl) (tx_at 5 E5 rfl)) (tx_at 1 E5 rfl)) (pxa_cons (px_mk (tx_op w_same (tx_at 5 E5 rfl) (tx_op w_sum (tx_at 5 E5 rfl) (tx_at 1 E5 rfl))) (tx_at 2 E5 rfl)) (pxa_cons (px_mk (tx_op w_same (tx_at 5 E5 rfl) (tx_at 4 E5 rfl)) (tx_op w_same (tx_at 4 E5 rfl) (tx_at 5 E5 rfl))) pxa_nil))) (by show 8 ≤ 100; decide) (by show 3 ≤ 100; decide) fun l6 H6 s6 f6 P6 => ?_)
    have F6 := S5.free f6
    have E6 := Ev.set (i := 6) (x := some (.ref l6)) (E5.tk (Tk.of s6)) (show 6 ∉ ([5, 4, 3, 2, 1, 0] : List Nat) by decide)
    have S6 := S5.trans s6
    refine st_set (lx_plus (K := K) rfl P6 (pxa_cons (px_mk (tx_op w_same (tx_op w_sum (tx_at 5 E6 rfl) (tx_at 3 E6 rfl)) (tx_op w_sum (tx_at 3 E6 rfl) (tx_at 4 E6 rfl))) (tx_op w_same (tx_op w_less (tx_at 5 E6 rfl) (tx_at 4 E6 rfl)) (tx_at 2 E6 rfl))) pxa_nil) (by show 11 ≤ 100; decide) (by show 1 ≤ 100; decide) fun l7 H7 s7 f7 P7 => ?_)
    have F7 := S6.free f7
    have E7 := Ev.set (i := 6) (x := some (.ref l7)) (E6.tk (Tk.of s7)) (show 6 ∉ ([5, 4, 3, 2, 1, 0] : List Nat) by decide)
    have S7 := S6.trans s7
    refine st_set ((tx_op w_times (tx_at 5 E7 rfl) tx_num) H7 _ (Same.refl _) fun x8 H8 s8 g8 => ?_)
    have E8 := Ev.add (i := 7) (Ev.set (i := 7) (x := some x8) (E7.tk (Tk.of s8)) (show 7 ∉ ([5, 4, 3, 2, 1, 0] : List Nat) by decide)) rfl g8
    have S8 := S7.trans s8
    have P8 := P7.same s8
    refine st_set (lx_plus (K := K) rfl P8 (pxa_cons (px_mk (tx_op w_sum (tx_at 0 E8 rfl) (tx_at 0 E8 rfl)) (tx_at 3 E8 rfl)) (pxa_cons (px_mk (tx_op w_times tx_num (tx_op w_sum (tx_at 6 E8 rfl) (tx_at 5 E8 rfl))) (tx_op w_sum (tx_op w_times (tx_at 6 E8 rfl) tx_num) (tx_op w_times (tx_at 5 E8 rfl) tx_num))) pxa_nil)) (by show 12 ≤ 100; decide) (by show 2 ≤ 100; decide) fun l9 H9 s9 f9 P9 => ?_)
    have F9 := S8.free f9
    have E9 := Ev.set (i := 6) (x := some (.ref l9)) (E8.tk (Tk.of s9)) (show 6 ∉ ([7, 5, 4, 3, 2, 1, 0] : List Nat) by decide)
    have S9 := S8.trans s9
    refine st_set (lx_plus (K := K) rfl P9 (pxa_cons (px_mk (tx_op w_below tx_num tx_num) (tx_at 2 E9 rfl)) (pxa_cons (px_mk (tx_op w_over (tx_at 1 E9 rfl) tx_num) tx_num) pxa_nil)) (by show 14 ≤ 100; decide) (by show 2 ≤ 100; decide) fun l10 H10 s10 f10 P10 => ?_)
    have F10 := S9.free f10
    have E10 := Ev.set (i := 6) (x := some (.ref l10)) (E9.tk (Tk.of s10)) (show 6 ∉ ([7, 5, 4, 3, 2, 1, 0] : List Nat) by decide)
    have S10 := S9.trans s10
    refine lx_app (K := K) (H := H) rfl S10 F10 P10 (px_mk (tx_op w_times tx_num tx_num) (tx_at 3 E10 rfl)) (by show 16 ≤ 100; decide) fun H11 S11 k11 P11 => ?_
    have E11 := E10.tk k11
    exact ret_of (lx_plus (K := K) rfl P11 (pxa_cons (px_mk (tx_op w_less (tx_at 3 E11 rfl) (tx_at 2 E11 rfl)) (tx_at 1 E11 rfl)) (pxa_cons (px_mk (tx_op w_times (tx_op w_sum (tx_at 6 E11 rfl) (tx_at 5 E11 rfl)) (tx_at 4 E11 rfl)) (tx_op w_times (tx_at 4 E11 rfl) (tx_op w_sum (tx_at 5 E11 rfl) (tx_at 6 E11 rfl)))) pxa_nil)) (by show 17 ≤ 100; decide) (by show 2 ≤ 100; decide) fun l12 H12 s12 f12 P12 => q _ _ (S11.trans s12) (S11.free f12) P12)
abbrev sNev : Stmt := topS 35
abbrev pNev : List Str := ["_law_x", "_law_y"]
abbrev nNev : List Str := ["_law_x", "_law_y", "_law_unit", "_law_two", "_law_none", "_law_some"]
theorem scNev : FnScope nNev pNev (defScope sNev) := ⟨rfl, rfl, rfl, by decide +kernel, rfl, by decide +kernel, by decide +kernel⟩
def spNev (K : PySem.W.Frag) : Sp := fun vs H Q _ => ∃ (v0 v1 : V) (t0 t1 : Trm), vs = [v0, v1] ∧ TmAt K H v0 t0 ∧ TmAt K H v1 t1 ∧
  ∀ l H', Same H H' → H l = none → PLs K H' l (neverT t0 t1) → Q (.ref l) H'
theorem ok_nev {f : Addr} {fd : FuncData} {k : Nat} (F : Fun K "_law_never" "_law_never" sNev f fd) : FnOk P w K mg base CX0 (k + 1) f fd pNev (spNev K) := by
  refine F.ok scNev (fun vs H Q E h => ?_) (fun cdv A outer s H vs Q E hr h => ?_)
  · obtain ⟨v0, v1, t0, t1, rfl, _⟩ := h
    rfl
  · obtain ⟨v0, v1, t0, t1, rfl, h0, h1, q⟩ := h
    refine ⟨_, (pss_cons (ps_asg (pe_tup (pa_cons (pe_tup (pa_cons pe_str (pa_cons pe_int pa_nil))) (pa_cons (pe_tup (pa_cons pe_str (pa_cons pe_int pa_nil))) (pa_cons (pe_tup (pa_cons pe_str (pa_cons pe_int pa_nil))) pa_nil)))) (pg_tup rfl (pgs_cons (pg_name (i := 2) scNev.nd rfl (.inl rfl)) (pgs_cons (pg_name (i := 3) scNev.nd rfl (.inl rfl)) (pgs_cons (pg_name (i := 4) scNev.nd rfl (.inl rfl)) pgs_nil)))))
        (pss_cons (ps_set (i := 5) scNev.nd rfl (.inl rfl) (pe_lst (pa_cons (pe_tup (pa_cons (pe_tup (pa_cons pe_str (pa_cons (pv 0) (pa_cons (pv 2) pa_nil)))) (pa_cons (pv 0) pa_nil))) (pa_cons (pe_tup (pa_cons (pe_tup (pa_cons pe_str (pa_cons (pv 0) (pa_cons (pv 0) pa_nil)))) (pa_cons (pv 2) pa_nil))) (pa_cons (pe_tup (pa_cons (pe_tup (pa_cons pe_str (pa_cons (pv 0) (pa_cons (pv 1) pa_nil)))) (pa_cons (pe_tup (pa_cons pe_str (pa_cons (pv 1) (pa_cons (pv 0) pa_nil)))) pa_nil))) (pa_cons (pe_tup (pa_cons (pv 0) (pa_cons (pv 1) pa_nil))) pa_nil))))))
        (pss_cons (ps_set (i := 5) scNev.nd rfl (.inl rfl) (pe_op op_cat (pv 5) (pe_lst (pa_cons (pe_tup (pa_cons (pe_tup (pa_cons pe_str (pa_cons (pv 0) (pa_cons (pe_tup (pa_cons pe_str (pa_cons (pv 1) (pa_cons (pv 2) pa_nil)))) pa_nil)))) (pa_cons (pe_tup (pa_cons pe_str (pa_cons (pe_tup (pa_cons pe_str (pa_cons (pv 0) (pa_cons (pv 1) pa_nil)))) (pa_cons (pv 0) pa_nil)))) pa_nil))) (pa_cons (pe_tup (pa_cons (pe_tup (pa_cons pe_str (pa_cons (pv 4) (pa_cons (pv 0) pa_nil)))) (pa_cons (pv 4) pa_nil))) pa_nil)))))
        (pss_cons (ps_set (i := 5) scNev.nd rfl (.inl rfl) (pe_op op_cat (pv 5) (pe_lst (pa_cons (pe_tup (pa_cons (pe_tup (pa_cons pe_str (pa_cons (pe_tup (pa_cons pe_str (pa_cons (pv 0) (pa_cons (pv 3) pa_nil)))) (pa_cons (pe_tup (pa_cons pe_str (pa_cons (pv 1) (pa_cons (pv 3) pa_nil)))) pa_nil)))) (pa_cons (pe_tup (pa_cons pe_str (pa_cons (pv 0) (pa_cons (pv 1) pa_nil)))) pa_nil))) (pa_cons (pe_tup (pa_cons (pe_tup (pa_cons pe_str (pa_cons (pv 4) (pa_cons (pv 0) pa_nil)))) (pa_cons (pv 4) pa_nil))) pa_nil)))))
        (pss_one (ps_ret (pe_op op_cat (pv 5) (pe_lst (pa_cons (pe_tup (pa_cons (pe_tup (pa_cons pe_str (pa_cons (pe_tup (pa_cons pe_str (pa_cons (pv 0) (pa_cons (pv 3) pa_nil)))) (pa_cons (pv 1) pa_nil)))) (pa_cons (pe_tup (pa_cons pe_str (pa_cons (pv 0) (pa_cons (pe_tup (pa_cons pe_str (pa_cons (pv 1) (pa_cons (pv 3) pa_nil)))) pa_nil)))) pa_nil))) (pa_cons (pe_tup (pa_cons (pe_tup (pa_cons pe_str (pa_cons (pv 0) (pa_cons (pv 0) pa_nil)))) (pa_cons (pv 0) pa_nil))) pa_nil)))))))))), ?_⟩
    have E0 : Ev K H (start nNev [v0, v1]) [(1, t1), (0, t0)] := (Ev.add (Ev.add Ev.nil rfl h0) rfl h1)
    refine st_nums3 (K := K) fun n0 n1 n2 H1 s1 g0 g1 g2 => ?_
    have E1 := (Ev.add (i := 4) (Ev.add (i := 3) (Ev.add (i := 2) (Ev.set (i := 4) (x := some n2) (Ev.set (i := 3) (x := some n1) (Ev.set (i := 2) (x := some n0) (E0.tk (Tk.of s1)) (show 2 ∉ ([1, 0] : List Nat) by decide)) (show 3 ∉ ([1, 0] : List Nat) by decide)) (show 4 ∉ ([1, 0] : List Nat) by decide)) rfl g0) rfl g1) rfl g2)
    have S1 := s1
    refine st_set (lx_list (K := K) (pxa_cons (px_mk (tx_op w_over (tx_at 4 E1 rfl) (tx_at 2 E1 rfl)) (tx_at 4 E1 rfl)) (pxa_cons (px_mk (tx_op w_over (tx_at 4 E1 rfl) (tx_at 4 E1 rfl)) (tx_at 2 E1 rfl)) (pxa_cons (px_mk (tx_op w_below (tx_at 4 E1 rfl) (tx_at 3 E1 rfl)) (tx_op w_below (tx_at 3 E1 rfl) (tx_at 4 E1 rfl))) (pxa_cons (px_mk (tx_at 4 E1 rfl) (tx_at 3 E1 rfl)) pxa_nil)))) (by show 4 ≤ 200; decide) fun l2 H2 s2 f2 P2 => ?_)
    have F2 := S1.free f2
    have E2 := Ev.set (i := 5) (x := some (.ref l2)) (E1.tk (Tk.of s2)) (show 5 ∉ ([4, 3, 2, 1, 0] : List Nat) by decide)
    have S2 := S1.trans s2
    refine st_set (lx_plus (K := K) rfl P2 (pxa_cons (px_mk (tx_op w_times (tx_at 4 E2 rfl) (tx_op w_sum (tx_at 3 E2 rfl) (tx_at 2 E2 rfl))) (tx_op w_sum (tx_op w_times (tx_at 4 E2 rfl) (tx_at 3 E2 rfl)) (tx_at 4 E2 rfl))) (pxa_cons (px_mk (tx_op w_over (tx_at 0 E2 rfl) (tx_at 4 E2 rfl)) (tx_at 0 E2 rfl)) pxa_nil)) (by show 4 ≤ 100; decide) (by show 2 ≤ 100; decide) fun l3 H3 s3 f3 P3 => ?_)
    have F3 := S2.free f3
    have E3 := Ev.set (i := 5) (x := some (.ref l3)) (E2.tk (Tk.of s3)) (show 5 ∉ ([4, 3, 2, 1, 0] : List Nat) by decide)
    have S3 := S2.trans s3
    refine st_set (lx_plus (K := K) rfl P3 (pxa_cons (px_mk (tx_op w_same (tx_op w_times (tx_at 4 E3 rfl) (tx_at 1 E3 rfl)) (tx_op w_times (tx_at 3 E3 rfl) (tx_at 1 E3 rfl))) (tx_op w_same (tx_at 4 E3 rfl) (tx_at 3 E3 rfl))) (pxa_cons (px_mk (tx_op w_below (tx_at 0 E3 rfl) (tx_at 4 E3 rfl)) (tx_at 0 E3 rfl)) pxa_nil)) (by show 6 ≤ 100; decide) (by show 2 ≤ 100; decide) fun l4 H4 s4 f4 P4 => ?_)
    have F4 := S3.free f4
    have E4 := Ev.set (i := 5) (x := some (.ref l4)) (E3.tk (Tk.of s4)) (show 5 ∉ ([4, 3, 2, 1, 0] : List Nat) by decide)
    have S4 := S3.trans s4
    exact ret_of (lx_plus (K := K) rfl P4 (pxa_cons (px_mk (tx_op w_times (tx_op w_times (tx_at 4 E4 rfl) (tx_at 1 E4 rfl)) (tx_at 3 E4 rfl)) (tx_op w_times (tx_at 4 E4 rfl) (tx_op w_times (tx_at 3 E4 rfl) (tx_at 1 E4 rfl)))) (pxa_cons (px_mk (tx_op w_times (tx_at 4 E4 rfl) (tx_at 4 E4 rfl)) (tx_at 4 E4 rfl)) pxa_nil)) (by show 8 ≤ 100; decide) (by show 2 ≤ 100; decide) fun l5 H5 s5 f5 P5 => q _ _ (S4.trans s5) (S4.free f5) P5)
def moreT (t0 t1 t2 : Trm) : List (Trm × Trm) := [((.op "over" t0 (.num 1)), t0), ((.op "below" (.num 0) t0), (.op "less" (.num 1) (.op "same" t0 (.num 0)))), ((.op "over" t0 t0), (.num 1)), ((.op "times" (.op "times" t0 t1) t2), (.op "times" t0 (.op "times" t1 t2))), (t0, t1), ((.op "less" t0 t1), (.op "less" t1 t0)), ((.op "same" t0 t1), (.op "same" t0 t2)), ((.op "sum" t0 t1), (.op "sum" t0 t2)), ((.op "below" t0 t1), (.op "below" t1 t0)), ((.op "same" (.op "same" t0 t1) (.num 1)), (.op "same" t0 t1)), ((.op "times" t0 (.op "sum" t1 t2)), (.op "times" t0 t1)), ((.op "over" (.op "sum" t0 t1) t1), (.op "over" (.op "sum" t1 t0) t1)), ((.op "same" (.num 0) (.op "sum" t0 t0)), (.op "same" t0 t1))]
abbrev sMor : Stmt := topS 36
abbrev pMor : List Str := ["_law_t", "_law_u", "_law_v"]
abbrev nMor : List Str := ["_law_t", "_law_u", "_law_v", "_law_none", "_law_unit", "_law_some"]
theorem scMor : FnScope nMor pMor (defScope sMor) := ⟨rfl, rfl, rfl, by decide +kernel, rfl, by decide +kernel, by decide +kernel⟩
def spMor (K : PySem.W.Frag) : Sp := fun vs H Q _ => ∃ (v0 v1 v2 : V) (t0 t1 t2 : Trm), vs = [v0, v1, v2] ∧ TmAt K H v0 t0 ∧ TmAt K H v1 t1 ∧ TmAt K H v2 t2 ∧
  ∀ l H', Same H H' → H l = none → PLs K H' l (moreT t0 t1 t2) → Q (.ref l) H'
theorem ok_mor {f : Addr} {fd : FuncData} {k : Nat} (F : Fun K "_law_more" "_law_more" sMor f fd) : FnOk P w K mg base CX0 (k + 1) f fd pMor (spMor K) := by
  refine F.ok scMor (fun vs H Q E h => ?_) (fun cdv A outer s H vs Q E hr h => ?_)
  · obtain ⟨v0, v1, v2, t0, t1, t2, rfl, _⟩ := h
    rfl
  · obtain ⟨v0, v1, v2, t0, t1, t2, rfl, h0, h1, h2, q⟩ := h
    refine ⟨_, (pss_cons (ps_asg (pe_tup (pa_cons (pe_tup (pa_cons pe_str (pa_cons pe_int pa_nil))) (pa_cons (pe_tup (pa_cons pe_str (pa_cons pe_int pa_nil))) pa_nil))) (pg_tup rfl (pgs_cons (pg_name (i := 3) scMor.nd rfl (.inl rfl)) (pgs_cons (pg_name (i := 4) scMor.nd rfl (.inl rfl)) pgs_nil))))
        (pss_cons (ps_set (i := 5) scMor.nd rfl (.inl rfl) (pe_lst (pa_cons (pe_tup (pa_cons (pe_tup (pa_cons pe_str (pa_cons (pv 0) (pa_cons (pv 4) pa_nil)))) (pa_cons (pv 0) pa_nil))) (pa_cons (pe_tup (pa_cons (pe_tup (pa_cons pe_str (pa_cons (pv 3) (pa_cons (pv 0) pa_nil)))) (pa_cons (pe_tup (pa_cons pe_str (pa_cons (pv 4) (pa_cons (pe_tup (pa_cons pe_str (pa_cons (pv 0) (pa_cons (pv 3) pa_nil)))) pa_nil)))) pa_nil))) (pa_cons (pe_tup (pa_cons (pe_tup (pa_cons pe_str (pa_cons (pv 0) (pa_cons (pv 0) pa_nil)))) (pa_cons (pv 4) pa_nil))) pa_nil)))))
        (pss_cons (ps_set (i := 5) scMor.nd rfl (.inl rfl) (pe_op op_cat (pv 5) (pe_lst (pa_cons (pe_tup (pa_cons (pe_tup (pa_cons pe_str (pa_cons (pe_tup (pa_cons pe_str (pa_cons (pv 0) (pa_cons (pv 1) pa_nil)))) (pa_cons (pv 2) pa_nil)))) (pa_cons (pe_tup (pa_cons pe_str (pa_cons (pv 0) (pa_cons (pe_tup (pa_cons pe_str (pa_cons (pv 1) (pa_cons (pv 2) pa_nil)))) pa_nil)))) pa_nil))) (pa_cons (pe_tup (pa_cons (pv 0) (pa_cons (pv 1) pa_nil))) pa_nil)))))
        (pss_cons (ps_set (i := 5) scMor.nd rfl (.inl rfl) (pe_op op_cat (pv 5) (pe_lst (pa_cons (pe_tup (pa_cons (pe_tup (pa_cons pe_str (pa_cons (pv 0) (pa_cons (pv 1) pa_nil)))) (pa_cons (pe_tup (pa_cons pe_str (pa_cons (pv 1) (pa_cons (pv 0) pa_nil)))) pa_nil))) (pa_cons (pe_tup (pa_cons (pe_tup (pa_cons pe_str (pa_cons (pv 0) (pa_cons (pv 1) pa_nil)))) (pa_cons (pe_tup (pa_cons pe_str (pa_cons (pv 0) (pa_cons (pv 2) pa_nil)))) pa_nil))) (pa_cons (pe_tup (pa_cons (pe_tup (pa_cons pe_str (pa_cons (pv 0) (pa_cons (pv 1) pa_nil)))) (pa_cons (pe_tup (pa_cons pe_str (pa_cons (pv 0) (pa_cons (pv 2) pa_nil)))) pa_nil))) pa_nil))))))
        (pss_cons (ps_expr (pe_bm PySem.F.plainAttrs_list PySem.F.slot_list_append PySem.F.type_list_append mt_append (pv 5) (pa_cons (pe_tup (pa_cons (pe_tup (pa_cons pe_str (pa_cons (pv 0) (pa_cons (pv 1) pa_nil)))) (pa_cons (pe_tup (pa_cons pe_str (pa_cons (pv 1) (pa_cons (pv 0) pa_nil)))) pa_nil))) pa_nil)))
        (pss_cons (ps_set (i := 5) scMor.nd rfl (.inl rfl) (pe_op op_cat (pv 5) (pe_lst (pa_cons (pe_tup (pa_cons (pe_tup (pa_cons pe_str (pa_cons (pe_tup (pa_cons pe_str (pa_cons (pv 0) (pa_cons (pv 1) pa_nil)))) (pa_cons (pv 4) pa_nil)))) (pa_cons (pe_tup (pa_cons pe_str (pa_cons (pv 0) (pa_cons (pv 1) pa_nil)))) pa_nil))) (pa_cons (pe_tup (pa_cons (pe_tup (pa_cons pe_str (pa_cons (pv 0) (pa_cons (pe_tup (pa_cons pe_str (pa_cons (pv 1) (pa_cons (pv 2) pa_nil)))) pa_nil)))) (pa_cons (pe_tup (pa_cons pe_str (pa_cons (pv 0) (pa_cons (pv 1) pa_nil)))) pa_nil))) pa_nil)))))
        (pss_cons (ps_expr (pe_bm PySem.F.plainAttrs_list PySem.F.slot_list_append PySem.F.type_list_append mt_append (pv 5) (pa_cons (pe_tup (pa_cons (pe_tup (pa_cons pe_str (pa_cons (pe_tup (pa_cons pe_str (pa_cons (pv 0) (pa_cons (pv 1) pa_nil)))) (pa_cons (pv 1) pa_nil)))) (pa_cons (pe_tup (pa_cons pe_str (pa_cons (pe_tup (pa_cons pe_str (pa_cons (pv 1) (pa_cons (pv 0) pa_nil)))) (pa_cons (pv 1) pa_nil)))) pa_nil))) pa_nil)))
        (pss_one (ps_ret (pe_op op_cat (pv 5) (pe_lst (pa_cons (pe_tup (pa_cons (pe_tup (pa_cons pe_str (pa_cons (pv 3) (pa_cons (pe_tup (pa_cons pe_str (pa_cons (pv 0) (pa_cons (pv 0) pa_nil)))) pa_nil)))) (pa_cons (pe_tup (pa_cons pe_str (pa_cons (pv 0) (pa_cons (pv 1) pa_nil)))) pa_nil))) pa_nil)))))))))))), ?_⟩
    have E0 : Ev K H (start nMor [v0, v1, v2]) [(2, t2), (1, t1), (0, t0)] := (Ev.add (Ev.add (Ev.add Ev.nil rfl h0) rfl h1) rfl h2)
    refine st_nums2 (K := K) fun n0 n1 H1 s1 g0 g1 => ?_
    have E1 := (Ev.add (i := 4) (Ev.add (i := 3) (Ev.set (i := 4) (x := some n1) (Ev.set (i := 3) (x := some n0) (E0.tk (Tk.of s1)) (show 3 ∉ ([2, 1, 0] : List Nat) by decide)) (show 4 ∉ ([2, 1, 0] : List Nat) by decide)) rfl g0) rfl g1)
    have S1 := s1
    refine st_set (lx_list (K := K) (pxa_cons (px_mk (tx_op w_over (tx_at 4 E1 rfl) (tx_at 0 E1 rfl)) (tx_at 4 E1 rfl)) (pxa_cons (px_mk (tx_op w_below (tx_at 1 E1 rfl) (tx_at 4 E1 rfl)) (tx_op w_less (tx_at 0 E1 rfl) (tx_op w_same (tx_at 4 E1 rfl) (tx_at 1 E1 rfl)))) (pxa_cons (px_mk (tx_op w_over (tx_at 4 E1 rfl) (tx_at 4 E1 rfl)) (tx_at 0 E1 rfl)) pxa_nil))) (by show 3 ≤ 200; decide) fun l2 H2 s2 f2 P2 => ?_)
    have F2 := S1.free f2
    have E2 := Ev.set (i := 5) (x := some (.ref l2)) (E1.tk (Tk.of s2)) (show 5 ∉ ([4, 3, 2, 1, 0] : List Nat) by decide)
    have S2 := S1.trans s2
    refine st_set (lx_plus (K := K) rfl P2 (pxa_cons (px_mk (tx_op w_times (tx_op w_times (tx_at 4 E2 rfl) (tx_at 3 E2 rfl)) (tx_at 2 E2 rfl)) (tx_op w_times (tx_at 4 E2 rfl) (tx_op w_times (tx_at 3 E2 rfl) (tx_at 2 E2 rfl)))) (pxa_cons (px_mk (tx_at 4 E2 rfl) (tx_at 3 E2 rfl)) pxa_nil)) (by show 3 ≤ 100; decide) (by show 2 ≤ 100; decide) fun l3 H3 s3 f3 P3 => ?_)
    have F3 := S2.free f3
    have E3 := Ev.set (i := 5) (x := some (.ref l3)) (E2.tk (Tk.of s3)) (show 5 ∉ ([4, 3, 2, 1, 0] : List Nat) by decide)
    have S3 := S2.trans s3
    refine st_set (lx_plus (K := K) rfl P3 (pxa_cons (px_mk (tx_op w_less (tx_at 4 E3 rfl) (tx_at 3 E3 rfl)) (tx_op w_less (tx_at 3 E3 rfl) (tx_at 4 E3 rfl))) (pxa_cons (px_mk (tx_op w_same (tx_at 4 E3 rfl) (tx_at 3 E3 rfl)) (tx_op w_same (tx_at 4 E3 rfl) (tx_at 2 E3 rfl))) (pxa_cons (px_mk (tx_op w_sum (tx_at 4 E3 rfl) (tx_at 3 E3 rfl)) (tx_op w_sum (tx_at 4 E3 rfl) (tx_at 2 E3 rfl))) pxa_nil))) (by show 5 ≤ 100; decide) (by show 3 ≤ 100; decide) fun l4 H4 s4 f4 P4 => ?_)
    have F4 := S3.free f4
    have E4 := Ev.set (i := 5) (x := some (.ref l4)) (E3.tk (Tk.of s4)) (show 5 ∉ ([4, 3, 2, 1, 0] : List Nat) by decide)
    have S4 := S3.trans s4
    refine lx_app (K := K) (H := H) rfl S4 F4 P4 (px_mk (tx_op w_below (tx_at 4 E4 rfl) (tx_at 3 E4 rfl)) (tx_op w_below (tx_at 3 E4 rfl) (tx_at 4 E4 rfl))) (by show 8 ≤ 100; decide) fun H5 S5 k5 P5 => ?_
    have E5 := E4.tk k5
    refine st_set (lx_plus (K := K) rfl P5 (pxa_cons (px_mk (tx_op w_same (tx_op w_same (tx_at 4 E5 rfl) (tx_at 3 E5 rfl)) (tx_at 0 E5 rfl)) (tx_op w_same (tx_at 4 E5 rfl) (tx_at 3 E5 rfl))) (pxa_cons (px_mk (tx_op w_times (tx_at 4 E5 rfl) (tx_op w_sum (tx_at 3 E5 rfl) (tx_at 2 E5 rfl))) (tx_op w_times (tx_at 4 E5 rfl) (tx_at 3 E5 rfl))) pxa_nil)) (by show 9 ≤ 100; decide) (by show 2 ≤ 100; decide) fun l6 H6 s6 f6 P6 => ?_)
    have F6 := S5.free f6
    have E6 := Ev.set (i := 5) (x := some (.ref l6)) (E5.tk (Tk.of s6)) (show 5 ∉ ([4, 3, 2, 1, 0] : List Nat) by decide)
    have S6 := S5.trans s6
    refine lx_app (K := K) (H := H) rfl S6 F6 P6 (px_mk (tx_op w_over (tx_op w_sum (tx_at 4 E6 rfl) (tx_at 3 E6 rfl)) (tx_at 3 E6 rfl)) (tx_op w_over (tx_op w_sum (tx_at 3 E6 rfl) (tx_at 4 E6 rfl)) (tx_at 3 E6 rfl))) (by show 11 ≤ 100; decide) fun H7 S7 k7 P7 => ?_
    have E7 := E6.tk k7
    exact ret_of (lx_plus (K := K) rfl P7 (pxa_cons (px_mk (tx_op w_same (tx_at 1 E7 rfl) (tx_op w_sum (tx_at 4 E7 rfl) (tx_at 4 E7 rfl))) (tx_op w_same (tx_at 4 E7 rfl) (tx_at 3 E7 rfl))) pxa_nil) (by show 12 ≤ 100; decide) (by show 1 ≤ 100; decide) fun l8 H8 s8 f8 P8 => q _ _ (S7.trans s8) (S7.free f8) P8)
end
end K15
set_option Elab.async false
set_option linter.all false
set_option maxRecDepth 100000
set_option maxHeartbeats 4000000
/-! ## the plain store: values as data, mutable objects by numbers; what is shown of it holds over the hand layer -/
namespace PL
open PySem PySem.Spec PyProof.Rows L2 LamX
inductive W where
  | non | bl (b : Bool) | int (i : Int) | str (x : Str) | tup (xs : List W) | ref (a : Nat) | ty (n : String)
inductive O where
  | lst (xs : List W) | dct (kvs : List (Key × W)) | dtt (kvs : List (List Key × W)) | ins (C : Addr) (fs : List (Str × W))
abbrev Sto := List O
abbrev Lo := List (Option W)
/-! ### the relation -/
mutual
/-- the value is w -/
inductive RW (K : PySem.W.Frag) (H : Hp) (ρ : List Addr) : W → V → Prop
  | non : RW K H ρ .non .non
  | bl (b : Bool) : RW K H ρ (.bl b) (.bl b)
  | int (i : Int) : RW K H ρ (.int i) (.int i)
  | str (x : Str) : RW K H ρ (.str x) (.str x)
  | tup {a : Addr} {vs : List V} {ws : List W} (h : SqT K H a vs) (r : RWs K H ρ ws vs) : RW K H ρ (.tup ws) (.ref a)
  | ref {i : Nat} {a : Addr} (h : ρ[i]? = some a) : RW K H ρ (.ref i) (.ref a)
  | ty (n : String) : RW K H ρ (.ty n) (.ty n)
inductive RWs (K : PySem.W.Frag) (H : Hp) (ρ : List Addr) : List W → List V → Prop
  | nil : RWs K H ρ [] []
  | cons {w : W} {v : V} {ws : List W} {vs : List V} (h : RW K H ρ w v) (r : RWs K H ρ ws vs) : RWs K H ρ (w :: ws) (v :: vs)
end
/-- the object at a is o -/
def RO (K : PySem.W.Frag) (H : Hp) (ρ : List Addr) (a : Addr) : O → Prop
  | .lst ws => ∃ vs, H a = some (.lst vs) ∧ RWs K H ρ ws vs
  | .dct kvs => ∃ kus, H a = some (.dK kus) ∧ Paired (fun (p : Key × W) (q : Key × V) => p.1 = q.1 ∧ RW K H ρ p.2 q.2) kvs kus
  | .dtt kvs => ∃ kus, H a = some (.dT kus) ∧ Paired (fun (p : List Key × W) (q : List Key × V) => p.1 = q.1 ∧ RW K H ρ p.2 q.2) kvs kus
  | .ins C fs => ∃ dx gs, H a = some (.ins C dx gs) ∧ Paired (fun (p : Str × W) (q : Str × V) => p.1 = q.1 ∧ RW K H ρ p.2 q.2) fs gs
structure Rep (K : PySem.W.Frag) (T : List (Addr × Str)) (H : Hp) (ρ : List Addr) (S : Sto) : Prop where
  len : ρ.length = S.length
  nd : ρ.Nodup
  tabs : Tabs T H
  ob : ∀ (i : Nat) (o : O) (a : Addr), S[i]? = some o → ρ[i]? = some a → RO K H ρ a o
/-- locals: what is known of them -/
structure RSt (K : PySem.W.Frag) (H : Hp) (ρ : List Addr) (τ : Lo) (σ : L2.St) : Prop where
  len : τ.length = σ.length
  at_ : ∀ (i : Nat) (w : W), τ[i]? = some (some w) → ∃ v, σ[i]? = some (some v) ∧ RW K H ρ w v
/-- nothing but a table stands there -/
def NT (H : Hp) (a : Addr) : Prop := ∀ o, H a = some o → ∃ ps, o = .tbl ps
theorem NT.of {H : Hp} {a : Addr} (h : H a = none) : NT H a := fun o e => by rw [h] at e; cases e
/-- on the way: old numbers stay, what isn't numbered stays -/
structure Stp (H : Hp) (ρ : List Addr) (H' : Hp) (ρ' : List Addr) : Prop where
  pre : ∃ l, ρ' = ρ ++ l
  frm : ∀ a o, a ∉ ρ → H a = some o → (∀ ps, o ≠ .tbl ps) → H' a = some o
  new : ∀ a ∈ ρ', a ∈ ρ ∨ NT H a
theorem Stp.refl (H : Hp) (ρ : List Addr) : Stp H ρ H ρ := ⟨⟨[], by simp⟩, fun _ _ _ h _ => h, fun _ h => .inl h⟩
theorem Stp.sub {H H' : Hp} {ρ ρ' : List Addr} (s : Stp H ρ H' ρ') {a : Addr} (h : a ∈ ρ) : a ∈ ρ' := by
  obtain ⟨l, e⟩ := s.pre
  rw [e]
  exact List.mem_append_left _ h
theorem Stp.out {H H' : Hp} {ρ ρ' : List Addr} (s : Stp H ρ H' ρ') {a : Addr} {o : HO} (h : a ∉ ρ) (e : H a = some o) (nt : ∀ ps, o ≠ .tbl ps) : a ∉ ρ' := fun z => (s.new a z).elim h fun q => by
  obtain ⟨ps, e'⟩ := q o e
  exact nt ps e'
theorem Stp.nt {H H' : Hp} {ρ ρ' : List Addr} (s : Stp H ρ H' ρ') {a : Addr} (h : a ∉ ρ) (n : NT H' a) : NT H a := fun o e => Classical.byContradiction fun q => by
  obtain ⟨ps, e'⟩ := n o (s.frm a o h e fun ps z => q ⟨ps, z⟩)
  exact q ⟨ps, e'⟩
theorem Stp.trans {H H1 H2 : Hp} {ρ ρ1 ρ2 : List Addr} (s : Stp H ρ H1 ρ1) (t : Stp H1 ρ1 H2 ρ2) : Stp H ρ H2 ρ2 := by
  refine ⟨?_, fun a o n h nt => ?_, fun a h => ?_⟩
  · obtain ⟨l, e⟩ := s.pre
    obtain ⟨m, e'⟩ := t.pre
    exact ⟨l ++ m, by rw [e', e, List.append_assoc]⟩
  · exact t.frm a o (s.out n h nt) (s.frm a o n h nt) nt
  · rcases t.new a h with z | z
    · exact s.new a z
    · by_cases n : a ∈ ρ
      · exact .inl n
      · exact .inr (s.nt n z)
theorem Stp.get {H H' : Hp} {ρ ρ' : List Addr} (s : Stp H ρ H' ρ') {i : Nat} {a : Addr} (h : ρ[i]? = some a) : ρ'[i]? = some a := by
  obtain ⟨l, e⟩ := s.pre
  rw [e, List.getElem?_append_left (List.getElem?_eq_some_iff.mp h).1]
  exact h
section
variable {K : PySem.W.Frag} {T : List (Addr × Str)} {H H' : Hp} {ρ ρ' : List Addr} {S S' : Sto}
theorem RO.mutK {a : Addr} {o : O} (h : RO K H ρ a o) : ∃ u, H a = some u ∧ Mut (some u) ∧ (∀ ps, u ≠ .tbl ps) := by
  cases o with
  | lst ws => obtain ⟨_, h, _⟩ := h; exact ⟨_, h, True.intro, fun _ z => nomatch z⟩
  | dct kvs => obtain ⟨_, h, _⟩ := h; exact ⟨_, h, True.intro, fun _ z => nomatch z⟩
  | dtt kvs => obtain ⟨_, h, _⟩ := h; exact ⟨_, h, True.intro, fun _ z => nomatch z⟩
  | ins C fs => obtain ⟨_, _, h, _⟩ := h; exact ⟨_, h, True.intro, fun _ z => nomatch z⟩
theorem RO.notExt {a : Addr} {o : O} (h : RO K H ρ a o) : (∀ φ, H a ≠ some (.ext φ)) ∧ (∀ o u, H a ≠ some (.frz o u)) ∧ (∀ x, H a ≠ some (.own x)) := by
  cases o with
  | lst ws => obtain ⟨_, h, _⟩ := h; rw [h]; exact ⟨(fun _ z => nomatch z), (fun _ _ z => nomatch z), (fun _ z => nomatch z)⟩
  | dct kvs => obtain ⟨_, h, _⟩ := h; rw [h]; exact ⟨(fun _ z => nomatch z), (fun _ _ z => nomatch z), (fun _ z => nomatch z)⟩
  | dtt kvs => obtain ⟨_, h, _⟩ := h; rw [h]; exact ⟨(fun _ z => nomatch z), (fun _ _ z => nomatch z), (fun _ z => nomatch z)⟩
  | ins C fs => obtain ⟨_, _, h, _⟩ := h; rw [h]; exact ⟨(fun _ z => nomatch z), (fun _ _ z => nomatch z), (fun _ z => nomatch z)⟩
theorem Rep.of_mem (r : Rep K T H ρ S) {a : Addr} (h : a ∈ ρ) : ∃ (i : Nat) (o : O), ρ[i]? = some a ∧ S[i]? = some o ∧ RO K H ρ a o := by
  obtain ⟨i, hi, e⟩ := List.getElem_of_mem h
  have e' : ρ[i]? = some a := by rw [List.getElem?_eq_getElem hi, e]
  have lt : i < S.length := by rw [← r.len]; exact hi
  exact ⟨i, S[i], e', List.getElem?_eq_getElem lt, r.ob i _ a (List.getElem?_eq_getElem lt) e'⟩
theorem Rep.at_ (r : Rep K T H ρ S) {i : Nat} {o : O} (h : S[i]? = some o) : ∃ a, ρ[i]? = some a ∧ RO K H ρ a o := by
  have lt := (List.getElem?_eq_some_iff.mp h).1
  have lt' : i < ρ.length := by rw [r.len]; exact lt
  exact ⟨ρ[i], List.getElem?_eq_getElem lt', r.ob i o _ h (List.getElem?_eq_getElem lt')⟩
theorem Rep.frz_out (r : Rep K T H ρ S) {a : Addr} {o : Obj} {u : HO} (h : H a = some (.frz o u)) : a ∉ ρ := fun z => by
  obtain ⟨_, _, _, _, q⟩ := r.of_mem z
  exact q.notExt.2.1 _ _ h
theorem Rep.tup_out (r : Rep K T H ρ S) {a : Addr} {xs : List V} (h : H a = some (.tup xs)) : a ∉ ρ := fun z => by
  obtain ⟨_, _, _, _, q⟩ := r.of_mem z
  obtain ⟨u, e, m, _⟩ := q.mutK
  rw [h] at e
  cases e
  exact m
theorem sqt_stp (r : Rep K T H ρ S) (s : Stp H ρ H' ρ') {a : Addr} {vs : List V} (h : SqT K H a vs) : SqT K H' a vs := by
  rcases h with (h | ⟨o, h⟩) | h
  · exact .inl (.inl (s.frm a _ (r.tup_out h) h (fun _ z => nomatch z)))
  · exact .inl (.inr ⟨o, s.frm a _ (r.frz_out h) h (fun _ z => nomatch z)⟩)
  · exact .inr h
mutual
theorem RW.stp (r : Rep K T H ρ S) (s : Stp H ρ H' ρ') : ∀ {w : W} {v : V}, RW K H ρ w v → RW K H' ρ' w v
  | _, _, .non => .non
  | _, _, .bl b => .bl b
  | _, _, .int i => .int i
  | _, _, .str x => .str x
  | _, _, .tup h q => .tup (sqt_stp r s h) (RWs.stp r s q)
  | _, _, .ref h => .ref (s.get h)
  | _, _, .ty n => .ty n
theorem RWs.stp (r : Rep K T H ρ S) (s : Stp H ρ H' ρ') : ∀ {ws : List W} {vs : List V}, RWs K H ρ ws vs → RWs K H' ρ' ws vs
  | _, _, .nil => .nil
  | _, _, .cons h q => .cons (RW.stp r s h) (RWs.stp r s q)
end
theorem RSt.stp (r : Rep K T H ρ S) (s : Stp H ρ H' ρ') {τ : Lo} {σ : L2.St} (h : RSt K H ρ τ σ) : RSt K H' ρ' τ σ := ⟨h.len, fun i w e => by
  obtain ⟨v, a, b⟩ := h.at_ i w e
  exact ⟨v, a, b.stp r s⟩⟩
theorem RSt.set {τ : Lo} {σ : L2.St} {w : W} {v : V} (h : RSt K H ρ τ σ) (hw : RW K H ρ w v) (i : Nat) : RSt K H ρ (τ.set i (some w)) (σ.set i (some v)) := ⟨by simp [h.len], fun j u e => by
  by_cases c : i = j
  · subst c
    by_cases lt : i < τ.length
    · rw [List.getElem?_set_self lt] at e
      cases e
      exact ⟨v, by rw [List.getElem?_set_self (by rw [← h.len]; exact lt)], hw⟩
    · rw [List.getElem?_eq_none (by simpa using Nat.le_of_not_lt lt)] at e
      cases e
  · rw [List.getElem?_set_ne c] at e
    rw [List.getElem?_set_ne c]
    exact h.at_ j u e⟩
theorem RWs.length : ∀ {ws : List W} {vs : List V}, RWs K H ρ ws vs → ws.length = vs.length
  | _, _, .nil => rfl
  | _, _, .cons _ r => by simp [RWs.length r]
theorem RWs.get : ∀ {ws : List W} {vs : List V}, RWs K H ρ ws vs → ∀ {i : Nat} {w : W}, ws[i]? = some w → ∃ v, vs[i]? = some v ∧ RW K H ρ w v
  | _, _, .nil, i, w, e => by simp at e
  | _, _, .cons h r, 0, w, e => by
    cases (show some _ = some w from e)
    exact ⟨_, rfl, h⟩
  | _, _, .cons h r, i + 1, w, e => RWs.get r (i := i) (by simpa using e)
theorem RWs.app : ∀ {ws us : List W} {vs xs : List V}, RWs K H ρ ws vs → RWs K H ρ us xs → RWs K H ρ (ws ++ us) (vs ++ xs)
  | _, _, _, _, .nil, k => k
  | _, _, _, _, .cons h r, k => .cons h (RWs.app r k)
theorem RWs.take : ∀ {ws : List W} {vs : List V} (n : Nat), RWs K H ρ ws vs → RWs K H ρ (ws.take n) (vs.take n)
  | _, _, 0, _ => .nil
  | _, _, _ + 1, .nil => .nil
  | _, _, n + 1, .cons h r => .cons h (RWs.take n r)
theorem RWs.drop : ∀ {ws : List W} {vs : List V} (n : Nat), RWs K H ρ ws vs → RWs K H ρ (ws.drop n) (vs.drop n)
  | _, _, 0, r => r
  | _, _, _ + 1, .nil => .nil
  | _, _, n + 1, .cons h r => RWs.drop n r
theorem RWs.set {w : W} {v : V} (hw : RW K H ρ w v) : ∀ {ws : List W} {vs : List V} (n : Nat), RWs K H ρ ws vs → RWs K H ρ (ws.set n w) (vs.set n v)
  | _, _, _, .nil => .nil
  | _, _, 0, .cons h r => .cons hw r
  | _, _, n + 1, .cons h r => .cons h (RWs.set hw n r)
theorem RWs.rev : ∀ {ws : List W} {vs : List V}, RWs K H ρ ws vs → RWs K H ρ ws.reverse vs.reverse
  | _, _, .nil => .nil
  | _, _, .cons h r => by
    rw [List.reverse_cons, List.reverse_cons]
    exact (RWs.rev r).app (.cons h .nil)
theorem RWs.ofPaired : ∀ {ws : List W} {vs : List V}, Paired (RW K H ρ) ws vs → RWs K H ρ ws vs
  | _, _, .nil => .nil
  | _, _, .cons h r => .cons h (RWs.ofPaired r)
theorem RWs.paired : ∀ {ws : List W} {vs : List V}, RWs K H ρ ws vs → Paired (RW K H ρ) ws vs
  | _, _, .nil => .nil
  | _, _, .cons h r => .cons h (RWs.paired r)
theorem RWs.ints : ∀ {is : List Int} {vs : List V}, RWs K H ρ (is.map W.int) vs → vs = is.map V.int
  | [], _, h => by cases h; rfl
  | i :: r, _, h => by
    cases h with
    | cons a b =>
      cases a
      rw [RWs.ints b]
      rfl
theorem RWs.strs : ∀ {is : List Str} {vs : List V}, RWs K H ρ (is.map W.str) vs → vs = is.map V.str
  | [], _, h => by cases h; rfl
  | i :: r, _, h => by
    cases h with
    | cons a b =>
      cases a
      rw [RWs.strs b]
      rfl
theorem RWs.bls : ∀ {is : List Bool} {vs : List V}, RWs K H ρ (is.map W.bl) vs → vs = is.map V.bl
  | [], _, h => by cases h; rfl
  | i :: r, _, h => by
    cases h with
    | cons a b =>
      cases a
      rw [RWs.bls b]
      rfl
theorem RWs.toInts : ∀ (is : List Int), RWs K H ρ (is.map W.int) (is.map V.int)
  | [] => .nil
  | i :: r => .cons (.int i) (RWs.toInts r)
theorem RWs.toStrs : ∀ (is : List Str), RWs K H ρ (is.map W.str) (is.map V.str)
  | [] => .nil
  | i :: r => .cons (.str i) (RWs.toStrs r)
theorem Paired.impS {α β : Type} {F G : α → β → Prop} (h : ∀ a b, F a b → G a b) : ∀ {l : List α} {m : List β}, Paired F l m → Paired G l m
  | _, _, .nil => .nil
  | _, _, .cons a b => .cons (h _ _ a) (Paired.impS h b)
theorem Paired.appS {α β : Type} {F : α → β → Prop} : ∀ {l l' : List α} {m m' : List β}, Paired F l m → Paired F l' m' → Paired F (l ++ l') (m ++ m')
  | _, _, _, _, .nil, k => k
  | _, _, _, _, .cons a b, k => .cons a (Paired.appS b k)
/-- an object whose own cell is not touched -/
theorem RO.stp (r : Rep K T H ρ S) (s : Stp H ρ H' ρ') {a : Addr} {o : O} (e : H' a = H a) (h : RO K H ρ a o) : RO K H' ρ' a o := by
  cases o with
  | lst ws => obtain ⟨vs, h1, h2⟩ := h; exact ⟨vs, e.trans h1, h2.stp r s⟩
  | dct kvs => obtain ⟨vs, h1, h2⟩ := h; exact ⟨vs, e.trans h1, Paired.impS (fun _ _ z => ⟨z.1, z.2.stp r s⟩) h2⟩
  | dtt kvs => obtain ⟨vs, h1, h2⟩ := h; exact ⟨vs, e.trans h1, Paired.impS (fun _ _ z => ⟨z.1, z.2.stp r s⟩) h2⟩
  | ins C fs => obtain ⟨dx, vs, h1, h2⟩ := h; exact ⟨dx, vs, e.trans h1, Paired.impS (fun _ _ z => ⟨z.1, z.2.stp r s⟩) h2⟩
theorem tabs_upd {a : Addr} {o : HO} (t : Tabs T H) (h : ∀ u, H a = some u → Mut (some u) ∧ (∀ φ, u ≠ .ext φ)) : Tabs T (upd H a o) := fun p hp => by
  obtain ⟨ps, h1, h2, h3⟩ := t p hp
  have ne : p.1 ≠ a := fun e => by
    subst e
    exact (h _ h1).1
  refine ⟨ps, by rw [upd_ne ne]; exact h1, h2, fun pos cv hc => ?_⟩
  obtain ⟨c, e1, e2⟩ := h3 pos cv hc
  have nc : c ≠ a := fun e => by
    subst e
    exact (h _ e2).2 _ rfl
  exact ⟨c, e1, by rw [upd_ne nc]; exact e2⟩
/-- a new object that isn't numbered (a tuple) -/
theorem stp_new {p : Addr} {o : HO} (r : Rep K T H ρ S) (hp : H p = none) : Stp H ρ (upd H p o) ρ ∧ Rep K T (upd H p o) ρ S := by
  have st : Stp H ρ (upd H p o) ρ := ⟨⟨[], by simp⟩, fun a u _ h _ => by rw [upd_ne (ne_of_none h hp)]; exact h, fun _ h => .inl h⟩
  refine ⟨st, r.len, r.nd, tabs_upd r.tabs (fun u h => by rw [hp] at h; cases h), fun i u a h1 h2 => ?_⟩
  have q := r.ob i u a h1 h2
  obtain ⟨u', e, _⟩ := q.mutK
  exact q.stp r st (upd_ne (ne_of_none e hp))
/-- a new object is numbered -/
theorem stp_laid {p : Addr} {u : HO} {o : O} (r : Rep K T H ρ S) (hp : H p = none) (ho : RO K (upd H p u) (ρ ++ [p]) p o) : Stp H ρ (upd H p u) (ρ ++ [p]) ∧ Rep K T (upd H p u) (ρ ++ [p]) (S ++ [o]) := by
  have np : p ∉ ρ := fun z => by
    obtain ⟨_, _, _, _, q⟩ := r.of_mem z
    obtain ⟨u, e, _⟩ := q.mutK
    rw [hp] at e
    cases e
  have st : Stp H ρ (upd H p u) (ρ ++ [p]) := ⟨⟨[p], rfl⟩, fun a u _ h _ => by rw [upd_ne (ne_of_none h hp)]; exact h, fun a h => by
    rcases List.mem_append.mp h with z | z
    · exact .inl z
    · rw [List.mem_singleton.mp z]
      exact .inr (NT.of hp)⟩
  refine ⟨st, by simp [r.len], ?_, tabs_upd r.tabs (fun u h => by rw [hp] at h; cases h), fun i u a h1 h2 => ?_⟩
  · refine List.nodup_append.mpr ⟨r.nd, by simp, fun a ha b hb e => ?_⟩
    rw [List.mem_singleton.mp hb] at e
    rw [e] at ha
    exact np ha
  · by_cases lt : i < S.length
    · rw [List.getElem?_append_left lt] at h1
      rw [List.getElem?_append_left (by rw [r.len]; exact lt)] at h2
      have q := r.ob i u a h1 h2
      obtain ⟨u', e, _⟩ := q.mutK
      exact q.stp r st (upd_ne (ne_of_none e hp))
    · rw [List.getElem?_append_right (Nat.le_of_not_lt lt)] at h1
      rw [List.getElem?_append_right (by rw [r.len]; exact Nat.le_of_not_lt lt), r.len] at h2
      cases hk : i - S.length with
      | zero =>
        rw [hk] at h1 h2
        cases h1
        cases h2
        exact ho
      | succ k =>
        rw [hk] at h1
        simp at h1
/-- a numbered object is written -/
theorem stp_set {i : Nat} {a : Addr} {u : HO} {o : O} (r : Rep K T H ρ S) (ha : ρ[i]? = some a) (ho : RO K (upd H a u) ρ a o) : Stp H ρ (upd H a u) ρ ∧ Rep K T (upd H a u) ρ (S.set i o) := by
  have ma : a ∈ ρ := List.mem_of_getElem? ha
  obtain ⟨_, _, _, _, qa⟩ := r.of_mem ma
  have st : Stp H ρ (upd H a u) ρ := ⟨⟨[], by simp⟩, fun b w n h _ => by rw [upd_ne (fun e => n (by rw [e]; exact ma))]; exact h, fun _ h => .inl h⟩
  refine ⟨st, by simp [r.len], r.nd, tabs_upd r.tabs (fun w h => ?_), fun j w b h1 h2 => ?_⟩
  · obtain ⟨w', e, m, _⟩ := qa.mutK
    rw [e] at h
    cases h
    exact ⟨m, fun φ z => qa.notExt.1 φ (by rw [e, z])⟩
  · by_cases c : i = j
    · subst c
      rw [ha] at h2
      cases h2
      have lt : i < S.length := by rw [← r.len]; exact (List.getElem?_eq_some_iff.mp ha).1
      rw [List.getElem?_set_self lt] at h1
      cases h1
      exact ho
    · rw [List.getElem?_set_ne c] at h1
      have q := r.ob j w b h1 h2
      refine q.stp r st (upd_ne fun e => c ?_)
      subst e
      obtain ⟨l1, e1⟩ := List.getElem?_eq_some_iff.mp ha
      obtain ⟨l2, e2⟩ := List.getElem?_eq_some_iff.mp h2
      exact (List.getElem_inj r.nd).mp (e1.trans e2.symm)
end
/-! ### lifts -/
abbrev WK := W → Sto → Prop
abbrev ME := Lo → Sto → WK → Prop
abbrev MT := Lo → Sto → (Bool → Sto → Prop) → Prop
abbrev MA := Lo → Sto → (List W → Sto → Prop) → Prop
structure EndW where
  nx : Lo → Sto → Prop
  rt : WK
  bk : Lo → Sto → Prop := fun _ _ => False
  ct : Lo → Sto → Prop := fun _ _ => False
abbrev MS := EndW → Lo → Sto → Prop
section
variable (K : PySem.W.Frag) (T : List (Addr × Str))
def Kont (H : Hp) (ρ : List Addr) (P : WK) (Q : VK) : Prop := ∀ (w : W) (S' : Sto) (v : V) (ρ' : List Addr) (H' : Hp), P w S' → Stp H ρ H' ρ' → Rep K T H' ρ' S' → RW K H' ρ' w v → Q v H'
def KontT (H : Hp) (ρ : List Addr) (P : Bool → Sto → Prop) (Q : Bool → Hp → Prop) : Prop := ∀ (b : Bool) (S' : Sto) (ρ' : List Addr) (H' : Hp), P b S' → Stp H ρ H' ρ' → Rep K T H' ρ' S' → Q b H'
def KontA (H : Hp) (ρ : List Addr) (P : List W → Sto → Prop) (Q : List V → Hp → Prop) : Prop := ∀ (ws : List W) (S' : Sto) (vs : List V) (ρ' : List Addr) (H' : Hp), P ws S' → Stp H ρ H' ρ' → Rep K T H' ρ' S' → RWs K H' ρ' ws vs → Q vs H'
def KontS (H : Hp) (ρ : List Addr) (P : Lo → Sto → Prop) (Q : L2.St → Hp → Prop) : Prop := ∀ (τ' : Lo) (S' : Sto) (σ' : L2.St) (ρ' : List Addr) (H' : Hp), P τ' S' → Stp H ρ H' ρ' → Rep K T H' ρ' S' → RSt K H' ρ' τ' σ' → Q σ' H'
def liftE (m : ME) : TE := fun σ H Q => ∃ (ρ : List Addr) (τ : Lo) (S : Sto) (P : WK), Rep K T H ρ S ∧ RSt K H ρ τ σ ∧ m τ S P ∧ Kont K T H ρ P Q
def liftT (m : MT) : TT := fun σ H Q => ∃ (ρ : List Addr) (τ : Lo) (S : Sto) (P : Bool → Sto → Prop), Rep K T H ρ S ∧ RSt K H ρ τ σ ∧ m τ S P ∧ KontT K T H ρ P Q
def liftA (m : MA) : TA := fun σ H Q => ∃ (ρ : List Addr) (τ : Lo) (S : Sto) (P : List W → Sto → Prop), Rep K T H ρ S ∧ RSt K H ρ τ σ ∧ m τ S P ∧ KontA K T H ρ P Q
structure KontD (H : Hp) (ρ : List Addr) (E : EndW) (D : Ends) : Prop where
  nx : KontS K T H ρ E.nx D.nx
  rt : Kont K T H ρ E.rt D.rt
  bk : KontS K T H ρ E.bk D.bk
  ct : KontS K T H ρ E.ct D.ct
def liftS (m : MS) : TS := fun D σ H => ∃ (ρ : List Addr) (τ : Lo) (S : Sto) (E : EndW), Rep K T H ρ S ∧ RSt K H ρ τ σ ∧ m E τ S ∧ KontD K T H ρ E D
abbrev MR2 := W → W → Sto → WK → Prop
def lift2 (r : MR2) : R2 := fun x y H Q => ∃ (ρ : List Addr) (S : Sto) (wx wy : W) (P : WK), Rep K T H ρ S ∧ RW K H ρ wx x ∧ RW K H ρ wy y ∧ r wx wy S P ∧ Kont K T H ρ P Q
abbrev MR1 := W → Sto → WK → Prop
def lift1 (r : MR1) : V → Hp → VK → Prop := fun x H Q => ∃ (ρ : List Addr) (S : Sto) (wx : W) (P : WK), Rep K T H ρ S ∧ RW K H ρ wx x ∧ r wx S P ∧ Kont K T H ρ P Q
abbrev MRL := List W → Sto → WK → Prop
def liftL (r : MRL) : List V → Hp → VK → Prop := fun xs H Q => ∃ (ρ : List Addr) (S : Sto) (ws : List W) (P : WK), Rep K T H ρ S ∧ RWs K H ρ ws xs ∧ r ws S P ∧ Kont K T H ρ P Q
end
section
variable {K : PySem.W.Frag} {T : List (Addr × Str)} {H H' : Hp} {ρ ρ' : List Addr} {S S' : Sto}
theorem Kont.stp {P : WK} {Q : VK} (k : Kont K T H ρ P Q) (s : Stp H ρ H' ρ') : Kont K T H' ρ' P Q := fun w S2 v ρ2 H2 hp s2 r hw => k w S2 v ρ2 H2 hp (s.trans s2) r hw
theorem KontT.stp {P : Bool → Sto → Prop} {Q : Bool → Hp → Prop} (k : KontT K T H ρ P Q) (s : Stp H ρ H' ρ') : KontT K T H' ρ' P Q := fun w S2 ρ2 H2 hp s2 r => k w S2 ρ2 H2 hp (s.trans s2) r
theorem KontA.stp {P : List W → Sto → Prop} {Q : List V → Hp → Prop} (k : KontA K T H ρ P Q) (s : Stp H ρ H' ρ') : KontA K T H' ρ' P Q := fun w S2 v ρ2 H2 hp s2 r hw => k w S2 v ρ2 H2 hp (s.trans s2) r hw
theorem KontS.stp {P : Lo → Sto → Prop} {Q : L2.St → Hp → Prop} (k : KontS K T H ρ P Q) (s : Stp H ρ H' ρ') : KontS K T H' ρ' P Q := fun w S2 v ρ2 H2 hp s2 r hw => k w S2 v ρ2 H2 hp (s.trans s2) r hw
theorem KontD.stp {E : EndW} {D : Ends} (k : KontD K T H ρ E D) (s : Stp H ρ H' ρ') : KontD K T H' ρ' E D := ⟨k.nx.stp s, k.rt.stp s, k.bk.stp s, k.ct.stp s⟩
theorem Kont.at (k : Kont K T H ρ P Q) (r : Rep K T H ρ S) {w : W} {v : V} (hw : RW K H ρ w v) (hp : P w S) : Q v H := k w S v ρ H hp (Stp.refl _ _) r hw
/-- a new list -/
theorem Kont.lst {P : WK} {Q : VK} {ws : List W} {vs : List V} {p : Addr} (k : Kont K T H ρ P Q) (r : Rep K T H ρ S) (hw : RWs K H ρ ws vs) (hp : H p = none) (q : P (.ref S.length) (S ++ [.lst ws])) : Q (.ref p) (upd H p (.lst vs)) := by
  have lenp : (ρ ++ [p])[S.length]? = some p := by rw [← r.len]; simp
  obtain ⟨st0, r0⟩ := stp_new (o := .lst vs) r hp
  have mono : ∀ (n : Nat), True := fun _ => True.intro
  have st1 : Stp H ρ (upd H p (.lst vs)) (ρ ++ [p]) := ⟨⟨[p], rfl⟩, st0.frm, fun a h => by
    rcases List.mem_append.mp h with z | z
    · exact .inl z
    · rw [List.mem_singleton.mp z]
      exact .inr (NT.of hp)⟩
  obtain ⟨st, r1⟩ := stp_laid (u := .lst vs) (o := .lst ws) r hp ⟨vs, upd_same, hw.stp r st1⟩
  exact k _ _ _ _ _ q st r1 (.ref lenp)
/-- a new tuple -/
theorem Kont.tup {P : WK} {Q : VK} {ws : List W} {vs : List V} {p : Addr} (k : Kont K T H ρ P Q) (r : Rep K T H ρ S) (hw : RWs K H ρ ws vs) (hp : H p = none) (q : P (.tup ws) S) : Q (.ref p) (upd H p (.tup vs)) := by
  obtain ⟨st, r1⟩ := stp_new (o := .tup vs) r hp
  exact k _ _ _ _ _ q st r1 (.tup (.inl (.inl upd_same)) (hw.stp r st))
end
/-! ### judgements -/
theorem _root_.L2.PE.weak {X : Cx} {e : Expr} {t t' : TE} (h : PE X e t) (w : ∀ σ H Q, t' σ H Q → t σ H Q) : PE X e t' := ⟨fun pins s σ H Q I q => h.run pins s σ H Q I (w _ _ _ q)⟩
theorem _root_.L2.PT.weak {X : Cx} {e : Expr} {t t' : TT} (h : PT X e t) (w : ∀ σ H Q, t' σ H Q → t σ H Q) : PT X e t' := ⟨fun pins s σ H Q I q => h.run pins s σ H Q I (w _ _ _ q)⟩
theorem _root_.L2.PW.weak {X : Cx} {e : Expr} {t t' : TT} (h : L2.PW X e t) (w : ∀ σ H Q, t' σ H Q → t σ H Q) : L2.PW X e t' := ⟨fun wh pins s σ H Q I q => h.run wh pins s σ H Q I (w _ _ _ q)⟩
theorem _root_.L2.PA.weak {X : Cx} {es : List Expr} {t t' : TA} (h : PA X es t) (w : ∀ σ H Q, t' σ H Q → t σ H Q) : PA X es t' := ⟨fun pos pins s σ H Q I q => h.run pos pins s σ H Q I (w _ _ _ q)⟩
theorem _root_.L2.PS.weak {X : Cx} {st : Stmt} {t t' : TS} (h : PS X st t) (w : ∀ D σ H, t' D σ H → t D σ H) : PS X st t' := ⟨fun pins s σ H D I q => h.run pins s σ H D I (w _ _ _ q)⟩
theorem _root_.L2.PSs.weak {X : Cx} {st : List Stmt} {t t' : TS} (h : PSs X st t) (w : ∀ D σ H, t' D σ H → t D σ H) : PSs X st t' := ⟨fun pins s σ H D I q => h.run pins s σ H D I (w _ _ _ q)⟩
theorem opr_weak {X : Cx} {f : Value → Value → Sem Value} {r r' : R2} (h : OpR X f r) (w : ∀ x y H Q, r' x y H Q → r x y H Q) : OpR X f r' := fun pins s σ H x y v u Q I rx ry q => h pins s σ H x y v u Q I rx ry (w _ _ _ _ q)
theorem opr_or {X : Cx} {f : Value → Value → Sem Value} {r r' : R2} (h : OpR X f r) (h' : OpR X f r') : OpR X f (fun x y H Q => r x y H Q ∨ r' x y H Q) := fun pins s σ H x y v u Q I rx ry q => q.elim (h pins s σ H x y v u Q I rx ry) (h' pins s σ H x y v u Q I rx ry)
theorem cr_weak {X : Cx} {f : Value} {r r' : List V → Hp → VK → Prop} (h : CallR X f r) (w : ∀ xs H Q, r' xs H Q → r xs H Q) : CallR X f r' := fun pins s σ H xs us Q I rx q => h pins s σ H xs us Q I rx (w _ _ _ q)
theorem cr_or {X : Cx} {f : Value} {r r' : List V → Hp → VK → Prop} (h : CallR X f r) (h' : CallR X f r') : CallR X f (fun xs H Q => r xs H Q ∨ r' xs H Q) := fun pins s σ H xs us Q I rx q => q.elim (h pins s σ H xs us Q I rx) (h' pins s σ H xs us Q I rx)
def IE (X : Cx) (T : List (Addr × Str)) (e : Expr) (m : ME) : Prop := PE X e (liftE X.K T m)
def IT (X : Cx) (T : List (Addr × Str)) (e : Expr) (m : MT) : Prop := PT X e (liftT X.K T m)
def IW (X : Cx) (T : List (Addr × Str)) (e : Expr) (m : MT) : Prop := L2.PW X e (liftT X.K T m)
def IA (X : Cx) (T : List (Addr × Str)) (es : List Expr) (m : MA) : Prop := PA X es (liftA X.K T m)
def IS (X : Cx) (T : List (Addr × Str)) (st : Stmt) (m : MS) : Prop := PS X st (liftS X.K T m)
def ISs (X : Cx) (T : List (Addr × Str)) (sts : List Stmt) (m : MS) : Prop := PSs X sts (liftS X.K T m)
def OpW (X : Cx) (T : List (Addr × Str)) (f : Value → Value → Sem Value) (r : MR2) : Prop := OpR X f (lift2 X.K T r)
def CallW (X : Cx) (T : List (Addr × Str)) (f : Value) (r : MRL) : Prop := CallR X f (liftL X.K T r)
end PL
set_option Elab.async false
set_option linter.all false
set_option maxRecDepth 100000
set_option maxHeartbeats 4000000
/-! ## expressions over the plain store -/
namespace PL
open PySem PySem.Spec PyProof.Rows L2 LamX
theorem _root_.L2.PE.or {X : Cx} {e : Expr} {t t' : TE} (h : PE X e t) (h' : PE X e t') : PE X e (fun σ H Q => t σ H Q ∨ t' σ H Q) := ⟨fun pins s σ H Q I q => q.elim (h.run pins s σ H Q I) (h'.run pins s σ H Q I)⟩
theorem _root_.L2.PS.or {X : Cx} {e : Stmt} {t t' : TS} (h : PS X e t) (h' : PS X e t') : PS X e (fun D σ H => t D σ H ∨ t' D σ H) := ⟨fun pins s σ H D I q => q.elim (h.run pins s σ H D I) (h'.run pins s σ H D I)⟩
section
variable {K : PySem.W.Frag} {T : List (Addr × Str)} {σ : L2.St} {H : Hp}
/-! ### pieces -/
theorem lift_k {K1 : WK → Prop} {m : ME} {t : TE} (w : ∀ (ρ : List Addr) (τ : Lo) (S : Sto) (P : WK) (Q : VK), Rep K T H ρ S → RSt K H ρ τ σ → m τ S P → Kont K T H ρ P Q → t σ H Q) {Q : VK} (h : liftE K T m σ H Q) : t σ H Q := by
  obtain ⟨ρ, τ, S, P, r, s, h, k⟩ := h
  exact w ρ τ S P Q r s h k
def mVar (i : Nat) : ME := fun τ S P => ∃ w, τ[i]? = some (some w) ∧ P w S
def mC (w : W) : ME := fun _ S P => P w S
def mOp (r : MR2) (ma mb : ME) : ME := fun τ S P => ma τ S fun x S1 => mb τ S1 fun y S2 => r x y S2 P
def mUn (r : MR1) (ma : ME) : ME := fun τ S P => ma τ S fun x S1 => r x S1 P
def mB (m : ME) : MT := fun τ S P => m τ S fun w S1 => ∃ c, w = .bl c ∧ P c S1
def mOfT (m : MT) : ME := fun τ S P => m τ S fun b S1 => P (.bl b) S1
def mNot (m : MT) : MT := fun τ S P => m τ S fun b S1 => P (!b) S1
def mAnd (m n : MT) : MT := fun τ S P => m τ S fun c S1 => if c = true then n τ S1 P else P false S1
def mOr (m n : MT) : MT := fun τ S P => m τ S fun c S1 => if c = true then P true S1 else n τ S1 P
def mIf (t : MT) (a b : ME) : ME := fun τ S P => t τ S fun c S1 => if c = true then a τ S1 P else b τ S1 P
def mNil : MA := fun _ S P => P [] S
def mCons (m : ME) (n : MA) : MA := fun τ S P => m τ S fun w S1 => n τ S1 fun ws S2 => P (w :: ws) S2
def mTup (m : MA) : ME := fun τ S P => m τ S fun ws S1 => ws.length ≤ sizeLine ∧ P (.tup ws) S1
def mLst (m : MA) : ME := fun τ S P => m τ S fun ws S1 => ws.length ≤ sizeLine ∧ P (.ref S1.length) (S1 ++ [.lst ws])
def mCall (sp : MRL) (m : MA) : ME := fun τ S P => m τ S fun ws S1 => sp ws S1 P
theorem lift_var {i : Nat} {Q : VK} (h : liftE K T (mVar i) σ H Q) : tVar i σ H Q := by
  obtain ⟨ρ, τ, S, P, r, s, ⟨w, e, p⟩, k⟩ := h
  obtain ⟨v, e', hw⟩ := s.at_ i w e
  exact ⟨v, e', k.at r hw p⟩
theorem lift_c {w : W} {v : V} (g : ∀ H ρ, RW K H ρ w v) {Q : VK} (h : liftE K T (mC w) σ H Q) : tC v σ H Q := by
  obtain ⟨ρ, τ, S, P, r, s, p, k⟩ := h
  exact k.at r (g H ρ) p
theorem lift_op {f : MR2} {ma mb : ME} {Q : VK} (h : liftE K T (mOp f ma mb) σ H Q) : tOp (lift2 K T f) (liftE K T ma) (liftE K T mb) σ H Q := by
  obtain ⟨ρ, τ, S, P, r, s, h, k⟩ := h
  refine ⟨ρ, τ, S, _, r, s, h, fun w S' v ρ' H' hp st r' hw => ?_⟩
  refine ⟨ρ', τ, S', _, r', s.stp r st, hp, fun w2 S2 v2 ρ2 H2 hp2 st2 r2 hw2 => ?_⟩
  exact ⟨ρ2, S2, w, w2, P, r2, hw.stp r' st2, hw2, hp2, k.stp (st.trans st2)⟩
theorem lift_un {f : MR1} {ma : ME} {Q : VK} (h : liftE K T (mUn f ma) σ H Q) : tUn (lift1 K T f) (liftE K T ma) σ H Q := by
  obtain ⟨ρ, τ, S, P, r, s, h, k⟩ := h
  exact ⟨ρ, τ, S, _, r, s, h, fun w S' v ρ' H' hp st r' hw => ⟨ρ', S', w, P, r', hw, hp, k.stp st⟩⟩
theorem lift_b {m : ME} {Q : Bool → Hp → Prop} (h : liftT K T (mB m) σ H Q) : tB (liftE K T m) σ H Q := by
  obtain ⟨ρ, τ, S, P, r, s, h, k⟩ := h
  refine ⟨ρ, τ, S, _, r, s, h, fun w S' v ρ' H' hp st r' hw => ?_⟩
  obtain ⟨c, rfl, p⟩ := hp
  cases hw
  exact ⟨c, rfl, k c S' ρ' H' p st r'⟩
theorem lift_not {m : MT} {Q : Bool → Hp → Prop} (h : liftT K T (mNot m) σ H Q) : tNot (liftT K T m) σ H Q := by
  obtain ⟨ρ, τ, S, P, r, s, h, k⟩ := h
  exact ⟨ρ, τ, S, _, r, s, h, fun w S' ρ' H' hp st r' => k (!w) S' ρ' H' hp st r'⟩
theorem lift_and {m n : MT} {Q : Bool → Hp → Prop} (h : liftT K T (mAnd m n) σ H Q) : tAnd (liftT K T m) (liftT K T n) σ H Q := by
  obtain ⟨ρ, τ, S, P, r, s, h, k⟩ := h
  refine ⟨ρ, τ, S, _, r, s, h, fun c S' ρ' H' hp st r' => ?_⟩
  cases c with
  | true =>
    rw [if_pos rfl] at hp ⊢
    exact ⟨ρ', τ, S', _, r', s.stp r st, hp, k.stp st⟩
  | false =>
    rw [if_neg Bool.false_ne_true] at hp ⊢
    exact k false S' ρ' H' hp st r'
theorem lift_or {m n : MT} {Q : Bool → Hp → Prop} (h : liftT K T (mOr m n) σ H Q) : tOr (liftT K T m) (liftT K T n) σ H Q := by
  obtain ⟨ρ, τ, S, P, r, s, h, k⟩ := h
  refine ⟨ρ, τ, S, _, r, s, h, fun c S' ρ' H' hp st r' => ?_⟩
  cases c with
  | false =>
    rw [if_neg Bool.false_ne_true] at hp ⊢
    exact ⟨ρ', τ, S', _, r', s.stp r st, hp, k.stp st⟩
  | true =>
    rw [if_pos rfl] at hp ⊢
    exact k true S' ρ' H' hp st r'
theorem lift_if {t : MT} {a b : ME} {Q : VK} (h : liftE K T (mIf t a b) σ H Q) : tIf (liftT K T t) (liftE K T a) (liftE K T b) σ H Q := by
  obtain ⟨ρ, τ, S, P, r, s, h, k⟩ := h
  refine ⟨ρ, τ, S, _, r, s, h, fun c S' ρ' H' hp st r' => ?_⟩
  cases c with
  | true =>
    rw [if_pos rfl] at hp ⊢
    exact ⟨ρ', τ, S', _, r', s.stp r st, hp, k.stp st⟩
  | false =>
    rw [if_neg Bool.false_ne_true] at hp ⊢
    exact ⟨ρ', τ, S', _, r', s.stp r st, hp, k.stp st⟩
theorem lift_nil {Q : List V → Hp → Prop} (h : liftA K T mNil σ H Q) : tNil σ H Q := by
  obtain ⟨ρ, τ, S, P, r, s, h, k⟩ := h
  exact k [] S [] ρ H h (Stp.refl _ _) r .nil
theorem lift_cons {m : ME} {n : MA} {Q : List V → Hp → Prop} (h : liftA K T (mCons m n) σ H Q) : tCons (liftE K T m) (liftA K T n) σ H Q := by
  obtain ⟨ρ, τ, S, P, r, s, h, k⟩ := h
  refine ⟨ρ, τ, S, _, r, s, h, fun w S' v ρ' H' hp st r' hw => ?_⟩
  refine ⟨ρ', τ, S', _, r', s.stp r st, hp, fun ws S2 vs ρ2 H2 hp2 st2 r2 hws => ?_⟩
  exact k _ _ _ _ _ hp2 (st.trans st2) r2 (.cons (hw.stp r' st2) hws)
theorem lift_tup {m : MA} {Q : VK} (h : liftE K T (mTup m) σ H Q) : tTup (liftA K T m) σ H Q := by
  obtain ⟨ρ, τ, S, P, r, s, h, k⟩ := h
  refine ⟨ρ, τ, S, _, r, s, h, fun ws S' vs ρ' H' hp st r' hw => ⟨by rw [← hw.length]; exact hp.1, fun p hn => ?_⟩⟩
  exact (k.stp st).tup r' hw hn hp.2
theorem lift_lst {m : MA} {Q : VK} (h : liftE K T (mLst m) σ H Q) : tLst (liftA K T m) σ H Q := by
  obtain ⟨ρ, τ, S, P, r, s, h, k⟩ := h
  refine ⟨ρ, τ, S, _, r, s, h, fun ws S' vs ρ' H' hp st r' hw => ⟨by rw [← hw.length]; exact hp.1, fun p hn => ?_⟩⟩
  exact (k.stp st).lst r' hw hn hp.2
theorem lift_call {f : MRL} {m : MA} {Q : VK} (h : liftE K T (mCall f m) σ H Q) : tCB (liftL K T f) (liftA K T m) σ H Q := by
  obtain ⟨ρ, τ, S, P, r, s, h, k⟩ := h
  exact ⟨ρ, τ, S, _, r, s, h, fun ws S' vs ρ' H' hp st r' hw => ⟨ρ', S', ws, P, r', hw, hp, k.stp st⟩⟩
end
section
variable {X : Cx} {T : List (Addr × Str)} {a b c e : Expr} {es : List Expr} {ma mb mc me : ME} {m n : MT} {ms : MA} {pos : Pos}
theorem ie_var {i : Nat} {x : Str} (hN : X.N[i]? = some x) (hv : Vis X.env.scope x) (hd : (x == ("__debug__" : Str)) = false := by decide) (hcd : (x == ("__classdict__" : Str)) = false := by decide) : IE X T (.Name x pos) (mVar i) := (pe_var hN hv hd hcd).weak fun _ _ _ => lift_var
theorem ie_int {i : Int} {j : Nat} : IE X T (.Constant (.int i) j pos) (mC (.int i)) := pe_int.weak fun _ _ _ => lift_c fun _ _ => .int i
theorem ie_bl {b : Bool} {j : Nat} : IE X T (.Constant (.bool b) j pos) (mC (.bl b)) := pe_bl.weak fun _ _ _ => lift_c fun _ _ => .bl b
theorem ie_non {j : Nat} : IE X T (.Constant .none j pos) (mC .non) := pe_non.weak fun _ _ _ => lift_c fun _ _ => .non
theorem ie_str {x : Str} {j : Nat} : IE X T (.Constant (.str x) j pos) (mC (.str x)) := pe_str.weak fun _ _ _ => lift_c fun _ _ => .str x
/-- a module's constant -/
theorem ie_glob {x : Str} {w : W} {v : V} {u : Value} (hg : Gl X x) (hm : X.mg x = some u) (r : RelV v u) (g : ∀ H ρ, RW X.K H ρ w v) (hd : (x == ("__debug__" : Str)) = false := by decide) : IE X T (.Name x pos) (mC w) := (pe_glob hg hm r hd).weak fun _ _ _ => lift_c g
theorem ie_op {op : Operator} {r : MR2} (ho : OpW X T (binaryOp op) r) (ha : IE X T a ma) (hb : IE X T b mb) : IE X T (.BinOp a op b pos) (mOp r ma mb) := (pe_op ho ha hb).weak fun _ _ _ => lift_op
theorem ie_cmp {op : CmpOp} {r : MR2} (ho : OpW X T (compareOp op) r) (ha : IE X T a ma) (hb : IE X T b mb) (hm : behindInMarks op b = false) : IE X T (.Compare a [op] [b] pos) (mOp r ma mb) := (pe_cmpR ho ha hb hm).weak fun _ _ _ => lift_op
theorem it_cmp {op : CmpOp} {r : MR2} (ho : OpW X T (compareOp op) r) (ha : IE X T a ma) (hb : IE X T b mb) (hm : behindInMarks op b = false) : IT X T (.Compare a [op] [b] pos) (mB (mOp r ma mb)) := (pt_cmpR ho ha hb hm).weak fun σ H Q h => by
  obtain ⟨ρ, τ, S, P, r', s, h, k⟩ := h
  have h' : liftE X.K T (mOp r ma mb) σ H (fun x H' => ∃ k, x = .bl k ∧ Q k H') := by
    refine ⟨ρ, τ, S, _, r', s, h, fun w S' v ρ' H' hp st r2 hw => ?_⟩
    obtain ⟨c, rfl, p⟩ := hp
    cases hw
    exact ⟨c, rfl, k c S' ρ' H' p st r2⟩
  exact lift_op h'
theorem it_val (h : IE X T e me) (he : ∀ whole, isTrue e X.env whole = (do let v ← whole; standAt e.pos; holding [v] (truthy v)) := by intro _; rfl) : IT X T e (mB me) := (pt_val h he).weak fun _ _ _ => lift_b
theorem it_not (h : IT X T a m) : IT X T (.UnaryOp .Not a pos) (mNot m) := (pt_not h).weak fun _ _ _ => lift_not
theorem iw_and1 (h : IT X T a m) : IW X T (.BoolOp .And [a] pos) m := pw_and1 h
theorem iw_or1 (h : IT X T a m) : IW X T (.BoolOp .Or [a] pos) m := pw_or1 h
theorem iw_and {rest : List Expr} (h : IT X T a m) (h' : IW X T (.BoolOp .And (b :: rest) pos) n) : IW X T (.BoolOp .And (a :: b :: rest) pos) (mAnd m n) := L2.PW.weak (pw_and h h') fun _ _ _ => lift_and
theorem iw_or {rest : List Expr} (h : IT X T a m) (h' : IW X T (.BoolOp .Or (b :: rest) pos) n) : IW X T (.BoolOp .Or (a :: b :: rest) pos) (mOr m n) := L2.PW.weak (pw_or h h') fun _ _ _ => lift_or
theorem it_w (h : IW X T a m) : IT X T a m := L2.PW.pt h
theorem ie_if (h : IT X T c m) (ha : IE X T a ma) (hb : IE X T b mb) : IE X T (.IfExp c a b pos) (mIf m ma mb) := (pe_ifExp h ha hb).weak fun _ _ _ => lift_if
theorem ia_nil : IA X T [] mNil := pa_nil.weak fun _ _ _ => lift_nil
theorem ia_cons (ha : IE X T e me) (hr : IA X T es ms) (hs : starEach (e :: es) X.env = (false, eval e X.env) :: starEach es X.env := by rfl) : IA X T (e :: es) (mCons me ms) := (pa_cons ha hr hs).weak fun _ _ _ => lift_cons
theorem ie_tup {x1 : Nat} (h : IA X T es ms) : IE X T (.Tuple es x1 pos) (mTup ms) := (pe_tup h).weak fun _ _ _ => lift_tup
theorem ie_lst (h : IA X T es ms) : IE X T (.List es pos) (mLst ms) := (pe_lst h).weak fun _ _ _ => lift_lst
/-! ### and, or, not as values of truths -/
def mAndV (ma mb : ME) : ME := fun τ S P => ma τ S fun x S1 => ∃ c, x = .bl c ∧ if c = true then mb τ S1 P else P (.bl false) S1
def mOrV (ma mb : ME) : ME := fun τ S P => ma τ S fun x S1 => ∃ c, x = .bl c ∧ if c = true then P (.bl true) S1 else mb τ S1 P
def mNotV (ma : ME) : ME := fun τ S P => ma τ S fun x S1 => ∃ c, x = .bl c ∧ P (.bl (!c)) S1
theorem ie_one {op : BoolOp} (h : IE X T a ma) : IE X T (.BoolOp op [a] pos) ma := pe_one h
theorem ie_and {rest : List Expr} (ha : IE X T a ma) (hb : IE X T (.BoolOp .And (b :: rest) pos) mb) : IE X T (.BoolOp .And (a :: b :: rest) pos) (mAndV ma mb) := (pe_and ha hb).weak fun σ H Q h => by
  obtain ⟨ρ, τ, S, P, r, s, h, k⟩ := h
  refine ⟨ρ, τ, S, _, r, s, h, fun w S' v ρ' H' hp st r' hw => ?_⟩
  obtain ⟨c, rfl, p⟩ := hp
  cases hw
  refine ⟨c, rfl, ?_⟩
  cases c with
  | true =>
    rw [if_pos rfl] at p ⊢
    exact ⟨ρ', τ, S', _, r', s.stp r st, p, k.stp st⟩
  | false =>
    rw [if_neg Bool.false_ne_true] at p ⊢
    exact (k.stp st).at r' (.bl false) p
theorem ie_or {rest : List Expr} (ha : IE X T a ma) (hb : IE X T (.BoolOp .Or (b :: rest) pos) mb) : IE X T (.BoolOp .Or (a :: b :: rest) pos) (mOrV ma mb) := (pe_or ha hb).weak fun σ H Q h => by
  obtain ⟨ρ, τ, S, P, r, s, h, k⟩ := h
  refine ⟨ρ, τ, S, _, r, s, h, fun w S' v ρ' H' hp st r' hw => ?_⟩
  obtain ⟨c, rfl, p⟩ := hp
  cases hw
  refine ⟨c, rfl, ?_⟩
  cases c with
  | true =>
    rw [if_pos rfl] at p ⊢
    exact (k.stp st).at r' (.bl true) p
  | false =>
    rw [if_neg Bool.false_ne_true] at p ⊢
    exact ⟨ρ', τ, S', _, r', s.stp r st, p, k.stp st⟩
theorem ie_not (ha : IE X T a ma) : IE X T (.UnaryOp .Not a pos) (mNotV ma) := (pe_not ha).weak fun σ H Q h => by
  obtain ⟨ρ, τ, S, P, r, s, h, k⟩ := h
  refine ⟨ρ, τ, S, _, r, s, h, fun w S' v ρ' H' hp st r' hw => ?_⟩
  obtain ⟨c, rfl, p⟩ := hp
  cases hw
  exact ⟨c, rfl, (k.stp st).at r' (.bl _) p⟩
/-! ### two comparisons in a row -/
def mChain (f g : MR2) (ma mb mc : ME) : ME := fun τ S P => ma τ S fun x S1 => mb τ S1 fun y S2 => f x y S2 fun z S3 => ∃ k, z = .bl k ∧ (if k = true then mc τ S3 fun w S4 => g y w S4 P else P (.bl false) S3)
theorem lift_chain {K : PySem.W.Frag} {σ : L2.St} {H : Hp} {f g : MR2} {Q : VK} (h : liftE K T (mChain f g ma mb mc) σ H Q) : tChain (lift2 K T f) (lift2 K T g) (liftE K T ma) (liftE K T mb) (liftE K T mc) σ H Q := by
  obtain ⟨ρ, τ, S, P, r, s, h, k⟩ := h
  refine ⟨ρ, τ, S, _, r, s, h, fun w S' v ρ' H' hp st r' hw => ?_⟩
  refine ⟨ρ', τ, S', _, r', s.stp r st, hp, fun w2 S2 v2 ρ2 H2 hp2 st2 r2 hw2 => ?_⟩
  refine ⟨ρ2, S2, w, w2, _, r2, hw.stp r' st2, hw2, hp2, fun w3 S3 v3 ρ3 H3 hp3 st3 r3 hw3 => ?_⟩
  obtain ⟨c, rfl, p⟩ := hp3
  cases hw3
  refine ⟨c, rfl, ?_⟩
  cases c with
  | true =>
    rw [if_pos rfl] at p ⊢
    refine ⟨ρ3, τ, S3, _, r3, ((s.stp r st).stp r' st2).stp r2 st3, p, fun w4 S4 v4 ρ4 H4 hp4 st4 r4 hw4 => ?_⟩
    exact ⟨ρ4, S4, w2, w4, P, r4, (hw2.stp r2 st3).stp r3 st4, hw4, hp4, k.stp (((st.trans st2).trans st3).trans st4)⟩
  | false =>
    rw [if_neg Bool.false_ne_true] at p ⊢
    exact (k.stp ((st.trans st2).trans st3)).at r3 (.bl false) p
theorem ie_chain {op op' : CmpOp} {f g : MR2} (ho : OpW X T (compareOp op) f) (ho' : OpW X T (compareOp op') g) (ha : IE X T a ma) (hb : IE X T b mb) (hc : IE X T c mc) (hm : lastMarks [op, op'] [b, c] = false := by with_unfolding_all rfl) :
    IE X T (.Compare a [op, op'] [b, c] pos) (mChain f g ma mb mc) := (pe_chain ho ho' ha hb hc hm).weak fun _ _ _ => lift_chain
theorem it_chain {op op' : CmpOp} {f g : MR2} (ho : OpW X T (compareOp op) f) (ho' : OpW X T (compareOp op') g) (ha : IE X T a ma) (hb : IE X T b mb) (hc : IE X T c mc) (hm : lastMarks [op, op'] [b, c] = false := by with_unfolding_all rfl) :
    IT X T (.Compare a [op, op'] [b, c] pos) (mB (mChain f g ma mb mc)) := (pt_chain ho ho' ha hb hc hm).weak fun σ H Q h => by
  obtain ⟨ρ, τ, S, P, r', s, h, k⟩ := h
  have h' : liftE X.K T (mChain f g ma mb mc) σ H (fun x H' => ∃ k, x = .bl k ∧ Q k H') := by
    refine ⟨ρ, τ, S, _, r', s, h, fun w S' v ρ' H' hp st r2 hw => ?_⟩
    obtain ⟨c, rfl, p⟩ := hp
    cases hw
    exact ⟨c, rfl, k c S' ρ' H' p st r2⟩
  exact lift_chain h'
/-! ### a value's truth -/
def truW (S : Sto) : W → Option Bool
  | .non => some false
  | .bl b => some b
  | .int i => some (i != 0)
  | .str y => if y.length ≤ sizeLine then some ((y.length : Int) != 0) else none
  | .tup xs => some (!xs.isEmpty)
  | .ref i => match S[i]? with
    | some (.lst xs) => some (!xs.isEmpty)
    | some (.dct kvs) => some (!kvs.isEmpty)
    | _ => none
  | .ty _ => none
def mTru (m : ME) : MT := fun τ S P => m τ S fun w S1 => ∃ c, truW S1 w = some c ∧ P c S1
theorem RWs.isEmpty {K : PySem.W.Frag} {H : Hp} {ρ : List Addr} {ws : List W} {vs : List V} (h : RWs K H ρ ws vs) : vs.isEmpty = ws.isEmpty := by cases h <;> rfl
theorem tru_w {K : PySem.W.Frag} {H : Hp} {ρ : List Addr} {S : Sto} {w : W} {v : V} {c : Bool} (r : Rep K T H ρ S) (hw : RW K H ρ w v) (h : truW S w = some c) : TruV K v H c := by
  cases hw with
  | non => exact (Option.some.inj h).symm
  | bl b => exact (Option.some.inj h).symm
  | int i => exact (Option.some.inj h).symm
  | str x =>
    simp only [truW] at h
    split at h
    · exact ⟨by assumption, (Option.some.inj h).symm⟩
    · cases h
  | tup hs hr => exact .inr (.inl ⟨_, hs, by rw [hr.isEmpty]; exact (Option.some.inj h).symm⟩)
  | ref hi =>
    rename_i i a
    simp only [truW] at h
    split at h
    · rename_i xs e
      obtain ⟨vs, h1, h2⟩ := r.ob _ _ _ e hi
      exact .inl ⟨vs, SqL.of h1, by rw [h2.isEmpty]; exact (Option.some.inj h).symm⟩
    · rename_i kvs e
      obtain ⟨vs, h1, h2⟩ := r.ob _ _ _ e hi
      exact .inr (.inr ⟨vs, h1, by rw [← Option.some.inj h]; cases h2 <;> rfl⟩)
    · cases h
  | ty n => simp only [truW] at h; cases h
theorem it_truth (ha : IE X T a ma) (he : ∀ whole, isTrue a X.env whole = (do let v ← whole; standAt a.pos; holding [v] (truthy v)) := by intro _; rfl) : IT X T a (mTru ma) := (pt_truth ha he).weak fun σ H Q h => by
  obtain ⟨ρ, τ, S, P, r, s, h, k⟩ := h
  refine ⟨ρ, τ, S, _, r, s, h, fun w S' v ρ' H' hp st r' hw => ?_⟩
  obtain ⟨c, e, p⟩ := hp
  exact ⟨c, tru_w r' hw e, k c S' ρ' H' p st r'⟩
end
end PL
set_option Elab.async false
set_option linter.all false
set_option maxRecDepth 100000
set_option maxHeartbeats 4000000
/-! ## operations by values -/
namespace PL
open PySem PySem.Spec PyProof.Rows L2 LamX
/-! ### data -/
mutual
inductive DW (S : Sto) : W → PyData → Prop
  | non : DW S .non .none
  | bl (b : Bool) : DW S (.bl b) (.bool b)
  | int (i : Int) : DW S (.int i) (.int i)
  | str (x : Str) : DW S (.str x) (.str x)
  | tup {ws : List W} {ds : List PyData} (r : DWs S ws ds) : DW S (.tup ws) (.tuple ds)
  | lst {i : Nat} {ws : List W} {ds : List PyData} (h : S[i]? = some (.lst ws)) (r : DWs S ws ds) : DW S (.ref i) (.list ds)
inductive DWs (S : Sto) : List W → List PyData → Prop
  | nil : DWs S [] []
  | cons {w : W} {d : PyData} {ws : List W} {ds : List PyData} (h : DW S w d) (r : DWs S ws ds) : DWs S (w :: ws) (d :: ds)
end
section
variable {K : PySem.W.Frag} {T : List (Addr × Str)} {H : Hp} {ρ : List Addr} {S : Sto}
mutual
theorem dw_dp (r : Rep K T H ρ S) : ∀ {d : PyData} {w : W} {v : V}, DW S w d → RW K H ρ w v → Dp K H v d
  | _, _, _, .non, h => by cases h; exact .non
  | _, _, _, .bl b, h => by cases h; exact .bl b
  | _, _, _, .int i, h => by cases h; exact .int i
  | _, _, _, .str x, h => by cases h; exact .str x
  | _, _, _, .tup q, h => by
    cases h with
    | tup hs hr => exact .tup hs (dws_dp r q hr)
  | _, _, _, .lst hi q, h => by
    cases h with
    | ref hr =>
      obtain ⟨vs, h1, h2⟩ := r.ob _ _ _ hi hr
      exact .lst (SqL.of h1) (dws_dp r q h2)
theorem dws_dp (r : Rep K T H ρ S) : ∀ {ds : List PyData} {ws : List W} {vs : List V}, DWs S ws ds → RWs K H ρ ws vs → DpAll K H vs ds
  | _, _, _, .nil, h => by cases h; exact .nil
  | _, _, _, .cons a b, h => by
    cases h with
    | cons h1 h2 => exact .cons (dw_dp r a h1) (dws_dp r b h2)
end
end
mutual
/-- no numbers of objects in it -/
def W.pure : W → Bool
  | .tup xs => pureL xs
  | .ref _ => false
  | .ty _ => false
  | _ => true
def pureL : List W → Bool
  | [] => true
  | x :: r => W.pure x && pureL r
end
mutual
def W.dat : W → PyData
  | .non => .none
  | .bl b => .bool b
  | .int i => .int i
  | .str x => .str x
  | .tup xs => .tuple (datL xs)
  | .ref _ => .none
  | .ty _ => .none
def datL : List W → List PyData
  | [] => []
  | x :: r => W.dat x :: datL r
end
mutual
theorem dw_pure {S : Sto} : ∀ {w : W}, w.pure = true → DW S w w.dat
  | .non, _ => .non
  | .bl b, _ => .bl b
  | .int i, _ => .int i
  | .str x, _ => .str x
  | .tup xs, h => .tup (dws_pure (by simpa only [W.pure] using h))
  | .ref _, h => by simp only [W.pure] at h; cases h
  | .ty _, h => by simp only [W.pure] at h; cases h
theorem dws_pure {S : Sto} : ∀ {ws : List W}, pureL ws = true → DWs S ws (datL ws)
  | [], _ => .nil
  | w :: r, h => by
    simp only [pureL, Bool.and_eq_true] at h
    exact .cons (dw_pure h.1) (dws_pure h.2)
end
theorem datL_map : ∀ (ws : List W), datL ws = ws.map W.dat
  | [] => rfl
  | w :: r => by rw [datL, datL_map r]; rfl
theorem pureL_all : ∀ (ws : List W), pureL ws = ws.all W.pure
  | [] => rfl
  | w :: r => by rw [pureL, pureL_all r]; rfl
/-! ### equality -/
/-- scalars that are compared at once -/
def scW : W → W → Bool
  | .non, .non => true | .non, .int _ => true | .int _, .non => true | .non, .bl _ => true | .bl _, .non => true | .non, .str _ => true | .str _, .non => true
  | .int _, .int _ => true | .bl _, .bl _ => true | .str _, .str _ => true
  | .int _, .str _ => true | .str _, .int _ => true | .bl _, .str _ => true | .str _, .bl _ => true
  | _, _ => false
def eqS : W → W → Bool
  | .non, .non => true
  | .bl a, .bl b => decide (a = b)
  | .int a, .int b => decide (a = b)
  | .str a, .str b => decide (a = b)
  | _, _ => false
def rEqW : MR2 := fun x y S P => ∃ b, ((scW x y = true ∧ b = eqS x y) ∨ ∃ d e, DW S x d ∧ DW S y e ∧ SeqAt.shaped d = true ∧ SeqAt.shaped e = true ∧ b = PyData.eqv d e) ∧ P (.bl b) S
def rNeW : MR2 := fun x y S P => rEqW x y S fun w S' => ∃ b, w = .bl b ∧ P (.bl (!b)) S'
section
variable {X : Cx} {T : List (Addr × Str)}
theorem sc_v {K : PySem.W.Frag} {H : Hp} {ρ : List Addr} {x y : W} {u v : V} (h : scW x y = true) (hx : RW K H ρ x u) (hy : RW K H ρ y v) : scal u v = true ∧ eqS x y = decide (u = v) := by
  cases hx <;> cases hy <;> first
    | (cases h; done)
    | exact ⟨rfl, by simp [eqS]⟩
theorem ow_eq (hu : X.A.units + 64 < cLine) : OpW X T (compareOp .Eq) rEqW := opr_weak (opr_or op_eq (op_eqD hu)) fun x y H Q ⟨ρ, S, wx, wy, P, r, hx, hy, h, k⟩ => by
  obtain ⟨b, h, p⟩ := h
  rcases h with ⟨h1, rfl⟩ | ⟨d, e, h1, h2, h3, h4, rfl⟩
  · obtain ⟨q1, q2⟩ := sc_v h1 hx hy
    exact .inl ⟨q1, by rw [← q2]; exact k.at r (.bl _) p⟩
  · exact .inr ⟨d, e, dw_dp r h1 hx, dw_dp r h2 hy, h3, h4, k.at r (.bl _) p⟩
theorem ow_ne (hu : X.A.units + 64 < cLine) : OpW X T (compareOp .NotEq) rNeW := opr_weak (opr_or op_ne (op_neD hu)) fun x y H Q ⟨ρ, S, wx, wy, P, r, hx, hy, h, k⟩ => by
  obtain ⟨b, h, b', e', p⟩ := h
  cases e'
  rcases h with ⟨h1, rfl⟩ | ⟨d, e, h1, h2, h3, h4, rfl⟩
  · obtain ⟨q1, q2⟩ := sc_v h1 hx hy
    exact .inl ⟨q1, by rw [← q2]; exact k.at r (.bl _) p⟩
  · exact .inr ⟨d, e, dw_dp r h1 hx, dw_dp r h2 hy, h3, h4, k.at r (.bl _) p⟩
/-! ### whole numbers, texts, tuples, lists: + - * // % ** -/
def rAddW : MR2 := fun x y S P => match x, y with
  | .int i, .int j => P (.int (i + j)) S
  | .str a, .str b => a.length + b.length ≤ sizeLine ∧ P (.str (a ++ b)) S
  | .tup a, .tup b => a ≠ [] ∧ a.length + b.length ≤ sizeLine ∧ P (.tup (a ++ b)) S
  | .ref a, .ref b => ∃ xs ys, S[a]? = some (.lst xs) ∧ S[b]? = some (.lst ys) ∧ xs.length + ys.length ≤ sizeLine ∧ P (.ref S.length) (S ++ [.lst (xs ++ ys)])
  | _, _ => False
theorem ow_add : OpW X T (binaryOp .Add) rAddW := opr_weak (opr_or op_add (opr_or op_add_str (opr_or op_catT op_cat))) fun x y H Q ⟨ρ, S, wx, wy, P, r, hx, hy, h, k⟩ => by
  cases hx with
  | int i =>
    cases hy with
    | int j => exact .inl ⟨i, j, rfl, rfl, k.at r (.int _) h⟩
    | _ => exact h.elim
  | str a =>
    cases hy with
    | str b => exact .inr (.inl ⟨a, b, rfl, rfl, h.1, k.at r (.str _) h.2⟩)
    | _ => exact h.elim
  | tup ha ra =>
    cases hy with
    | tup hb rb =>
      obtain ⟨n, l, p⟩ := h
      refine .inr (.inr (.inl ⟨_, _, _, _, rfl, rfl, ha, hb, fun e => n ?_, by rw [← ra.length, ← rb.length]; exact l, fun e => ?_, fun _ q hq => ?_⟩))
      · rw [e] at ra
        cases ra
        rfl
      · rw [e] at rb
        cases rb
        rw [List.append_nil] at p
        exact k.at r (.tup ha ra) p
      · exact k.tup r (ra.app rb) hq p
    | _ => exact h.elim
  | ref ha =>
    cases hy with
    | ref hb =>
      obtain ⟨xs, ys, h1, h2, l, p⟩ := h
      obtain ⟨vs1, e1, r1⟩ := r.ob _ _ _ h1 ha
      obtain ⟨vs2, e2, r2⟩ := r.ob _ _ _ h2 hb
      exact .inr (.inr (.inr ⟨_, _, vs1, vs2, rfl, rfl, e1, e2, by rw [← r1.length, ← r2.length]; exact l, fun q hq => k.lst r (r1.app r2) hq p⟩))
    | _ => exact h.elim
  | _ => exact h.elim
def rSubW : MR2 := fun x y S P => match x, y with
  | .int i, .int j => P (.int (i - j)) S
  | _, _ => False
theorem ow_sub : OpW X T (binaryOp .Sub) rSubW := opr_weak op_sub fun x y H Q ⟨ρ, S, wx, wy, P, r, hx, hy, h, k⟩ => by
  cases hx <;> cases hy <;> first | exact h.elim | exact ⟨_, _, rfl, rfl, k.at r (.int _) h⟩
def rMulW : MR2 := fun x y S P => match x, y with
  | .int i, .int j => CMul i j ∧ P (.int (i * j)) S
  | .ref a, .int n => ∃ xs, S[a]? = some (.lst xs) ∧ -(2 ^ 63) ≤ n ∧ n < 2 ^ 63 ∧ xs.length * n.toNat ≤ sizeLine ∧ P (.ref S.length) (S ++ [.lst (List.replicate n.toNat xs).flatten])
  | _, _ => False
theorem rws_rep {K : PySem.W.Frag} {H : Hp} {ρ : List Addr} {ws : List W} {vs : List V} (h : RWs K H ρ ws vs) : ∀ n : Nat, RWs K H ρ (List.replicate n ws).flatten (List.replicate n vs).flatten
  | 0 => .nil
  | n + 1 => by
    rw [List.replicate_succ, List.replicate_succ, List.flatten_cons, List.flatten_cons]
    exact h.app (rws_rep h n)
theorem ow_mul : OpW X T (binaryOp .Mult) rMulW := opr_weak (opr_or op_mul op_rep) fun x y H Q ⟨ρ, S, wx, wy, P, r, hx, hy, h, k⟩ => by
  cases hx with
  | int i =>
    cases hy with
    | int j => exact .inl ⟨i, j, rfl, rfl, h.1, k.at r (.int _) h.2⟩
    | _ => exact h.elim
  | ref ha =>
    cases hy with
    | int j =>
      obtain ⟨xs, h1, h2, h3, h4, p⟩ := h
      obtain ⟨vs1, e1, r1⟩ := r.ob _ _ _ h1 ha
      exact .inr ⟨_, j, vs1, rfl, rfl, e1, h2, h3, by rw [← r1.length]; exact h4, fun q hq => k.lst r (rws_rep r1 _) hq p⟩
    | _ => exact h.elim
  | _ => exact h.elim
def rDivW : MR2 := fun x y S P => match x, y with
  | .int i, .int j => (0 < j ∧ j < 1073741824) ∧ P (.int (i / j)) S
  | _, _ => False
theorem ow_div : OpW X T (binaryOp .FloorDiv) rDivW := opr_weak op_fdiv fun x y H Q ⟨ρ, S, wx, wy, P, r, hx, hy, h, k⟩ => by
  cases hx <;> cases hy <;> first | exact h.elim | exact ⟨_, _, rfl, rfl, h.1, k.at r (.int _) h.2⟩
def rModW : MR2 := fun x y S P => match x, y with
  | .int i, .int j => 0 < j ∧ P (.int (i % j)) S
  | _, _ => False
theorem ow_mod : OpW X T (binaryOp .Mod) rModW := opr_weak op_mod fun x y H Q ⟨ρ, S, wx, wy, P, r, hx, hy, h, k⟩ => by
  cases hx <;> cases hy <;> first | exact h.elim | exact ⟨_, _, rfl, rfl, h.1, k.at r (.int _) h.2⟩
def rPowW : MR2 := fun x y S P => match x, y with
  | .int i, .int j => CPow i j ∧ P (.int (i ^ j.toNat)) S
  | _, _ => False
theorem ow_pow : OpW X T (binaryOp .Pow) rPowW := opr_weak op_pow fun x y H Q ⟨ρ, S, wx, wy, P, r, hx, hy, h, k⟩ => by
  cases hx <;> cases hy <;> first | exact h.elim | exact ⟨_, _, rfl, rfl, h.1, k.at r (.int _) h.2⟩
/-! ### order -/
def rLtW : MR2 := fun x y S P => match x, y with
  | .int i, .int j => P (.bl (decide (i < j))) S
  | .str i, .str j => P (.bl (decide (i.cps.toList < j.cps.toList))) S
  | _, _ => False
theorem ow_lt : OpW X T (compareOp .Lt) rLtW := opr_weak (opr_or op_lt op_lt_str) fun x y H Q ⟨ρ, S, wx, wy, P, r, hx, hy, h, k⟩ => by
  cases hx <;> cases hy <;> first | exact h.elim | exact .inl ⟨_, _, rfl, rfl, k.at r (.bl _) h⟩ | exact .inr ⟨_, _, rfl, rfl, k.at r (.bl _) h⟩
def rLeW : MR2 := fun x y S P => match x, y with
  | .int i, .int j => P (.bl (decide (i ≤ j))) S
  | _, _ => False
theorem ow_le : OpW X T (compareOp .LtE) rLeW := opr_weak op_le fun x y H Q ⟨ρ, S, wx, wy, P, r, hx, hy, h, k⟩ => by
  cases hx <;> cases hy <;> first | exact h.elim | exact ⟨_, _, rfl, rfl, k.at r (.bl _) h⟩
def rGtW : MR2 := fun x y S P => match x, y with
  | .int i, .int j => P (.bl (decide (j < i))) S
  | _, _ => False
theorem ow_gt : OpW X T (compareOp .Gt) rGtW := opr_weak op_gt fun x y H Q ⟨ρ, S, wx, wy, P, r, hx, hy, h, k⟩ => by
  cases hx <;> cases hy <;> first | exact h.elim | exact ⟨_, _, rfl, rfl, k.at r (.bl _) h⟩
def rGeW : MR2 := fun x y S P => match x, y with
  | .int i, .int j => P (.bl (decide (j ≤ i))) S
  | _, _ => False
theorem ow_ge : OpW X T (compareOp .GtE) rGeW := opr_weak op_ge fun x y H Q ⟨ρ, S, wx, wy, P, r, hx, hy, h, k⟩ => by
  cases hx <;> cases hy <;> first | exact h.elim | exact ⟨_, _, rfl, rfl, k.at r (.bl _) h⟩
/-! ### is -/
def isN : W → Bool
  | .non => true
  | _ => false
def rIsW : MR2 := fun x y S P => match x, y with
  | x, .non => P (.bl (isN x)) S
  | .bl a, .bl b => P (.bl (decide (a = b))) S
  | _, _ => False
theorem isN_v {K : PySem.W.Frag} {H : Hp} {ρ : List Addr} {w : W} {v : V} (h : RW K H ρ w v) : decide (v = .non) = isN w := by cases h <;> rfl
theorem ow_is : OpW X T (compareOp .Is) rIsW := opr_weak (opr_or op_isN op_isBl) fun x y H Q ⟨ρ, S, wx, wy, P, r, hx, hy, h, k⟩ => by
  cases hy with
  | non =>
    refine .inl ⟨rfl, ?_⟩
    rw [isN_v hx]
    exact k.at r (.bl _) (by cases hx <;> exact h)
  | bl b =>
    cases hx with
    | bl a => exact .inr ⟨a, b, rfl, rfl, k.at r (.bl _) h⟩
    | _ => exact h.elim
  | _ => cases hx <;> exact h.elim
def rIsntW : MR2 := fun x y S P => match x, y with
  | x, .non => P (.bl (!isN x)) S
  | .bl a, .bl b => P (.bl (!decide (a = b))) S
  | _, _ => False
theorem ow_isnt : OpW X T (compareOp .IsNot) rIsntW := opr_weak (opr_or op_notN op_notBl) fun x y H Q ⟨ρ, S, wx, wy, P, r, hx, hy, h, k⟩ => by
  cases hy with
  | non =>
    refine .inl ⟨rfl, ?_⟩
    rw [isN_v hx]
    exact k.at r (.bl _) (by cases hx <;> exact h)
  | bl b =>
    cases hx with
    | bl a => exact .inr ⟨a, b, rfl, rfl, k.at r (.bl _) h⟩
    | _ => exact h.elim
  | _ => cases hx <;> exact h.elim
end
end PL
set_option Elab.async false
set_option linter.all false
set_option maxRecDepth 100000
set_option maxHeartbeats 4000000
/-! ## statements, targets, loops, comprehensions over the plain store -/
namespace PL
open PySem PySem.Spec PyProof.Rows L2 LamX
def mNext : MS := fun E τ S => E.nx τ S
def mSeq (m n : MS) : MS := fun E τ S => m { E with nx := n E } τ S
def mBrk : MS := fun E τ S => E.bk τ S
def mCont : MS := fun E τ S => E.ct τ S
def mDrop (m : ME) : MS := fun E τ S => m τ S fun _ S1 => E.nx τ S1
def mRet (m : ME) : MS := fun E τ S => m τ S E.rt
def mRetN : MS := fun E _ S => E.rt .non S
def mIfS (c : MT) (a b : MS) : MS := fun E τ S => c τ S fun k S1 => if k = true then a E τ S1 else b E τ S1
def mSet (i : Nat) (m : ME) : MS := fun E τ S => m τ S fun w S1 => E.nx (τ.set i (some w)) S1
def mNever : MS := fun _ _ _ => False
/-! ### targets -/
inductive Tg where
  | nm (i : Nat) | tp (ts : List Tg)
mutual
def setT (S : Sto) : Tg → W → Lo → Option Lo
  | .nm i, w, τ => some (τ.set i (some w))
  | .tp ts, .tup ws, τ => setTs S ts ws τ
  | .tp ts, .ref i, τ => match S[i]? with
    | some (.lst ws) => setTs S ts ws τ
    | _ => none
  | .tp _, _, _ => none
def setTs (S : Sto) : List Tg → List W → Lo → Option Lo
  | [], [], τ => some τ
  | t :: ts, w :: ws, τ => match setT S t w τ with
    | some τ' => setTs S ts ws τ'
    | none => none
  | _, _, _ => none
end
mutual
def gT (K : PySem.W.Frag) : Tg → TG
  | .nm i => gName i
  | .tp ts => fun v σ H Q => gTup K ts.length (gTs K ts) v σ H Q ∨ gLst K ts.length (gTs K ts) v σ H Q
def gTs (K : PySem.W.Frag) : List Tg → TGs
  | [] => gNil
  | t :: ts => gCons (gT K t) (gTs K ts)
end
mutual
def slT : Tg → List Nat
  | .nm i => [i]
  | .tp ts => slTs ts
def slTs : List Tg → List Nat
  | [] => []
  | t :: ts => slT t ++ slTs ts
end
theorem wipe_get (σ : L2.St) (j : Nat) : ∀ vs : List Nat, (wipe σ vs)[j]? = if j ∈ vs then (σ[j]?).map (fun _ => none) else σ[j]?
  | [] => by simp [wipe]
  | v :: vs => by
    unfold wipe
    by_cases e : v = j
    · subst e
      rw [if_pos List.mem_cons_self]
      by_cases lt : v < (wipe σ vs).length
      · rw [List.getElem?_set_self lt]
        rw [wipe_length] at lt
        rw [List.getElem?_eq_getElem lt]
        rfl
      · rw [List.getElem?_eq_none (by simpa using lt)]
        rw [wipe_length] at lt
        rw [List.getElem?_eq_none (by omega)]
        rfl
    · rw [List.getElem?_set_ne e, wipe_get σ j vs]
      have : j ∈ v :: vs ↔ j ∈ vs := by simp [Ne.symm e]
      simp only [this]
theorem wipe_setS {σ : L2.St} {i : Nat} {x : Option V} {vs : List Nat} (h : i ∈ vs) : wipe (σ.set i x) vs = wipe σ vs := by
  apply List.ext_getElem?
  intro j
  rw [wipe_get, wipe_get]
  by_cases e : i = j
  · subst e
    rw [if_pos h, if_pos h]
    by_cases lt : i < σ.length
    · rw [List.getElem?_set_self lt, List.getElem?_eq_getElem lt]
      rfl
    · rw [List.getElem?_eq_none (by simpa using lt), List.getElem?_eq_none (by simpa using lt)]
  · rw [List.getElem?_set_ne e]
section
variable {K : PySem.W.Frag} {T : List (Addr × Str)} {H : Hp} {ρ : List Addr} {S : Sto}
mutual
theorem gT_ok (rr : Rep K T H ρ S) : ∀ (t : Tg) {w : W} {v : V} {τ τ' : Lo} {σ : L2.St} {Q : L2.St → Hp → Prop}, RSt K H ρ τ σ → RW K H ρ w v → setT S t w τ = some τ' →
    (∀ σ', RSt K H ρ τ' σ' → (∀ vs, (∀ i ∈ slT t, i ∈ vs) → wipe σ' vs = wipe σ vs) → Q σ' H) → gT K t v σ H Q
  | .nm i, w, v, τ, τ', σ, Q, s, hw, e, q => by
    have e' : τ.set i (some w) = τ' := by simpa only [setT, Option.some.injEq] using e
    subst e'
    have z := q (σ.set i (some v)) (s.set hw i) fun vs h => wipe_setS (h i (by simp [slT]))
    simp only [gT]
    exact z
  | .tp ts, w, v, τ, τ', σ, Q, s, hw, e, q => by
    cases hw with
    | tup hs hr =>
      rename_i a vs ws
      have e' : setTs S ts ws τ = some τ' := by simpa only [setT] using e
      obtain ⟨l, z⟩ := gTs_ok rr ts s hr e' (Q := Q) fun σ' s' hv => q σ' s' fun vs h => hv vs (by simpa only [slT] using h)
      simp only [gT]
      exact .inl ⟨_, _, rfl, hs, l.symm, z⟩
    | ref hi =>
      simp only [setT] at e
      split at e
      · rename_i us eo
        obtain ⟨vs, q1, q2⟩ := rr.ob _ _ _ eo hi
        obtain ⟨l, z⟩ := gTs_ok rr ts s q2 e (Q := Q) fun σ' s' hv => q σ' s' fun vs h => hv vs (by simpa only [slT] using h)
        simp only [gT]
        exact .inr ⟨_, vs, rfl, SqL.of q1, l.symm, z⟩
      · cases e
    | _ => simp only [setT] at e; cases e
theorem gTs_ok (rr : Rep K T H ρ S) : ∀ (ts : List Tg) {ws : List W} {vs : List V} {τ τ' : Lo} {σ : L2.St} {Q : L2.St → Hp → Prop}, RSt K H ρ τ σ → RWs K H ρ ws vs → setTs S ts ws τ = some τ' →
    (∀ σ', RSt K H ρ τ' σ' → (∀ vs, (∀ i ∈ slTs ts, i ∈ vs) → wipe σ' vs = wipe σ vs) → Q σ' H) → ts.length = vs.length ∧ gTs K ts vs σ H Q
  | [], ws, vs, τ, τ', σ, Q, s, hw, e, q => by
    cases hw with
    | nil =>
      simp only [setTs, Option.some.injEq] at e
      subst e
      exact ⟨rfl, by simp only [gTs]; exact ⟨rfl, q σ s fun _ _ => rfl⟩⟩
    | cons _ _ => simp only [setTs] at e; cases e
  | t :: ts, ws, vs, τ, τ', σ, Q, s, hw, e, q => by
    cases hw with
    | nil => simp only [setTs] at e; cases e
    | cons h1 h2 =>
      rename_i w v ws vs
      simp only [setTs] at e
      cases c : setT S t w τ with
      | none => rw [c] at e; cases e
      | some τ1 =>
        rw [c] at e
        have len : ts.length = vs.length := by
          have : ∀ (ts : List Tg) (ws : List W) (τ τ' : Lo), setTs S ts ws τ = some τ' → ts.length = ws.length := by
            intro ts
            induction ts with
            | nil => intro ws τ τ' e; cases ws with
              | nil => rfl
              | cons _ _ => simp only [setTs] at e; cases e
            | cons t ts ih => intro ws τ τ' e; cases ws with
              | nil => simp only [setTs] at e; cases e
              | cons w ws =>
                simp only [setTs] at e
                cases c : setT S t w τ with
                | none => rw [c] at e; cases e
                | some τ2 => rw [c] at e; simp [ih _ _ _ e]
          rw [this _ _ _ _ e, h2.length]
        refine ⟨by simp [len], ?_⟩
        simp only [gTs]
        refine ⟨v, vs, rfl, gT_ok rr t s h1 c fun σ1 s1 hv1 => ?_⟩
        refine (gTs_ok rr ts s1 h2 e fun σ2 s2 hv2 => q σ2 s2 fun vs h => ?_).2
        rw [hv2 vs fun i hi => h i (by simp only [slTs]; exact List.mem_append_right _ hi), hv1 vs fun i hi => h i (by simp only [slTs]; exact List.mem_append_left _ hi)]
end
end
def mAsg (m : ME) (t : Tg) : MS := fun E τ S => m τ S fun w S1 => ∃ τ', setT S1 t w τ = some τ' ∧ E.nx τ' S1
section
variable {X : Cx} {T : List (Addr × Str)} {pos : Pos}
def IG (X : Cx) (e : Expr) (t : Tg) : Prop := PG X e (gT X.K t)
def IGs (X : Cx) (es : List Expr) (ts : List Tg) : Prop := PGs X es (gTs X.K ts)
theorem ig_nm {i : Nat} {x : Str} (hN : X.N.Nodup) (hi : X.N[i]? = some x) (hx : Loc X.env.scope x) (hf : X.fn x = true ∨ X.env.scope.names.lookup x = some .local := by first | exact .inl rfl | exact .inr rfl | assumption) : IG X (.Name x pos) (.nm i) := by
  have z := pg_name (pos := pos) hN hi hx hf
  unfold IG
  simp only [gT]
  exact z
theorem igs_nil : IGs X [] [] := by
  unfold IGs
  simp only [gTs]
  exact pgs_nil
theorem igs_cons {e : Expr} {es : List Expr} {t : Tg} {ts : List Tg} (h1 : IG X e t) (h2 : IGs X es ts) (hs : (assignEach (e :: es) X.env).map (·.2) = assign e X.env :: (assignEach es X.env).map (·.2) := by rfl) : IGs X (e :: es) (t :: ts) := by
  unfold IGs
  simp only [gTs]
  exact pgs_cons h1 h2 hs
theorem ig_tp {es : List Expr} {k : Nat} {ts : List Tg} (hc : X.calm = true) (h : IGs X es ts) (hn : (assignEach es X.env).length = ts.length := by rfl) (hst : (assignEach es X.env).findIdx? (·.1) = none := by rfl) : IG X (.Tuple es k pos) (.tp ts) := by
  unfold IG
  simp only [gT]
  have z1 := pg_tup (pos := pos) (k := k) hc h hn hst
  have z2 := pg_lst (pos := pos) (k := k) hc h hn hst
  exact ⟨fun pins s σ H v u Q I r q => q.elim (z1.run pins s σ H v u Q I r) (z2.run pins s σ H v u Q I r)⟩
end
/-! ### statements -/
section
variable {K : PySem.W.Frag} {T : List (Addr × Str)} {σ : L2.St} {H : Hp} {D : Ends}
theorem lifts_seq {m n : MS} (h : liftS K T (mSeq m n) D σ H) : tSeq (liftS K T m) (liftS K T n) D σ H := by
  obtain ⟨ρ, τ, S, E, r, s, h, k⟩ := h
  exact ⟨ρ, τ, S, _, r, s, h, ⟨fun τ' S' σ' ρ' H' hp st r' s' => ⟨ρ', τ', S', E, r', s', hp, k.stp st⟩, k.rt, k.bk, k.ct⟩⟩
theorem lifts_next (h : liftS K T mNext D σ H) : tNext D σ H := by
  obtain ⟨ρ, τ, S, E, r, s, h, k⟩ := h
  exact k.nx _ _ _ _ _ h (Stp.refl _ _) r s
theorem lifts_drop {m : ME} (h : liftS K T (mDrop m) D σ H) : tDrop (liftE K T m) D σ H := by
  obtain ⟨ρ, τ, S, E, r, s, h, k⟩ := h
  exact ⟨ρ, τ, S, _, r, s, h, fun w S' v ρ' H' hp st r' hw => k.nx _ _ _ _ _ hp st r' (s.stp r st)⟩
theorem lifts_ret {m : ME} (h : liftS K T (mRet m) D σ H) : tRet (liftE K T m) D σ H := by
  obtain ⟨ρ, τ, S, E, r, s, h, k⟩ := h
  exact ⟨ρ, τ, S, _, r, s, h, k.rt⟩
theorem lifts_if {c : MT} {a b : MS} (h : liftS K T (mIfS c a b) D σ H) : tIfS (liftT K T c) (liftS K T a) (liftS K T b) D σ H := by
  obtain ⟨ρ, τ, S, E, r, s, h, k⟩ := h
  refine ⟨ρ, τ, S, _, r, s, h, fun c S' ρ' H' hp st r' => ?_⟩
  cases c with
  | true =>
    rw [if_pos rfl] at hp ⊢
    exact ⟨ρ', τ, S', E, r', s.stp r st, hp, k.stp st⟩
  | false =>
    rw [if_neg Bool.false_ne_true] at hp ⊢
    exact ⟨ρ', τ, S', E, r', s.stp r st, hp, k.stp st⟩
theorem lifts_set {m : ME} {i : Nat} (h : liftS K T (mSet i m) D σ H) : tAsg (liftE K T m) (gName i) D σ H := by
  obtain ⟨ρ, τ, S, E, r, s, h, k⟩ := h
  exact ⟨ρ, τ, S, _, r, s, h, fun w S' v ρ' H' hp st r' hw => k.nx _ _ _ _ _ hp st r' ((s.stp r st).set hw i)⟩
theorem lifts_asg {m : ME} {t : Tg} (h : liftS K T (mAsg m t) D σ H) : tAsg (liftE K T m) (gT K t) D σ H := by
  obtain ⟨ρ, τ, S, E, r, s, h, k⟩ := h
  refine ⟨ρ, τ, S, _, r, s, h, fun w S' v ρ' H' hp st r' hw => ?_⟩
  obtain ⟨τ', e, p⟩ := hp
  exact gT_ok r' t (s.stp r st) hw e fun σ' s' _ => k.nx _ _ _ _ _ p st r' s'
end
section
variable {X : Cx} {T : List (Addr × Str)} {st : Stmt} {rest a b : List Stmt} {m n : MS} {e c : Expr} {me : ME} {mt : MT} {pos : Pos}
theorem iss_nil : ISs X T [] mNext := pss_nil.weak fun _ _ _ => lifts_next
theorem iss_cons (h1 : IS X T st m) (h2 : ISs X T rest n) : ISs X T (st :: rest) (mSeq m n) := (pss_cons h1 h2).weak fun _ _ _ => lifts_seq
theorem iss_one (h1 : IS X T st m) : ISs X T [st] m := pss_one h1
theorem is_pass : IS X T (.Pass pos) mNext := ps_pass.weak fun _ _ _ => lifts_next
theorem is_break : IS X T (.Break pos) mBrk := ps_break.weak fun _ _ _ ⟨ρ, τ, S, E, r, s, h, k⟩ => k.bk _ _ _ _ _ h (Stp.refl _ _) r s
theorem is_continue : IS X T (.Continue pos) mCont := ps_continue.weak fun _ _ _ ⟨ρ, τ, S, E, r, s, h, k⟩ => k.ct _ _ _ _ _ h (Stp.refl _ _) r s
theorem is_doc {x : Str} {j : Nat} {pos' : Pos} : IS X T (.Expr (.Constant (.str x) j pos) pos') mNext := ps_doc.weak fun _ _ _ => lifts_next
theorem is_expr (he : IE X T e me) (hs : swapsWith e none pos.line X.env = pure false := by rfl) : IS X T (.Expr e pos) (mDrop me) := (ps_expr he hs).weak fun _ _ _ => lifts_drop
theorem is_ret (he : IE X T e me) : IS X T (.Return (some e) pos) (mRet me) := (ps_ret he).weak fun _ _ _ => lifts_ret
theorem is_retN : IS X T (.Return none pos) mRetN := ps_retN.weak fun _ _ _ ⟨ρ, τ, S, E, r, s, h, k⟩ => k.rt.at r .non h
theorem is_if (hc : IT X T c mt) (ha : ISs X T a m) (hb : ISs X T b n) : IS X T (.If c a b pos) (mIfS mt m n) := (ps_if hc ha hb).weak fun _ _ _ => lifts_if
theorem is_never : IS X T st mNever := ⟨fun _ _ _ _ _ _ ⟨_, _, _, _, _, _, h, _⟩ => h.elim⟩
theorem is_set {i : Nat} {x : Str} {pos' : Pos} (hN : X.N.Nodup) (hi : X.N[i]? = some x) (hx : Loc X.env.scope x) (he : IE X T e me) (hs : swapsWith e (some (.Name x pos')) pos.line X.env = pure false := by rfl) (hf : X.fn x = true ∨ X.env.scope.names.lookup x = some .local := by first | exact .inl rfl | exact .inr rfl | assumption) :
    IS X T (.Assign [.Name x pos'] e pos) (mSet i me) := (ps_set hN hi hx he hs hf).weak fun _ _ _ => lifts_set
theorem is_asg {tg : Expr} {t : Tg} (he : IE X T e me) (hg : IG X tg t) (hs : swapsWithSole [tg] e pos.line X.env = pure false := by rfl) (hw : swappedStores [tg] e X.env = pure none := by rfl)
    (h1 : (assignEach [tg] X.env).map (·.2) = [assign tg X.env] := by rfl) : IS X T (.Assign [tg] e pos) (mAsg me t) := (ps_asg he hg hs hw h1).weak fun _ _ _ => lifts_asg
def mPar (i j : Nat) (ma mb : ME) : MS := fun E τ S => ma τ S fun v S1 => mb τ S1 fun w S2 => E.nx ((τ.set i (some v)).set j (some w)) S2
theorem is_par {i j : Nat} {x y : Str} {a b : Expr} {ma mb : ME} {px py pt : Pos} {kt k2 pt2} (hc : X.calm = true) (hN : X.N.Nodup) (hi : X.N[i]? = some x) (hj : X.N[j]? = some y) (hij : i ≠ j)
    (hx : X.env.scope.names.lookup x = some .local) (hy : X.env.scope.names.lookup y = some .local) (ha : IE X T a ma) (hb : IE X T b mb)
    (hw : swappedStores [.Tuple [.Name x px, .Name y py] kt pt] (.Tuple [a, b] k2 pt2) X.env = pure (some [x, y])) (hsa : starEach [a, b] X.env = (false, eval a X.env) :: starEach [b] X.env := by rfl) (hsb : starEach [b] X.env = (false, eval b X.env) :: starEach [] X.env := by rfl)
    (hs : swapsWithSole [.Tuple [.Name x px, .Name y py] kt pt] (.Tuple [a, b] k2 pt2) pos.line X.env = pure false := by rfl) :
    IS X T (.Assign [.Tuple [.Name x px, .Name y py] kt pt] (.Tuple [a, b] k2 pt2) pos) (mPar i j ma mb) := (ps_par hc hN hi hj hij hx hy (pa_cons ha (pa_cons hb pa_nil hsb) hsa) hw hs).weak fun D σ H h => by
  obtain ⟨ρ, τ, S, E, r, s, h, k⟩ := h
  refine ⟨ρ, τ, S, _, r, s, h, fun w S' v ρ' H' hp st r' hw => ?_⟩
  refine ⟨ρ', τ, S', _, r', s.stp r st, hp, fun w2 S2 v2 ρ2 H2 hp2 st2 r2 hw2 => ?_⟩
  exact ⟨v, v2, rfl, k.nx _ _ _ _ _ hp2 (st.trans st2) r2 ((((s.stp r st).stp r' st2).set (hw.stp r' st2) i).set hw2 j)⟩
end
/-! ### sources -/
abbrev MI := Lo → Sto → ((Sto → Prop) → List W → Sto → Prop) → Prop
structure IsSrc (K : PySem.W.Frag) (T : List (Addr × Str)) (J : It) (ok : Sto → Prop) (ws : List W) (H0 : Hp) (ρ0 : List Addr) : Prop where
  go : ∀ (H : Hp) (ρ : List Addr) (S : Sto), Stp H0 ρ0 H ρ → Rep K T H ρ S → ok S → ∀ i, i < ws.length → J.go i H ∧ ∀ x H', J.yld i H x H' → ∃ w, ws[i]? = some w ∧ Stp H ρ H' ρ ∧ Rep K T H' ρ S ∧ RW K H' ρ w x
  stop : ∀ (H : Hp) (ρ : List Addr) (S : Sto), Stp H0 ρ0 H ρ → Rep K T H ρ S → ok S → J.stop ws.length H
theorem IsSrc.stp {K : PySem.W.Frag} {T : List (Addr × Str)} {J : It} {ok : Sto → Prop} {ws : List W} {H0 H1 : Hp} {ρ0 ρ1 : List Addr} (h : IsSrc K T J ok ws H0 ρ0) (st : Stp H0 ρ0 H1 ρ1) : IsSrc K T J ok ws H1 ρ1 :=
  ⟨fun H ρ S s => h.go H ρ S (st.trans s), fun H ρ S s => h.stop H ρ S (st.trans s)⟩
def liftI (K : PySem.W.Frag) (T : List (Addr × Str)) (m : MI) : TI := fun σ H R => ∃ (ρ : List Addr) (τ : Lo) (S : Sto) (P : (Sto → Prop) → List W → Sto → Prop), Rep K T H ρ S ∧ RSt K H ρ τ σ ∧ m τ S P ∧
  ∀ ok ws S' ρ' H' J, P ok ws S' → Stp H ρ H' ρ' → Rep K T H' ρ' S' → IsSrc K T J ok ws H' ρ' → R J H'
def II (X : Cx) (T : List (Addr × Str)) (tg e : Expr) (m : MI) : Prop := PI X tg e (liftI X.K T m)
theorem pi_weak {X : Cx} {tg e : Expr} {t t' : TI} (h : PI X tg e t) (w : ∀ σ H R, t' σ H R → t σ H R) : PI X tg e t' := ⟨fun pins s σ H R I q => h.run pins s σ H R I (w _ _ _ q)⟩
theorem pi_or {X : Cx} {tg e : Expr} {t t' : TI} (h : PI X tg e t) (h' : PI X tg e t') : PI X tg e (fun σ H R => t σ H R ∨ t' σ H R) := ⟨fun pins s σ H R I q => q.elim (h.run pins s σ H R I) (h'.run pins s σ H R I)⟩
/-- a list that is numbered, or a tuple -/
def mISq (m : ME) : MI := fun τ S P => m τ S fun w S1 => match w with
  | .ref i => ∃ ws, S1[i]? = some (.lst ws) ∧ P (fun S => S[i]? = some (.lst ws)) ws S1
  | .tup ws => P (fun _ => True) ws S1
  | _ => False
theorem src_list {K : PySem.W.Frag} {T : List (Addr × Str)} {H0 : Hp} {ρ0 : List Addr} {i : Nat} {a : Addr} {ws : List W} (h : ρ0[i]? = some a) : IsSrc K T (Itl K a) (fun S => S[i]? = some (.lst ws)) ws H0 ρ0 := by
  refine ⟨fun H ρ S st r ok j hj => ?_, fun H ρ S st r ok => ?_⟩
  · obtain ⟨vs, h1, h2⟩ := r.ob _ _ _ ok (st.get h)
    have w := walk_list (K := K) (a := a) (xs := vs)
    have hj' : j < vs.length := by rw [← h2.length]; exact hj
    refine ⟨w.goes j H hj' (SqL.of h1), fun x H' y => ?_⟩
    obtain ⟨rfl, hx⟩ := w.yields j H x H' hj' (SqL.of h1) y
    obtain ⟨v, e, hw⟩ := h2.get (List.getElem?_eq_getElem hj)
    rw [hx] at e
    cases e
    exact ⟨ws[j], List.getElem?_eq_getElem hj, Stp.refl _ _, r, hw⟩
  · obtain ⟨vs, h1, h2⟩ := r.ob _ _ _ ok (st.get h)
    rw [h2.length]
    exact (walk_list (K := K) (a := a) (xs := vs)).stops H (SqL.of h1)
/-- a tuple, a list that is not numbered: it stands -/
theorem src_tup {K : PySem.W.Frag} {T : List (Addr × Str)} {H0 : Hp} {ρ0 : List Addr} {S0 : Sto} {a : Addr} {ws : List W} {vs : List V} (r0 : Rep K T H0 ρ0 S0) (h1 : SqT K H0 a vs) (h2 : RWs K H0 ρ0 ws vs) : IsSrc K T (Itt K a) (fun _ => True) ws H0 ρ0 := by
  refine ⟨fun H ρ S st r ok j hj => ?_, fun H ρ S st r ok => ?_⟩
  · have w := walk_tup (K := K) (a := a) (xs := vs)
    have hj' : j < vs.length := by rw [← h2.length]; exact hj
    have q := sqt_stp r0 st h1
    refine ⟨w.goes j H hj' q, fun x H' y => ?_⟩
    obtain ⟨rfl, hx⟩ := w.yields j H x H' hj' q y
    obtain ⟨v, e, hw⟩ := (h2.stp r0 st).get (List.getElem?_eq_getElem hj)
    rw [hx] at e
    cases e
    exact ⟨ws[j], List.getElem?_eq_getElem hj, Stp.refl _ _, r, hw⟩
  · rw [h2.length]
    exact (walk_tup (K := K) (a := a) (xs := vs)).stops H (sqt_stp r0 st h1)
theorem src_tmp {K : PySem.W.Frag} {T : List (Addr × Str)} {H0 : Hp} {ρ0 : List Addr} {S0 : Sto} {a : Addr} {ws : List W} {vs : List V} (r0 : Rep K T H0 ρ0 S0) (h1 : H0 a = some (.lst vs)) (n : a ∉ ρ0) (h2 : RWs K H0 ρ0 ws vs) : IsSrc K T (Itl K a) (fun _ => True) ws H0 ρ0 := by
  have q : ∀ {H : Hp} {ρ : List Addr}, Stp H0 ρ0 H ρ → SqL K H a vs := fun st => SqL.of (st.frm a _ n h1 (fun _ z => nomatch z))
  refine ⟨fun H ρ S st r ok j hj => ?_, fun H ρ S st r ok => ?_⟩
  · have w := walk_list (K := K) (a := a) (xs := vs)
    have hj' : j < vs.length := by rw [← h2.length]; exact hj
    refine ⟨w.goes j H hj' (q st), fun x H' y => ?_⟩
    obtain ⟨rfl, hx⟩ := w.yields j H x H' hj' (q st) y
    obtain ⟨v, e, hw⟩ := (h2.stp r0 st).get (List.getElem?_eq_getElem hj)
    rw [hx] at e
    cases e
    exact ⟨ws[j], List.getElem?_eq_getElem hj, Stp.refl _ _, r, hw⟩
  · rw [h2.length]
    exact (walk_list (K := K) (a := a) (xs := vs)).stops H (q st)
/-- a list or a tuple, told when it has come -/
def iSeq (K : PySem.W.Frag) (tl : TE) : TI := fun σ H R => tl σ H fun x H1 => ∃ a, x = .ref a ∧ (((∃ xs, SqL K H1 a xs) ∧ R (Itl K a) H1) ∨ ((∃ xs, SqT K H1 a xs) ∧ R (Itt K a) H1))
theorem pi_seq {X : Cx} {tg l : Expr} {tl : TE} (hl : PE X l tl) : PI X tg l (iSeq X.K tl) := by
  refine ⟨fun pins s σ H R I h => ?_⟩
  refine thn (hl.run pins s σ H _ I h) fun v s1 ⟨x, H1, I1, r1, q1⟩ => ?_
  obtain ⟨a, e, q⟩ := q1
  subst e
  cases r1
  rcases q with ⟨⟨xs, hq⟩, q⟩ | ⟨⟨xs, hq⟩, q⟩
  · obtain ⟨its, rv, p, hz⟩ := I1.list hq
    refine wpAny_pyIter_list p.isList ?_
    refine ⟨s1.heap.objs.size, [s1.heap.objs.size], _, _, H1, rfl, I1.kept (t' := s1.toks) fun b o e => Heap.get?_push_of_some _ e, turn_list a _, ⟨_, Heap.get?_push_size _ rfl, rfl, rfl⟩, fun b hb => ?_, q⟩
    have e : b = s1.heap.objs.size := by simpa using hb
    subst e
    exact I1.fpOk (Nat.le_refl _) (I1.hok.fresh (Nat.le_refl _))
  · obtain ⟨its, rv, p, hz⟩ := I1.tuple hq
    refine wpAny_pyIter_tuple (show s1.heap.IsTuple a its.toArray from p) ?_
    refine ⟨s1.heap.objs.size, [s1.heap.objs.size], _, _, H1, rfl, I1.kept (t' := s1.toks) fun b o e => Heap.get?_push_of_some _ e, turn_tuple a _, ⟨_, Heap.get?_push_size _ rfl, rfl, rfl⟩, fun b hb => ?_, q⟩
    have e : b = s1.heap.objs.size := by simpa using hb
    subst e
    exact I1.fpOk (Nat.le_refl _) (I1.hok.fresh (Nat.le_refl _))
theorem ii_seq {X : Cx} {T : List (Addr × Str)} {tg e : Expr} {m : ME} (h : IE X T e m) : II X T tg e (mISq m) := pi_weak (pi_seq h) fun σ H R ⟨ρ, τ, S, P, r, s, h, k⟩ => by
  refine ⟨ρ, τ, S, _, r, s, h, fun w S' v ρ' H' hp st r' hw => ?_⟩
  cases hw with
  | ref hi =>
    obtain ⟨ws, e, p⟩ := hp
    obtain ⟨vs, h1, h2⟩ := r'.ob _ _ _ e hi
    exact ⟨_, rfl, .inl ⟨⟨vs, SqL.of h1⟩, k _ _ _ _ _ _ p st r' (src_list hi)⟩⟩
  | tup hs hr => exact ⟨_, rfl, .inr ⟨⟨_, hs⟩, k _ _ _ _ _ _ hp st r' (src_tup r' hs hr)⟩⟩
  | _ => exact hp.elim
/-! ### lists that are not numbered -/
abbrev ML := Lo → Sto → (List W → Sto → Prop) → Prop
def liftLs (K : PySem.W.Frag) (T : List (Addr × Str)) (m : ML) : TE := fun σ H Q => ∃ (ρ : List Addr) (τ : Lo) (S : Sto) (P : List W → Sto → Prop), Rep K T H ρ S ∧ RSt K H ρ τ σ ∧ m τ S P ∧
  ∀ ws S' p vs ρ' H', P ws S' → Stp H ρ H' ρ' → Rep K T H' ρ' S' → NT H p → p ∉ ρ' → H' p = some (.lst vs) → RWs K H' ρ' ws vs → Q (.ref p) H'
def IL (X : Cx) (T : List (Addr × Str)) (e : Expr) (m : ML) : Prop := PE X e (liftLs X.K T m)
def mNum (m : ML) : ME := fun τ S P => m τ S fun ws S1 => P (.ref S1.length) (S1 ++ [.lst ws])
/-- a list gets its number -/
theorem stp_num {K : PySem.W.Frag} {T : List (Addr × Str)} {H H' : Hp} {ρ ρ' : List Addr} {S' : Sto} {p : Addr} {vs : List V} {ws : List W} (st : Stp H ρ H' ρ') (r : Rep K T H' ρ' S') (h0 : NT H p) (n : p ∉ ρ') (h1 : H' p = some (.lst vs)) (h2 : RWs K H' ρ' ws vs) :
    Stp H ρ H' (ρ' ++ [p]) ∧ Rep K T H' (ρ' ++ [p]) (S' ++ [.lst ws]) := by
  have up : ∀ {w : W} {v : V}, RW K H' ρ' w v → RW K H' (ρ' ++ [p]) w v := by
    intro w v h
    have s2 : ∀ {i : Nat} {a : Addr}, ρ'[i]? = some a → (ρ' ++ [p])[i]? = some a := fun h => by rw [List.getElem?_append_left (List.getElem?_eq_some_iff.mp h).1]; exact h
    exact RW.rec (motive_1 := fun w v _ => RW K H' (ρ' ++ [p]) w v) (motive_2 := fun ws vs _ => RWs K H' (ρ' ++ [p]) ws vs) .non .bl .int .str (fun h _ q => .tup h q) (fun h => .ref (s2 h)) .ty .nil (fun _ _ a b => .cons a b) h
  have ups : ∀ {ws : List W} {vs : List V}, RWs K H' ρ' ws vs → RWs K H' (ρ' ++ [p]) ws vs := fun h => RWs.ofPaired (Paired.impS (fun _ _ z => up z) h.paired)
  have upo : ∀ {a : Addr} {o : O}, RO K H' ρ' a o → RO K H' (ρ' ++ [p]) a o := by
    intro a o h
    cases o with
    | lst ws => obtain ⟨vs, h1, h2⟩ := h; exact ⟨vs, h1, ups h2⟩
    | dct kvs => obtain ⟨vs, h1, h2⟩ := h; exact ⟨vs, h1, Paired.impS (fun _ _ z => ⟨z.1, up z.2⟩) h2⟩
    | dtt kvs => obtain ⟨vs, h1, h2⟩ := h; exact ⟨vs, h1, Paired.impS (fun _ _ z => ⟨z.1, up z.2⟩) h2⟩
    | ins C fs => obtain ⟨dx, vs, h1, h2⟩ := h; exact ⟨dx, vs, h1, Paired.impS (fun _ _ z => ⟨z.1, up z.2⟩) h2⟩
  refine ⟨⟨?_, st.frm, fun a h => ?_⟩, by simp [r.len], ?_, r.tabs, fun i o a e1 e2 => ?_⟩
  · obtain ⟨l, e⟩ := st.pre
    exact ⟨l ++ [p], by rw [e, List.append_assoc]⟩
  · rcases List.mem_append.mp h with z | z
    · exact st.new a z
    · rw [List.mem_singleton.mp z]
      exact .inr h0
  · refine List.nodup_append.mpr ⟨r.nd, by simp, fun a ha b hb e => ?_⟩
    rw [List.mem_singleton.mp hb] at e
    rw [e] at ha
    exact n ha
  · by_cases lt : i < S'.length
    · rw [List.getElem?_append_left lt] at e1
      rw [List.getElem?_append_left (by rw [r.len]; exact lt)] at e2
      exact upo (r.ob i o a e1 e2)
    · rw [List.getElem?_append_right (Nat.le_of_not_lt lt)] at e1
      rw [List.getElem?_append_right (by rw [r.len]; exact Nat.le_of_not_lt lt), r.len] at e2
      cases hk : i - S'.length with
      | zero =>
        rw [hk] at e1 e2
        cases e1
        cases e2
        exact ⟨vs, h1, ups h2⟩
      | succ k =>
        rw [hk] at e1
        simp at e1
theorem ie_num {X : Cx} {T : List (Addr × Str)} {e : Expr} {m : ML} (h : IL X T e m) : IE X T e (mNum m) := PE.weak h fun σ H Q ⟨ρ, τ, S, P, r, s, h, k⟩ => by
  refine ⟨ρ, τ, S, _, r, s, h, fun ws S' p vs ρ' H' hp st r' h0 n h1 h2 => ?_⟩
  obtain ⟨st2, r2⟩ := stp_num st r' h0 n h1 h2
  exact k _ _ _ _ _ hp st2 r2 (.ref (by rw [← r'.len]; simp))
def mITmp (m : ML) : MI := fun τ S P => m τ S fun ws S1 => P (fun _ => True) ws S1
theorem ii_tmp {X : Cx} {T : List (Addr × Str)} {tg e : Expr} {m : ML} (h : IL X T e m) : II X T tg e (mITmp m) := pi_weak (pi_list h) fun σ H R ⟨ρ, τ, S, P, r, s, h, k⟩ => by
  refine ⟨ρ, τ, S, _, r, s, h, fun ws S' p vs ρ' H' hp st r' h0 n h1 h2 => ?_⟩
  exact ⟨p, rfl, ⟨vs, SqL.of h1⟩, k _ _ _ _ _ _ hp st r' (src_tmp r' h1 n h2)⟩
/-! ### ranges -/
def irange (lo : Int) (n : Nat) : List W := (List.range n).map fun (i : Nat) => W.int (lo + (i : Int))
theorem src_rng {K : PySem.W.Frag} {T : List (Addr × Str)} {H0 : Hp} {ρ0 : List Addr} {lo : Int} {n : Nat} : IsSrc K T (Itr lo n) (fun _ => True) (irange lo n) H0 ρ0 := by
  have ln : (irange lo n).length = n := by simp [irange]
  refine ⟨fun H ρ S st r ok j hj => ?_, fun H ρ S st r ok => ?_⟩
  · rw [ln] at hj
    refine ⟨hj, fun x H' y => ?_⟩
    obtain ⟨rfl, rfl⟩ := y
    exact ⟨.int (lo + (j : Int)), by simp [irange, hj], Stp.refl _ _, r, .int _⟩
  · rw [ln]
    exact Nat.le_refl n
def mIR1 (m : ME) : MI := fun τ S P => m τ S fun w S1 => ∃ n, w = .int n ∧ -(2 ^ 62) ≤ n ∧ n < 2 ^ 62 ∧ P (fun _ => True) (irange 0 n.toNat) S1
theorem ii_range1 {X : Cx} {T : List (Addr × Str)} {tg a : Expr} {m : ME} {p pos : Pos} (hg : Gl X "range") (hm : X.mg "range" = none) (ha : IE X T a m) (hs : starEach [a] X.env = (false, eval a X.env) :: starEach [] X.env := by rfl) : II X T tg (.Call (.Name "range" p) [a] [] pos) (mIR1 m) :=
  pi_weak (pi_range1 hg hm (pa_cons ha pa_nil hs) hs) fun σ H R ⟨ρ, τ, S, P, r, s, h, k⟩ => by
    refine ⟨ρ, τ, S, _, r, s, h, fun w S' v ρ' H' hp st r' hw => ?_⟩
    obtain ⟨n, rfl, h1, h2, p⟩ := hp
    cases hw
    exact ⟨n, rfl, h1, h2, k _ _ _ _ _ _ p st r' src_rng⟩
def mIR2 (ma mb : ME) : MI := fun τ S P => ma τ S fun w S1 => mb τ S1 fun u S2 => ∃ i n, w = .int i ∧ u = .int n ∧ (-(2 ^ 62) ≤ i ∧ i < 2 ^ 62 ∧ -(2 ^ 62) ≤ n ∧ n < 2 ^ 62) ∧ P (fun _ => True) (irange i (n - i).toNat) S2
theorem ii_range2 {X : Cx} {T : List (Addr × Str)} {tg a b : Expr} {ma mb : ME} {p pos : Pos} (hg : Gl X "range") (hm : X.mg "range" = none) (ha : IE X T a ma) (hb : IE X T b mb) (hs : starEach [a, b] X.env = (false, eval a X.env) :: starEach [b] X.env := by rfl) (hs2 : starEach [b] X.env = (false, eval b X.env) :: starEach [] X.env := by rfl) :
    II X T tg (.Call (.Name "range" p) [a, b] [] pos) (mIR2 ma mb) :=
  pi_weak (pi_range2 hg hm (pa_cons ha (pa_cons hb pa_nil hs2) hs) (hs.trans (congrArg _ hs2)) hs2) fun σ H R ⟨ρ, τ, S, P, r, s, h, k⟩ => by
    refine ⟨ρ, τ, S, _, r, s, h, fun w S' v ρ' H' hp st r' hw => ⟨ρ', τ, S', _, r', s.stp r st, hp, fun u S2 v2 ρ2 H2 hp2 st2 r2 hw2 => ?_⟩⟩
    obtain ⟨i, n, rfl, rfl, h1, p⟩ := hp2
    cases hw
    cases hw2
    exact ⟨i, n, rfl, h1, k _ _ _ _ _ _ p (st.trans st2) r2 src_rng⟩
/-! ### for -/
def forW (ok : Sto → Prop) (t : Tg) (mb : MS) (E : EndW) : List W → Lo → Sto → Prop
  | [], τ, S => ok S ∧ E.nx τ S
  | w :: ws, τ, S => ok S ∧ ∃ τ1, setT S t w τ = some τ1 ∧ mb { E with nx := forW ok t mb E ws, ct := forW ok t mb E ws, bk := E.nx } τ1 S
def mFor (mi : MI) (t : Tg) (mb : MS) : MS := fun E τ S => mi τ S fun ok ws S1 => forW ok t mb E ws τ S1
theorem lifts_for {K : PySem.W.Frag} {T : List (Addr × Str)} {σ : L2.St} {H : Hp} {D : Ends} {mi : MI} {t : Tg} {mb : MS} (h : liftS K T (mFor mi t mb) D σ H) : tFor (liftI K T mi) (gT K t) (liftS K T mb) D σ H := by
  obtain ⟨ρ, τ, S, E, r, s, h, k⟩ := h
  refine ⟨ρ, τ, S, _, r, s, h, fun ok ws S' ρ' H' J hp st r' src => ?_⟩
  refine ⟨fun i m σ1 H1 => m = ws.length - i ∧ i ≤ ws.length ∧ ∃ (ρ1 : List Addr) (τ1 : Lo) (S1 : Sto), Stp H' ρ' H1 ρ1 ∧ Rep K T H1 ρ1 S1 ∧ RSt K H1 ρ1 τ1 σ1 ∧ forW ok t mb E (ws.drop i) τ1 S1,
    ⟨ws.length, by simp, Nat.zero_le _, ρ', τ, S', Stp.refl _ _, r', s.stp r st, hp⟩, ?_⟩
  rintro i m σ1 H1 ⟨rfl, hi, ρ1, τ1, S1, st1, r1, s1, f⟩
  by_cases lt : i < ws.length
  · have ed : ws.drop i = ws[i] :: ws.drop (i + 1) := List.drop_eq_getElem_cons lt
    rw [ed] at f
    obtain ⟨okS, τ2, e2, f⟩ := f
    obtain ⟨g1, g2⟩ := src.go H1 ρ1 S1 st1 r1 okS i lt
    refine .inr ⟨g1, fun σ3 H3 => ∃ (ρ3 : List Addr) (τ3 : Lo) (S3 : Sto), Stp H' ρ' H3 ρ3 ∧ Rep K T H3 ρ3 S3 ∧ RSt K H3 ρ3 τ3 σ3 ∧ forW ok t mb E (ws.drop (i + 1)) τ3 S3, fun σ3 H3 n3 => ⟨ws.length - (i + 1), by omega, rfl, lt, n3⟩, fun x H2 y => ?_⟩
    obtain ⟨w, ew, st2, r2, hw⟩ := g2 x H2 y
    rw [List.getElem?_eq_getElem lt] at ew
    cases ew
    refine gT_ok r2 t (s1.stp r1 st2) hw e2 fun σ' s' _ => ?_
    have st12 := st1.trans st2
    refine ⟨ρ1, τ2, S1, _, r2, s', f, ⟨fun τ4 S4 σ4 ρ4 H4 p4 st4 r4 s4 => ?_, k.rt.stp (st.trans st12), fun τ4 S4 σ4 ρ4 H4 p4 st4 r4 s4 => ?_, fun τ4 S4 σ4 ρ4 H4 p4 st4 r4 s4 => ?_⟩⟩
    · exact ⟨ρ4, τ4, S4, st12.trans st4, r4, s4, p4⟩
    · exact k.nx _ _ _ _ _ p4 ((st.trans st12).trans st4) r4 s4
    · exact ⟨ρ4, τ4, S4, st12.trans st4, r4, s4, p4⟩
  · have e : i = ws.length := by omega
    subst e
    rw [List.drop_length] at f
    exact .inl ⟨src.stop H1 ρ1 S1 st1 r1 f.1, k.nx _ _ _ _ _ f.2 (st.trans st1) r1 s1⟩
theorem is_for {X : Cx} {T : List (Addr × Str)} {tg iter : Expr} {body : List Stmt} {mi : MI} {t : Tg} {mb : MS} {pos : Pos} (hp : PassesOwn (model X.prog X.w) X.A X.env X.xe) (hc : X.calm = true) (hi : II X T tg iter mi) (hg : IG X tg t) (hb : ISs X T body mb)
    (hs : ∀ x, foldedSetIterable iter X.env x = pure x := by intro _; rfl) : IS X T (.For tg iter body [] pos) (mFor mi t mb) := (ps_for hp hc hi hg hb hs).weak fun _ _ _ => lifts_for
/-- by an invariant -/
theorem forW_by {ok : Sto → Prop} {t : Tg} {mb : MS} {E : EndW} (Pv : Nat → Lo → Sto → Prop) {ws : List W} {τ : Lo} {S : Sto} (h0 : Pv 0 τ S) (hok : ∀ i τ S, i ≤ ws.length → Pv i τ S → ok S)
    (hs : ∀ i w τ S, ws[i]? = some w → Pv i τ S → ∃ τ1, setT S t w τ = some τ1 ∧ ∀ F : Lo → Sto → Prop, (∀ τ S, Pv (i + 1) τ S → F τ S) → mb { E with nx := F, ct := F, bk := E.nx } τ1 S) (hd : ∀ τ S, Pv ws.length τ S → E.nx τ S) : forW ok t mb E ws τ S := by
  have key : ∀ (n i : Nat), ws.length - i = n → i ≤ ws.length → ∀ τ S, Pv i τ S → forW ok t mb E (ws.drop i) τ S := by
    intro n
    induction n with
    | zero =>
      intro i h1 h2 τ S p
      have e : i = ws.length := by omega
      subst e
      rw [List.drop_length]
      exact ⟨hok _ τ S (Nat.le_refl _) p, hd τ S p⟩
    | succ n ih =>
      intro i h1 h2 τ S p
      have lt : i < ws.length := by omega
      rw [List.drop_eq_getElem_cons lt]
      obtain ⟨τ1, e, q⟩ := hs i ws[i] τ S (List.getElem?_eq_getElem lt) p
      exact ⟨hok i τ S h2 p, τ1, e, q _ (ih (i + 1) (by omega) lt)⟩
  exact key ws.length 0 rfl (Nat.zero_le _) τ S h0
/-! ### while -/
def mWhile (c : MT) (mb : MS) : MS := fun E τ S => ∃ I : Nat → Lo → Sto → Prop, (∃ m, I m τ S) ∧ ∀ m τ S, I m τ S → c τ S fun b S1 => if b = true then mb { E with nx := fun τ' S' => ∃ m', m' < m ∧ I m' τ' S', ct := fun τ' S' => ∃ m', m' < m ∧ I m' τ' S', bk := E.nx } τ S1 else E.nx τ S1
theorem lifts_while {K : PySem.W.Frag} {T : List (Addr × Str)} {σ : L2.St} {H : Hp} {D : Ends} {c : MT} {mb : MS} (h : liftS K T (mWhile c mb) D σ H) : tWhile (liftT K T c) (liftS K T mb) D σ H := by
  obtain ⟨ρ, τ, S, E, r, s, ⟨I, ⟨m0, i0⟩, turn⟩, k⟩ := h
  refine ⟨fun m σ1 H1 => ∃ (ρ1 : List Addr) (τ1 : Lo) (S1 : Sto), Stp H ρ H1 ρ1 ∧ Rep K T H1 ρ1 S1 ∧ RSt K H1 ρ1 τ1 σ1 ∧ I m τ1 S1, ⟨m0, ρ, τ, S, Stp.refl _ _, r, s, i0⟩, ?_⟩
  rintro m σ1 H1 ⟨ρ1, τ1, S1, st1, r1, s1, i1⟩
  refine ⟨ρ1, τ1, S1, _, r1, s1, turn m τ1 S1 i1, fun b S2 ρ2 H2 p2 st2 r2 => ?_⟩
  have st12 := st1.trans st2
  have s2 := s1.stp r1 st2
  cases b with
  | true =>
    rw [if_pos rfl] at p2
    refine iteT ⟨fun σ3 H3 => ∃ m', m' < m ∧ ∃ (ρ3 : List Addr) (τ3 : Lo) (S3 : Sto), Stp H ρ H3 ρ3 ∧ Rep K T H3 ρ3 S3 ∧ RSt K H3 ρ3 τ3 σ3 ∧ I m' τ3 S3, fun _ _ z => z, ρ2, τ1, S2, _, r2, s2, p2, ⟨?_, k.rt.stp st12, ?_, ?_⟩⟩
    · intro τ4 S4 σ4 ρ4 H4 p4 st4 r4 s4
      obtain ⟨m', l, i4⟩ := p4
      exact ⟨m', l, ρ4, τ4, S4, st12.trans st4, r4, s4, i4⟩
    · exact k.nx.stp st12
    · intro τ4 S4 σ4 ρ4 H4 p4 st4 r4 s4
      obtain ⟨m', l, i4⟩ := p4
      exact ⟨m', l, ρ4, τ4, S4, st12.trans st4, r4, s4, i4⟩
  | false =>
    rw [if_neg Bool.false_ne_true] at p2
    exact iteF <| k.nx _ _ _ _ _ p2 st12 r2 s2
theorem is_while {X : Cx} {T : List (Addr × Str)} {c : Expr} {body : List Stmt} {mc : MT} {mb : MS} {pos : Pos} (hp : PassesOwn (model X.prog X.w) X.A X.env X.xe) (hc : IT X T c mc) (hb : ISs X T body mb) : IS X T (.While c body [] pos) (mWhile mc mb) := (ps_while hp hc hb).weak fun _ _ _ => lifts_while
/-! ### comprehensions -/
theorem tmp_set {K : PySem.W.Frag} {T : List (Addr × Str)} {H : Hp} {ρ : List Addr} {S : Sto} {D : Addr} {vs : List V} (r : Rep K T H ρ S) (n : D ∉ ρ) (e : H D = some (.lst vs)) (x : List V) :
    Rep K T (upd H D (.lst x)) ρ S ∧ (∀ {w : W} {v : V}, RW K H ρ w v → RW K (upd H D (.lst x)) ρ w v) ∧ (∀ {ws : List W} {us : List V}, RWs K H ρ ws us → RWs K (upd H D (.lst x)) ρ ws us) := by
  have sq : ∀ {a : Addr} {us : List V}, SqT K H a us → SqT K (upd H D (.lst x)) a us := by
    intro a us h
    rcases h with (h | ⟨o, h⟩) | h
    · exact .inl (.inl (by rw [upd_ne (ne_of h e (fun z => nomatch z))]; exact h))
    · exact .inl (.inr ⟨o, by rw [upd_ne (ne_of h e (fun z => nomatch z))]; exact h⟩)
    · exact .inr h
  have up : ∀ {w : W} {v : V}, RW K H ρ w v → RW K (upd H D (.lst x)) ρ w v := by
    intro w v h
    exact RW.rec (motive_1 := fun w v _ => RW K (upd H D (.lst x)) ρ w v) (motive_2 := fun ws vs _ => RWs K (upd H D (.lst x)) ρ ws vs) .non .bl .int .str (fun h _ q => .tup (sq h) q) (fun h => .ref h) .ty .nil (fun _ _ a b => .cons a b) h
  have ups : ∀ {ws : List W} {us : List V}, RWs K H ρ ws us → RWs K (upd H D (.lst x)) ρ ws us := fun h => RWs.ofPaired (Paired.impS (fun _ _ z => up z) h.paired)
  refine ⟨⟨r.len, r.nd, tabs_upd r.tabs (fun u h => by rw [e] at h; cases h; exact ⟨True.intro, fun φ z => nomatch z⟩), fun i o a h1 h2 => ?_⟩, up, ups⟩
  have ne : a ≠ D := fun z => n (by rw [← z]; exact List.mem_of_getElem? h2)
  have q := r.ob i o a h1 h2
  cases o with
  | lst ws => obtain ⟨us, q1, q2⟩ := q; exact ⟨us, by rw [upd_ne ne]; exact q1, ups q2⟩
  | dct kvs => obtain ⟨us, q1, q2⟩ := q; exact ⟨us, by rw [upd_ne ne]; exact q1, Paired.impS (fun _ _ z => ⟨z.1, up z.2⟩) q2⟩
  | dtt kvs => obtain ⟨us, q1, q2⟩ := q; exact ⟨us, by rw [upd_ne ne]; exact q1, Paired.impS (fun _ _ z => ⟨z.1, up z.2⟩) q2⟩
  | ins C fs => obtain ⟨dx, us, q1, q2⟩ := q; exact ⟨dx, us, by rw [upd_ne ne]; exact q1, Paired.impS (fun _ _ z => ⟨z.1, up z.2⟩) q2⟩
theorem stp_tmp {H H' : Hp} {ρ ρ' : List Addr} {D : Addr} {u : HO} (s : Stp H ρ H' ρ') (h : H D = none) : Stp H ρ (upd H' D u) ρ' := by
  refine ⟨s.pre, fun a o n e nt => ?_, s.new⟩
  rw [upd_ne (ne_of_none e h)]
  exact s.frm a o n e nt
def wipeW (τ : Lo) : List Nat → Lo
  | [] => τ
  | v :: vs => (wipeW τ vs).set v none
theorem rst_wipe {K : PySem.W.Frag} {H : Hp} {ρ : List Addr} {τ : Lo} {σ : L2.St} (s : RSt K H ρ τ σ) : ∀ vs : List Nat, RSt K H ρ (wipeW τ vs) (wipe σ vs)
  | [] => s
  | v :: vs => by
    have z := rst_wipe s vs
    refine ⟨by simp [wipeW, wipe, z.len], fun i w e => ?_⟩
    simp only [wipeW] at e
    simp only [wipe]
    by_cases c : v = i
    · subst c
      by_cases lt : v < (wipeW τ vs).length
      · rw [List.getElem?_set_self lt] at e
        cases e
      · rw [List.getElem?_eq_none (by simpa using lt)] at e
        cases e
    · rw [List.getElem?_set_ne c] at e
      rw [List.getElem?_set_ne c]
      exact z.at_ i w e
def lcW (ok : Sto → Prop) (t : Tg) (mt : MT) (me : ME) (τ0 : Lo) (P : List W → Sto → Prop) : List W → List W → Sto → Prop
  | [], acc, S => ok S ∧ P acc S
  | w :: ws, acc, S => ok S ∧ acc.length < sizeLine ∧ ∃ τ1, setT S t w τ0 = some τ1 ∧ mt τ1 S fun b S1 => if b = true then me τ1 S1 fun x S2 => lcW ok t mt me τ0 P ws (acc ++ [x]) S2 else lcW ok t mt me τ0 P ws acc S1
def mLc (mi : MI) (t : Tg) (mt : MT) (me : ME) (own : List Nat) : ML := fun τ S P => mi τ S fun ok ws S1 => lcW ok t mt me (wipeW τ own) P ws [] S1
def mYes : MT := fun _ S P => P true S
theorem wipe_wipe (σ : L2.St) (vs : List Nat) : wipe (wipe σ vs) vs = wipe σ vs := by
  apply List.ext_getElem?
  intro j
  rw [wipe_get, wipe_get]
  by_cases c : j ∈ vs
  · rw [if_pos c, if_pos c]
    cases σ[j]? <;> rfl
  · rw [if_neg c, if_neg c]
theorem lift_lc {K : PySem.W.Frag} {T : List (Addr × Str)} {σ : L2.St} {H : Hp} {Q : VK} {mi : MI} {t : Tg} {mt : MT} {me : ME} {own : List Nat} (hs : ∀ i ∈ slT t, i ∈ own) (h : liftLs K T (mLc mi t mt me own) σ H Q) : tLc (liftI K T mi) (gT K t) (liftT K T mt) (liftE K T me) own σ H Q := by
  obtain ⟨ρ, τ, S, P, r, s, h, k⟩ := h
  refine ⟨ρ, τ, S, _, r, s, h, fun ok ws S' ρ' H' J hp st r' src D hD => ?_⟩
  have s' := s.stp r st
  have hD0 : NT H D := by
    refine st.nt (fun c => ?_) (NT.of hD)
    obtain ⟨_, _, _, _, q⟩ := r'.of_mem (st.sub c)
    obtain ⟨u, e, _⟩ := q.mutK
    rw [hD] at e
    cases e
  have nD : D ∉ ρ' := fun z => by
    obtain ⟨_, _, _, _, q⟩ := r'.of_mem z
    obtain ⟨u, e, _⟩ := q.mutK
    rw [hD] at e
    cases e
  obtain ⟨st0, r0⟩ := stp_new (o := .lst []) r' hD
  refine ⟨fun i m H1 => m = ws.length - i ∧ i ≤ ws.length ∧ ∃ (ρ1 : List Addr) (S1 : Sto) (acc : List W) (vs : List V), Stp H' ρ' H1 ρ1 ∧ Rep K T H1 ρ1 S1 ∧ D ∉ ρ1 ∧ H1 D = some (.lst vs) ∧ RWs K H1 ρ1 acc vs ∧ lcW ok t mt me (wipeW τ own) P (ws.drop i) acc S1,
    ⟨ws.length, by simp, Nat.zero_le _, ρ', S', [], [], st0, r0, nD, upd_same, .nil, hp⟩, ?_⟩
  rintro i m H1 ⟨rfl, hi, ρ1, S1, acc, vs, st1, r1, n1, e1, ra, f⟩
  by_cases lt : i < ws.length
  · have ed : ws.drop i = ws[i] :: ws.drop (i + 1) := List.drop_eq_getElem_cons lt
    rw [ed] at f
    obtain ⟨okS, la, τ2, e2, f⟩ := f
    obtain ⟨g1, g2⟩ := src.go H1 ρ1 S1 st1 r1 okS i lt
    refine .inr ⟨g1, fun H3 => ∃ (ρ3 : List Addr) (S3 : Sto) (acc : List W) (vs : List V), Stp H' ρ' H3 ρ3 ∧ Rep K T H3 ρ3 S3 ∧ D ∉ ρ3 ∧ H3 D = some (.lst vs) ∧ RWs K H3 ρ3 acc vs ∧ lcW ok t mt me (wipeW τ own) P (ws.drop (i + 1)) acc S3, fun H3 n3 => ⟨ws.length - (i + 1), by omega, rfl, lt, n3⟩, fun x H2 y => ?_⟩
    obtain ⟨w, ew, st2, r2, hw⟩ := g2 x H2 y
    rw [List.getElem?_eq_getElem lt] at ew
    cases ew
    have nt : ∀ ps, (HO.lst vs) ≠ .tbl ps := fun _ z => nomatch z
    have eD2 := st2.frm D _ n1 e1 nt
    refine gT_ok r2 t (rst_wipe ((s'.stp r' st1).stp r1 st2) own) hw e2 fun σ' s3 hv => ⟨by rw [hv own hs]; exact wipe_wipe _ _, ?_⟩
    refine ⟨ρ1, τ2, S1, _, r2, s3, f, fun b S3 ρ3 H3 p3 st3 r3 => ?_⟩
    have n3 : D ∉ ρ3 := st3.out n1 eD2 nt
    have eD3 := st3.frm D _ n1 eD2 nt
    have st13 := (st1.trans st2).trans st3
    have ra3 := (ra.stp r1 st2).stp r2 st3
    cases b with
    | false =>
      rw [if_neg Bool.false_ne_true] at p3
      exact iteF ⟨ρ3, S3, acc, vs, st13, r3, n3, eD3, ra3, p3⟩
    | true =>
      rw [if_pos rfl] at p3
      refine iteT ⟨ρ3, τ2, S3, _, r3, s3.stp r2 st3, p3, fun w4 S4 v4 ρ4 H4 p4 st4 r4 hw4 => ?_⟩
      have n4 : D ∉ ρ4 := st4.out n3 eD3 nt
      have eD4 := st4.frm D _ n3 eD3 nt
      refine ⟨vs, eD4, by rw [← ra.length]; exact la, ?_⟩
      obtain ⟨r5, u5, us5⟩ := tmp_set r4 n4 eD4 (vs ++ [v4])
      exact ⟨ρ4, S4, acc ++ [w4], vs ++ [v4], stp_tmp (st13.trans st4) hD, r5, n4, upd_same, (us5 (ra3.stp r3 st4)).app (.cons (u5 hw4) .nil), p4⟩
  · have e : i = ws.length := by omega
    subst e
    rw [List.drop_length] at f
    exact .inl ⟨src.stop H1 ρ1 S1 st1 r1 f.1, k _ _ D vs ρ1 H1 f.2 (st.trans st1) r1 hD0 n1 e1 ra⟩
end PL
set_option Elab.async false
set_option linter.all false
set_option maxRecDepth 100000
set_option maxHeartbeats 4000000
/-! ## promises over the plain store, defs, calls, built-ins, subscripts -/
namespace PL
open PySem PySem.Spec PyProof.Rows L2 LamX KG
/-! ### what is below a number -/
mutual
def W.cl (n : Nat) : W → Bool
  | .tup xs => clL n xs
  | .ref i => decide (i < n)
  | _ => true
def clL (n : Nat) : List W → Bool
  | [] => true
  | x :: r => W.cl n x && clL n r
end
def O.cl (n : Nat) : O → Bool
  | .lst ws => clL n ws
  | .dct kvs => kvs.all fun p => W.cl n p.2
  | .dtt kvs => kvs.all fun p => W.cl n p.2
  | .ins _ fs => fs.all fun p => W.cl n p.2
def stoCl (n : Nat) (S : Sto) : Prop := ∀ o ∈ S, O.cl n o = true
def Cut (S : Sto) (P : WK) : WK := fun w S' => P w S' ∨ ∃ n, S.length ≤ n ∧ n ≤ S'.length ∧ w.cl n = true ∧ stoCl n (S'.take n) ∧ P w (S'.take n)
section
variable {K : PySem.W.Frag} {T : List (Addr × Str)} {H : Hp} {ρ : List Addr} {S : Sto} {n : Nat}
mutual
theorem rw_take : ∀ {w : W} {v : V}, RW K H ρ w v → w.cl n = true → RW K H (ρ.take n) w v
  | _, _, .non, _ => .non
  | _, _, .bl b, _ => .bl b
  | _, _, .int i, _ => .int i
  | _, _, .str x, _ => .str x
  | _, _, .ty m, _ => .ty m
  | _, _, .tup h q, c => .tup h (rws_take q (by simpa only [W.cl] using c))
  | _, _, .ref h, c => .ref (by
      have lt : _ < n := of_decide_eq_true (by simpa only [W.cl] using c)
      rw [List.getElem?_take_of_lt lt]
      exact h)
theorem rws_take : ∀ {ws : List W} {vs : List V}, RWs K H ρ ws vs → clL n ws = true → RWs K H (ρ.take n) ws vs
  | _, _, .nil, _ => .nil
  | _, _, .cons h q, c => by
    simp only [clL, Bool.and_eq_true] at c
    exact .cons (rw_take h c.1) (rws_take q c.2)
end
mutual
theorem rw_cl : ∀ {w : W} {v : V}, RW K H ρ w v → w.cl ρ.length = true
  | _, _, .non => rfl
  | _, _, .bl b => rfl
  | _, _, .int i => rfl
  | _, _, .str x => rfl
  | _, _, .ty m => rfl
  | _, _, .tup h q => by simp only [W.cl]; exact rws_cl q
  | _, _, .ref h => by simp only [W.cl]; exact decide_eq_true (List.getElem?_eq_some_iff.mp h).1
theorem rws_cl : ∀ {ws : List W} {vs : List V}, RWs K H ρ ws vs → clL ρ.length ws = true
  | _, _, .nil => rfl
  | _, _, .cons h q => by simp only [clL, Bool.and_eq_true]; exact ⟨rw_cl h, rws_cl q⟩
end
theorem paired_cl {κ : Type} : ∀ {l : List (κ × W)} {m : List (κ × V)}, Paired (fun p q => p.1 = q.1 ∧ RW K H ρ p.2 q.2) l m → (l.all fun p => W.cl ρ.length p.2) = true
  | _, _, .nil => rfl
  | _, _, .cons a b => by rw [List.all_cons, Bool.and_eq_true]; exact ⟨rw_cl a.2, paired_cl b⟩
theorem paired_take {κ : Type} : ∀ {l : List (κ × W)} {m : List (κ × V)}, Paired (fun p q => p.1 = q.1 ∧ RW K H ρ p.2 q.2) l m → (l.all fun p => W.cl n p.2) = true → Paired (fun p q => p.1 = q.1 ∧ RW K H (ρ.take n) p.2 q.2) l m
  | _, _, .nil, _ => .nil
  | _, _, .cons a b, c => by
    rw [List.all_cons, Bool.and_eq_true] at c
    exact .cons ⟨a.1, rw_take a.2 c.1⟩ (paired_take b c.2)
theorem Rep.cl (r : Rep K T H ρ S) : stoCl S.length S := fun o ho => by
  obtain ⟨i, hi, e⟩ := List.getElem_of_mem ho
  obtain ⟨a, ea, q⟩ := r.at_ (i := i) (o := o) (by rw [List.getElem?_eq_getElem hi, e])
  rw [← r.len]
  cases o with
  | lst ws => obtain ⟨vs, _, h⟩ := q; exact rws_cl h
  | dct kvs => obtain ⟨vs, _, h⟩ := q; exact paired_cl h
  | dtt kvs => obtain ⟨vs, _, h⟩ := q; exact paired_cl h
  | ins C fs => obtain ⟨_, vs, _, h⟩ := q; exact paired_cl h
theorem Rep.take (r : Rep K T H ρ S) (hn : n ≤ S.length) (c : stoCl n (S.take n)) : Rep K T H (ρ.take n) (S.take n) := by
  refine ⟨by simp [r.len], r.nd.sublist (List.take_sublist _ _), r.tabs, fun i o a e1 e2 => ?_⟩
  have lt : i < n := by
    have := (List.getElem?_eq_some_iff.mp e1).1
    rw [List.length_take] at this
    omega
  have co := c o (List.mem_of_getElem? e1)
  rw [List.getElem?_take_of_lt lt] at e1 e2
  have q := r.ob i o a e1 e2
  cases o with
  | lst ws => obtain ⟨vs, h1, h⟩ := q; exact ⟨vs, h1, rws_take h co⟩
  | dct kvs => obtain ⟨vs, h1, h⟩ := q; exact ⟨vs, h1, paired_take h co⟩
  | dtt kvs => obtain ⟨vs, h1, h⟩ := q; exact ⟨vs, h1, paired_take h co⟩
  | ins C fs => obtain ⟨dx, vs, h1, h⟩ := q; exact ⟨dx, vs, h1, paired_take h co⟩
theorem Stp.take {H' : Hp} {ρ' : List Addr} (s : Stp H ρ H' ρ') (hn : ρ.length ≤ n) : Stp H ρ H' (ρ'.take n) := by
  refine ⟨?_, s.frm, fun a h => s.new a (List.mem_of_mem_take h)⟩
  obtain ⟨l, e⟩ := s.pre
  refine ⟨l.take (n - ρ.length), ?_⟩
  rw [e, List.take_append]
  rw [List.take_of_length_le hn]
theorem Kont.cut {P : WK} {Q : VK} (r : Rep K T H ρ S) (k : Kont K T H ρ P Q) : Kont K T H ρ (Cut S P) Q := fun w S' v ρ' H' hp st r' hw => by
  rcases hp with hp | ⟨n, h1, h2, h3, h4, h5⟩
  · exact k w S' v ρ' H' hp st r' hw
  · exact k w (S'.take n) v (ρ'.take n) H' h5 (st.take (by rw [r.len]; exact h1)) (r'.take h2 h4) (rw_take hw h3)
theorem Cut.same {P : WK} {w : W} {S' : Sto} (h : P w S') : Cut S P w S' := .inl h
theorem Cut.gar {P : WK} {w : W} {G : Sto} (hS : stoCl S.length S) (hw : w.cl S.length = true) (h : P w S) : Cut S P w (S ++ G) := by
  refine .inr ⟨S.length, Nat.le_refl _, by simp, hw, ?_, ?_⟩
  · rw [List.take_left]; exact hS
  · rw [List.take_left]; exact h
/-- .. where objects that stood ahead changed, or some new ones stay -/
theorem Cut.upto {P : WK} {w : W} {S1 G : Sto} (hl : S.length ≤ S1.length) (hS : stoCl S1.length S1) (hw : w.cl S1.length = true) (h : P w S1) : Cut S P w (S1 ++ G) := by
  refine .inr ⟨S1.length, hl, by simp, hw, ?_, ?_⟩
  · rw [List.take_left]; exact hS
  · rw [List.take_left]; exact h
end
/-! ### promises -/
def SpW (K : PySem.W.Frag) (T : List (Addr × Str)) (sp : MRL) : Sp := fun vs H Q _ => liftL K T sp vs H Q
def startW (N : List Str) (ws : List W) : Lo := ws.map some ++ List.replicate (N.length - ws.length) none
theorem rst_start {K : PySem.W.Frag} {H : Hp} {ρ : List Addr} {N : List Str} {ws : List W} {vs : List V} (h : RWs K H ρ ws vs) : RSt K H ρ (startW N ws) (start N vs) := by
  refine ⟨by simp [startW, L2.start, h.length], fun i w e => ?_⟩
  by_cases lt : i < ws.length
  · unfold startW at e
    rw [List.getElem?_append_left (by simpa using lt), List.getElem?_map, Option.map_eq_some_iff] at e
    obtain ⟨w', e1, e2⟩ := e
    cases e2
    obtain ⟨v, ev, hv⟩ := h.get e1
    refine ⟨v, ?_, hv⟩
    unfold L2.start
    rw [List.getElem?_append_left (by rw [List.length_map, ← h.length]; exact lt), List.getElem?_map, ev]
    rfl
  · unfold startW at e
    rw [List.getElem?_append_right (by simpa using lt), List.getElem?_replicate] at e
    split at e <;> cases e
abbrev noBr : Lo → Sto → Prop := fun _ _ => False
section
variable {P : Program} {w : World} {K : PySem.W.Frag} {mg : Str → Option Value} {base : Heap} {T : List (Addr × Str)}
/-- a def by its body -/
theorem okI {x qual : Str} {st : Stmt} {f : Addr} {fd : FuncData} {N ps : List Str} {k : Nat} {sp : MRL} (F : Fun K x qual st f fd) (Sc : FnScope N ps (defScope st))
    (len : ∀ ws S Q, sp ws S Q → ws.length = ps.length)
    (hbody : ∀ (cdv : Value) (A : Around) (outer : List Env) (s : Shared) (H : Hp), Gd (A.deeper (envOfC qual (defScope st) s.heap.objs.size f cdv)) → Room k (A.deeper (envOfC qual (defScope st) s.heap.objs.size f cdv)) →
      ∃ m, ISs (cxOf CX0 P w K mg base N qual (defScope st) f cdv A outer s H E0).nox T (defBody st) m ∧
        ∀ (ws : List W) (S : Sto) (Q : WK), stoCl S.length S → clL S.length ws = true → sp ws S Q → m ⟨fun _ S' => Cut S Q .non S', Cut S Q, noBr, noBr⟩ (startW N ws) S) :
    FnG P w K mg base (k + 1) f fd ps (SpW K T sp) := by
  refine okG F Sc (fun vs H Q E h => ?_) (fun cdv A outer s H vs Q hgd hr h => ?_)
  · obtain ⟨ρ, S, ws, Pq, r, hw, h, _⟩ := h
    rw [← hw.length]
    exact len ws S Pq h
  · obtain ⟨m, hm, hq⟩ := hbody cdv A outer s H hgd hr
    refine ⟨_, hm, ?_⟩
    obtain ⟨ρ, S, ws, Pq, r, hw, h, k⟩ := h
    have kc : Kont K T H ρ (Cut S Pq) Q := Kont.cut r k
    exact ⟨ρ, startW N ws, S, _, r, rst_start hw, hq ws S Pq r.cl (by rw [← r.len]; exact rws_cl hw) h, ⟨fun τ' S' σ' ρ' H' hp st r' s' => kc _ _ _ _ _ hp st r' .non, kc, fun _ _ _ _ _ hp => hp.elim, fun _ _ _ _ _ hp => hp.elim⟩⟩
end
section
variable {X : Cx} {T : List (Addr × Str)} {k : Nat} {f : Addr} {fd : FuncData} {ps ks : List Str} {sp : MRL} {x : Str} {p pos : Pos} {e a b : Expr} {es : List Expr} {kws : List Keyword} {ms : MA} {ma mb me : ME}
theorem ie_call (F : FnG X.prog X.w X.K X.mg X.base k f fd ps (SpW X.K T sp)) (hgd : Gd X.A) (hr : Room k X.A) (hg : Gl X x) (hm : X.mg x = some (.ref f)) (hk : PySem.W.keepIn X.K (.ref f) = true) (hb : Binds X.K fd ps [])
    (ha : IA X T (e :: es) ms) (hdb : (x == ("__debug__" : Str)) = false := by decide) (he : starEach (e :: es) X.env = (false, eval e X.env) :: starEach es X.env := by rfl) (hpl : (backTo pos (starEach es X.env)).any (·.1) = false := by rfl) :
    IE X T (.Call (.Name x p) (e :: es) [] pos) (mCall sp ms) := (pe_callG F hgd hr hg hm hk hb ha hdb he hpl).weak fun _ _ _ => lift_call
theorem ie_callB {id : String} {r : MRL} (hc : CallW X T (.builtin id) r) (hg : Gl X x) (hm : X.mg x = none) (hv : bootBuiltins x = some (.builtin id)) (ha : IA X T (e :: es) ms) (hn : x ≠ "__name__" := by decide) (hdb : (x == ("__debug__" : Str)) = false := by decide)
    (he : starEach (e :: es) X.env = (false, eval e X.env) :: starEach es X.env := by rfl) (hpl : (backTo pos (starEach es X.env)).any (·.1) = false := by rfl) : IE X T (.Call (.Name x p) (e :: es) [] pos) (mCall r ms) := (pe_callB hc hg hm hv ha hn hdb he hpl).weak fun _ _ _ => lift_call
theorem ie_callTy {ty : String} {r : MRL} (hc : CallW X T (.type ty) r) (hg : Gl X x) (hm : X.mg x = none) (hv : bootBuiltins x = some (.type ty)) (ha : IA X T (e :: es) ms) (hn : x ≠ "__name__" := by decide) (hdb : (x == ("__debug__" : Str)) = false := by decide)
    (he : starEach (e :: es) X.env = (false, eval e X.env) :: starEach es X.env := by rfl) (hpl : (backTo pos (starEach es X.env)).any (·.1) = false := by rfl) : IE X T (.Call (.Name x p) (e :: es) [] pos) (mCall r ms) := (pe_callTy hc hg hm hv ha hn hdb he hpl).weak fun _ _ _ => lift_call
/-- a built-in class as a value -/
theorem ie_ty {n : String} (hg : Gl X x) (hm : X.mg x = none) (hv : bootBuiltins x = some (.type n)) (hn : x ≠ "__name__" := by decide) (hd : (x == ("__debug__" : Str)) = false := by decide) : IE X T (.Name x pos) (mC (.ty n)) := (pe_bltn (v := .ty n) hg hm hv rfl hn hd).weak fun _ _ _ => lift_c fun _ _ => .ty n
/-! ### a call with one list that isn't numbered, or a sequence -/
/-- f of the items of a list or tuple -/
def CallQ (X : Cx) (T : List (Addr × Str)) (f : Value) (r : MRL) : Prop := CallR X f fun xs H Q => ∃ (ρ : List Addr) (S : Sto) (ws : List W) (P : WK) (a : Addr) (vs : List V), xs = [.ref a] ∧ Rep X.K T H ρ S ∧ (SqL X.K H a vs ∨ SqT X.K H a vs) ∧ RWs X.K H ρ ws vs ∧ r ws S P ∧ Kont X.K T H ρ P Q
/-- .. of a list alone -/
def CallLs (X : Cx) (T : List (Addr × Str)) (f : Value) (r : MRL) : Prop := CallR X f fun xs H Q => ∃ (ρ : List Addr) (S : Sto) (ws : List W) (P : WK) (a : Addr) (vs : List V), xs = [.ref a] ∧ Rep X.K T H ρ S ∧ SqL X.K H a vs ∧ RWs X.K H ρ ws vs ∧ r ws S P ∧ Kont X.K T H ρ P Q
theorem CallQ.ls {f : Value} {r : MRL} (h : CallQ X T f r) : CallLs X T f r := cr_weak h fun xs H Q ⟨ρ, S, ws, P, a, vs, h1, h2, h3, h4⟩ => ⟨ρ, S, ws, P, a, vs, h1, h2, .inl h3, h4⟩
/-- what stands in a sequence -/
def itemsW (S : Sto) : W → Option (List W)
  | .tup ws => some ws
  | .ref i => match S[i]? with
    | some (.lst ws) => some ws
    | _ => none
  | _ => none
theorem items_at {K : PySem.W.Frag} {H : Hp} {ρ : List Addr} {S : Sto} {w : W} {v : V} {ws : List W} (r : Rep K T H ρ S) (hw : RW K H ρ w v) (h : itemsW S w = some ws) : ∃ a vs, v = .ref a ∧ (SqL K H a vs ∨ SqT K H a vs) ∧ RWs K H ρ ws vs ∧ ((∃ us, w = .tup us) → SqT K H a vs) ∧ ((∃ i, w = .ref i) → SqL K H a vs) := by
  cases hw with
  | tup hs hr => cases h; exact ⟨_, _, rfl, .inr hs, hr, fun _ => hs, fun ⟨i, z⟩ => by cases z⟩
  | ref hi =>
    simp only [itemsW] at h
    split at h
    · rename_i us e
      cases h
      obtain ⟨vs, h1, h2⟩ := r.ob _ _ _ e hi
      exact ⟨_, vs, rfl, .inl (SqL.of h1), h2, (fun ⟨us, z⟩ => by cases z), fun _ => SqL.of h1⟩
    · cases h
  | _ => simp only [itemsW] at h; cases h
def rQ (r : MRL) : MRL := fun xs S P => ∃ x ws, xs = [x] ∧ itemsW S x = some ws ∧ r ws S P
theorem cw_q {f : Value} {r : MRL} (h : CallQ X T f r) : CallW X T f (rQ r) := cr_weak h fun xs H Q ⟨ρ, S, ws, P, rr, hx, ⟨x, us, e, hi, hr⟩, k⟩ => by
  subst e
  cases hx with
  | cons h1 h2 =>
    cases h2
    obtain ⟨a, vs, rfl, q1, q2, _⟩ := items_at rr h1 hi
    exact ⟨ρ, S, us, P, a, vs, rfl, rr, q1, q2, hr, k⟩
def rLs (r : MRL) : MRL := fun xs S P => ∃ i ws, xs = [.ref i] ∧ S[i]? = some (.lst ws) ∧ r ws S P
theorem cw_ls {f : Value} {r : MRL} (h : CallLs X T f r) : CallW X T f (rLs r) := cr_weak h fun xs H Q ⟨ρ, S, ws, P, rr, hx, ⟨i, us, e, hi, hr⟩, k⟩ => by
  subst e
  cases hx with
  | cons h1 h2 =>
    cases h2
    cases h1 with
    | ref hj =>
      obtain ⟨vs, q1, q2⟩ := rr.ob _ _ _ hi hj
      exact ⟨ρ, S, us, P, _, vs, rfl, rr, SqL.of q1, q2, hr, k⟩
def mCallL (r : MRL) (m : ML) : ME := fun τ S P => m τ S fun ws S1 => r ws S1 P
theorem lift_callL {X : Cx} {T : List (Addr × Str)} {r : MRL} {m : ML} {σ : L2.St} {H : Hp} {Q : VK} (h : liftE X.K T (mCallL r m) σ H Q) :
    tCB (fun xs H Q => ∃ (ρ : List Addr) (S : Sto) (ws : List W) (P : WK) (a : Addr) (vs : List V), xs = [.ref a] ∧ Rep X.K T H ρ S ∧ SqL X.K H a vs ∧ RWs X.K H ρ ws vs ∧ r ws S P ∧ Kont X.K T H ρ P Q) (tCons (liftLs X.K T m) tNil) σ H Q := by
  obtain ⟨ρ, τ, S, P, rr, s, h, k⟩ := h
  exact ⟨ρ, τ, S, _, rr, s, h, fun ws S' p vs ρ' H' hp st r' h0 n h1 h2 => ⟨ρ', S', ws, P, p, vs, rfl, r', SqL.of h1, h2, hp, k.stp st⟩⟩
theorem ie_callBL {id : String} {r : MRL} {m : ML} (hc : CallLs X T (.builtin id) r) (hg : Gl X x) (hm : X.mg x = none) (hv : bootBuiltins x = some (.builtin id)) (ha : IL X T e m) (hn : x ≠ "__name__" := by decide) (hdb : (x == ("__debug__" : Str)) = false := by decide)
    (he : starEach [e] X.env = (false, eval e X.env) :: starEach [] X.env := by rfl) (hpl : (backTo pos (starEach [] X.env)).any (·.1) = false := by rfl) : IE X T (.Call (.Name x p) [e] [] pos) (mCallL r m) := (pe_callB hc hg hm hv (pa_cons ha pa_nil he) hn hdb he hpl).weak fun _ _ _ => lift_callL
theorem ie_callTyL {ty : String} {r : MRL} {m : ML} (hc : CallLs X T (.type ty) r) (hg : Gl X x) (hm : X.mg x = none) (hv : bootBuiltins x = some (.type ty)) (ha : IL X T e m) (hn : x ≠ "__name__" := by decide) (hdb : (x == ("__debug__" : Str)) = false := by decide)
    (he : starEach [e] X.env = (false, eval e X.env) :: starEach [] X.env := by rfl) (hpl : (backTo pos (starEach [] X.env)).any (·.1) = false := by rfl) : IE X T (.Call (.Name x p) [e] [] pos) (mCallL r m) := (pe_callTy hc hg hm hv (pa_cons ha pa_nil he) hn hdb he hpl).weak fun _ _ _ => lift_callL
/-! ### built-ins -/
theorem cq_len : CallQ X T (.builtin "len") (fun ws S P => P (.int ws.length) S) := cr_weak call_len_seq fun xs H Q ⟨ρ, S, ws, P, a, vs, e, r, hs, hw, p, k⟩ => ⟨a, vs, e, hs, by rw [← hw.length]; exact k.at r (.int _) p⟩
def rLenW : MRL := fun xs S P => match xs with
  | [.str z] => z.length ≤ sizeLine ∧ P (.int z.length) S
  | [.tup ws] => P (.int ws.length) S
  | [.ref i] => match S[i]? with
    | some (.lst ws) => P (.int ws.length) S
    | some (.dct kvs) => P (.int kvs.length) S
    | _ => False
  | _ => False
theorem cw_len : CallW X T (.builtin "len") rLenW := cr_weak (cr_or call_len_seq (cr_or call_len_str call_lenD)) fun xs H Q ⟨ρ, S, ws, P, r, hx, h, k⟩ => by
  cases hx with
  | nil => exact h.elim
  | cons h1 h2 =>
    cases h2 with
    | cons _ _ => cases h1 <;> exact h.elim
    | nil =>
      cases h1 with
      | str z => exact .inr (.inl ⟨z, rfl, h.1, k.at r (.int _) h.2⟩)
      | tup hs hr => exact .inl ⟨_, _, rfl, .inr hs, by rw [← hr.length]; exact k.at r (.int _) h⟩
      | ref hi =>
        simp only [rLenW] at h
        split at h
        · rename_i us e
          obtain ⟨vs, q1, q2⟩ := r.ob _ _ _ e hi
          exact .inl ⟨_, vs, rfl, .inl (SqL.of q1), by rw [← q2.length]; exact k.at r (.int _) h⟩
        · rename_i us e
          obtain ⟨vs, q1, q2⟩ := r.ob _ _ _ e hi
          exact .inr (.inr ⟨_, vs, rfl, q1, by rw [← Paired.length q2]; exact k.at r (.int _) h⟩)
        · exact h.elim
      | _ => exact h.elim
theorem cq_tuple : CallQ X T (.type "tuple") (fun ws S P => P (.tup ws) S) := cr_weak call_tuple_of fun xs H Q ⟨ρ, S, ws, P, a, vs, e, r, hs, hw, p, k⟩ => by
  refine ⟨a, vs, e, ?_⟩
  rcases hs with hs | hs
  · exact .inl ⟨hs, fun l hl => k.tup r hw hl p⟩
  · exact .inr ⟨hs, k.at r (.tup hs hw) p⟩
theorem cq_list : CallQ X T (.type "list") (fun ws S P => P (.ref S.length) (S ++ [.lst ws])) := cr_weak call_list_of fun xs H Q ⟨ρ, S, ws, P, a, vs, e, r, hs, hw, p, k⟩ => ⟨a, vs, e, hs, fun l hl => k.lst r hw hl p⟩
def rIntW : MRL := fun xs S P => match xs with
  | [.int i] => P (.int i) S
  | [.bl b] => P (.int (if b then 1 else 0)) S
  | _ => False
theorem cw_int : CallW X T (.type "int") rIntW := cr_weak call_int1 fun xs H Q ⟨ρ, S, ws, P, r, hx, h, k⟩ => by
  cases hx with
  | nil => exact h.elim
  | cons h1 h2 =>
    cases h2 with
    | cons _ _ => cases h1 <;> exact h.elim
    | nil =>
      cases h1 with
      | int i => exact .inl ⟨i, rfl, k.at r (.int _) h⟩
      | bl b => exact .inr ⟨b, rfl, k.at r (.int _) h⟩
      | _ => exact h.elim
/-- a value's built-in class -/
def tyW (S : Sto) : W → Option String
  | .non => some "NoneType"
  | .bl _ => some "bool"
  | .int _ => some "int"
  | .str _ => some "str"
  | .tup _ => some "tuple"
  | .ref i => match S[i]? with
    | some (.lst _) => some "list"
    | some (.dct _) => some "dict"
    | _ => none
  | .ty _ => none
theorem ty_x {K : PySem.W.Frag} {H : Hp} {ρ : List Addr} {S : Sto} {w : W} {v : V} {n : String} (r : Rep K T H ρ S) (hw : RW K H ρ w v) (h : tyW S w = some n) : TyX K H v (.type n) := by
  cases hw with
  | non => cases h; exact .base .non
  | bl b => cases h; exact .base (.bl b)
  | int i => cases h; exact .base (.int i)
  | str x => cases h; exact .base (.str x)
  | tup hs hr =>
    cases h
    rcases hs with (hs | ⟨o, hs⟩) | ⟨o, its, m, h1, h2, _⟩
    · exact .base (.tup hs)
    · exact .fTuple hs
    · exact .kTuple h1 h2
  | ref hi =>
    simp only [tyW] at h
    split at h
    · rename_i us e
      cases h
      obtain ⟨vs, q1, q2⟩ := r.ob _ _ _ e hi
      exact .base (.lst q1)
    · rename_i us e
      cases h
      obtain ⟨vs, q1, q2⟩ := r.ob _ _ _ e hi
      exact .base (.dK q1)
    · cases h
  | ty m => cases h
def rIsiW : MRL := fun xs S P => ∃ x n m b, xs = [x, .ty n] ∧ tyW S x = some m ∧ kitB m n = some b ∧ P (.bl b) S
theorem cw_isi : CallW X T (.builtin "isinstance") rIsiW := cr_weak call_isi fun xs H Q ⟨ρ, S, ws, P, r, hx, ⟨x, n, m, b, e, h1, h2, p⟩, k⟩ => by
  subst e
  cases hx with
  | cons a1 a2 =>
    cases a2 with
    | cons a3 a4 =>
      cases a4
      cases a3
      exact ⟨_, _, _, _, b, rfl, .ty n, ty_x r a1 h1, kit_ty h2, k.at r (.bl _) p⟩
/-- repr of data -/
def rReprW : MRL := fun xs S P => ∃ x d, xs = [x] ∧ DW S x d ∧ d.showable = true ∧ d.hasDict = false ∧ d.shown.length ≤ sizeLine ∧ d.depth ≤ 50 ∧ P (.str d.shown) S
theorem cw_repr (hgd : Gd X.A) (hr : Room k X.A) : CallW X T (.builtin "repr") rReprW := cr_weak (call_reprD hgd hr) fun xs H Q ⟨ρ, S, ws, P, r, hx, ⟨x, d, e, h0, h1, h2, h3, h4, p⟩, k⟩ => by
  subst e
  cases hx with
  | cons a1 a2 =>
    cases a2
    exact ⟨_, d, rfl, dw_dp r h0 a1, h1, h2, h3, h4, k.at r (.str _) p⟩
/-! ### a[b] -/
def kW : Key → W
  | .inl i => .int i
  | .inr x => .str x
def valW {κ : Type} [DecidableEq κ] (kvs : List (κ × W)) (k : κ) : Option W := (kvs.find? fun kv => decide (kv.1 = k)).map (·.2)
theorem kW_v {K : PySem.W.Frag} {H : Hp} {ρ : List Addr} {k : Key} {v : V} (h : RW K H ρ (kW k) v) : v = kV k := by
  cases k with
  | inl i => cases h; rfl
  | inr x => cases h; rfl
theorem kW_r {K : PySem.W.Frag} {H : Hp} {ρ : List Addr} (k : Key) : RW K H ρ (kW k) (kV k) := by
  cases k with
  | inl i => exact .int i
  | inr x => exact .str x
theorem val_rel {κ : Type} [DecidableEq κ] {K : PySem.W.Frag} {H : Hp} {ρ : List Addr} (k : κ) : ∀ {l : List (κ × W)} {m : List (κ × V)}, Paired (fun p q => p.1 = q.1 ∧ RW K H ρ p.2 q.2) l m →
    (valW l k = none ∧ valV m k = none) ∨ ∃ w v, valW l k = some w ∧ valV m k = some v ∧ RW K H ρ w v
  | _, _, .nil => .inl ⟨rfl, rfl⟩
  | p :: l, q :: m, .cons h r => by
    by_cases e : p.1 = k
    · exact .inr ⟨p.2, q.2, by simp [valW, e], by rw [valV_pos (h.1 ▸ e)], h.2⟩
    · have e1 : valW (p :: l) k = valW l k := by simp [valW, e]
      rw [e1, valV_neg (fun z => e (h.1.trans z))]
      exact val_rel k r
def rIxW : MR2 := fun x y S P => match x with
  | .tup ws => ∃ i w, y = .int i ∧ atI ws i = some w ∧ P w S
  | .str z => ∃ i c, y = .int i ∧ z.length ≤ sizeLine ∧ atI z.cps.toList i = some c ∧ P (.str ⟨#[c]⟩) S
  | .ref l => match S[l]? with
    | some (.lst ws) => ∃ i w, y = .int i ∧ atI ws i = some w ∧ P w S
    | some (.dct kvs) => ∃ key w, y = kW key ∧ valW kvs key = some w ∧ P w S
    | _ => False
  | _ => False
theorem ix_dict (hu : X.A.units + 1 < cLine) : IxR X (fun x y H Q => ∃ a v, x = .ref a ∧ DGet H a y (some v) ∧ Q v H) := by
  intro value slice pins s σ H x y v u Q I rx ry h hs
  obtain ⟨a, w, rfl, g, q⟩ := h
  cases rx
  exact tail_any (dict_typeIs I g) slot_dict_getitem.lookup (d_getItem hu I g ry fun w' s' I' rw' => ⟨w, H, I', rw', q⟩) hs
theorem atI_rel {K : PySem.W.Frag} {H : Hp} {ρ : List Addr} {ws : List W} {vs : List V} {i : Int} {w : W} (h : RWs K H ρ ws vs) (e : atI ws i = some w) : ∃ v, atI vs i = some v ∧ RW K H ρ w v := by
  unfold atI at e ⊢
  rw [← h.length]
  cases c : ixN ws.length i with
  | none => rw [c] at e; cases e
  | some j =>
    rw [c] at e
    exact h.get e
theorem ie_ix (hu : X.A.units + 1 < cLine) (ha : IE X T a ma) (hb : IE X T b mb) (hs : PlainIx b) : IE X T (.Subscript a b pos) (mOp rIxW ma mb) := by
  have R : IxR X (lift2 X.K T rIxW) := by
    intro value slice pins s σ H x y v u Q I rx ry h hsub
    refine (ix_list.or (ix_tup.or (ix_str.or (ix_dict hu)))) value slice pins s σ H x y v u Q I rx ry ?_ hsub
    obtain ⟨ρ, S, wx, wy, P, r, hx, hy, h, k⟩ := h
    cases hx with
    | tup hs hr =>
      obtain ⟨i, w, rfl, e, p⟩ := h
      cases hy
      obtain ⟨v', e', hv⟩ := atI_rel hr e
      exact .inr (.inl ⟨_, _, i, v', rfl, rfl, hs, e', k.at r hv p⟩)
    | str z =>
      obtain ⟨i, c, rfl, l, e, p⟩ := h
      cases hy
      exact .inr (.inr (.inl ⟨z, i, c, rfl, rfl, l, e, k.at r (.str _) p⟩))
    | ref hi =>
      simp only [rIxW] at h
      split at h
      · rename_i us eo
        obtain ⟨i, w, rfl, e, p⟩ := h
        cases hy
        obtain ⟨vs, q1, q2⟩ := r.ob _ _ _ eo hi
        obtain ⟨v', e', hv⟩ := atI_rel q2 e
        exact .inl ⟨_, vs, i, v', rfl, rfl, SqL.of q1, e', k.at r hv p⟩
      · rename_i us eo
        obtain ⟨key, w, rfl, e, p⟩ := h
        obtain ⟨vs, q1, q2⟩ := r.ob _ _ _ eo hi
        rcases val_rel key q2 with ⟨z, _⟩ | ⟨w', v', e1, e2, hv⟩
        · rw [e] at z; cases z
        · rw [e] at e1
          cases e1
          refine .inr (.inr (.inr ⟨_, v', rfl, ?_, k.at r hv p⟩))
          rw [kW_v hy, ← e2]
          exact DGet.k q1
      · exact h.elim
    | _ => exact h.elim
  exact (pe_ix R ha hb hs).weak fun _ _ _ => lift_op
end
end PL
set_option Elab.async false
set_option linter.all false
set_option maxRecDepth 100000
set_option maxHeartbeats 4000000
/-! ## comprehensions, slices, in, methods, more built-ins over the plain store -/
namespace PL
open PySem PySem.Spec PyProof.Rows L2 LamX KG
/-! ### comprehensions -/
section
variable {X : Cx} {T : List (Addr × Str)}
def ITs (X : Cx) (T : List (Addr × Str)) (ifs : List Expr) (m : MT) : Prop := PTs X ifs (liftT X.K T m)
theorem its_nil : ITs X T [] mYes := ⟨fun pins s σ H Q I ⟨ρ, τ, S, P, r, st, h, k⟩ => pts_nil.run pins s σ H Q I (k true S ρ H h (Stp.refl _ _) r)⟩
theorem its_one {c : Expr} {m : MT} (h : IT X T c m) : ITs X T [c] m := pts_one h
theorem il_lc {elt tg iter : Expr} {ifs : List Expr} {scope : Scope} {own : List (Str × Nat)} {pos : Pos} {mi : MI} {t : Tg} {mt : MT} {me : ME} (hc : X.calm = true) (hN : X.N.Nodup) (hi : II X T tg iter mi) (ok : BlkOk X.N X.env.scope scope own)
    (hg : ∀ (s : Shared) (H : Hp) (C : Addr) (cl : List (Str × Addr)) (fp : List Addr), IG (X.blk s H scope (compEnvC scope cl C X.env) fp) tg t) (ht : ∀ (s : Shared) (H : Hp) (C : Addr) (cl : List (Str × Addr)) (fp : List Addr), ITs (X.blk s H scope (compEnvC scope cl C X.env) fp) T ifs mt)
    (he : ∀ (s : Shared) (H : Hp) (C : Addr) (cl : List (Str × Addr)) (fp : List Addr), IE (X.blk s H scope (compEnvC scope cl C X.env) fp) T elt me) (hsl : ∀ i ∈ slT t, i ∈ own.map (·.2)) (hs : ∀ x, foldedSetIterable iter X.env x = pure x := by intro _; rfl) :
    IL X T (.ListComp elt [⟨tg, iter, ifs, 0⟩] scope pos) (mLc mi t mt me (own.map (·.2))) := (pe_lc (g := gT X.K t) (tt := liftT X.K T mt) (te := liftE X.K T me) hc hN hi ok (fun s H C cl fp => hg s H C cl fp) (fun s H C cl fp => ht s H C cl fp) (fun s H C cl fp => he s H C cl fp) hs).weak fun _ _ _ => lift_lc hsl
theorem is_setLc {i : Nat} {y : Str} {py : Pos} {elt tg iter : Expr} {ifs : List Expr} {scope : Scope} {own : List (Str × Nat)} {pos spos : Pos} {mi : MI} {t : Tg} {mt : MT} {me : ME} (hc : X.calm = true) (hN : X.N.Nodup) (hy : X.N[i]? = some y) (hyl : X.env.scope.names.lookup y = some .local)
    (hsw : swapsWith (.ListComp elt [⟨tg, iter, ifs, 0⟩] scope pos) (some (.Name y py)) spos.line X.env = pure true) (hi : II X T tg iter mi) (ok : BlkOk X.N X.env.scope scope own)
    (hg : ∀ (s : Shared) (H : Hp) (C : Addr) (cl : List (Str × Addr)) (fp : List Addr), IG (X.blk s H scope (compEnvC scope cl C X.env) fp) tg t) (ht : ∀ (s : Shared) (H : Hp) (C : Addr) (cl : List (Str × Addr)) (fp : List Addr), ITs (X.blk s H scope (compEnvC scope cl C X.env) fp) T ifs mt)
    (he : ∀ (s : Shared) (H : Hp) (C : Addr) (cl : List (Str × Addr)) (fp : List Addr), IE (X.blk s H scope (compEnvC scope cl C X.env) fp) T elt me) (hsl : ∀ i ∈ slT t, i ∈ own.map (·.2)) (hs : ∀ x, foldedSetIterable iter X.env x = pure x := by intro _; rfl) :
    IS X T (.Assign [.Name y py] (.ListComp elt [⟨tg, iter, ifs, 0⟩] scope pos) spos) (mSet i (mNum (mLc mi t mt me (own.map (·.2))))) := (ps_setLc (g := gT X.K t) (tt := liftT X.K T mt) (te := liftE X.K T me) hc hN hy hyl hsw hi ok (fun s H C cl fp => hg s H C cl fp) (fun s H C cl fp => ht s H C cl fp) (fun s H C cl fp => he s H C cl fp) hs).weak fun D σ H h => by
  obtain ⟨ρ, τ, S, E, r, s, h, k⟩ := h
  show tLc _ _ _ _ _ σ H _
  refine lift_lc (K := X.K) (T := T) hsl ⟨ρ, τ, S, _, r, s, h, fun ws S' p vs ρ' H' hp st r' h0 n h1 h2 => ?_⟩
  obtain ⟨st2, r2⟩ := stp_num st r' h0 n h1 h2
  exact k.nx _ _ _ _ _ hp st2 r2 ((s.stp r st2).set (.ref (by rw [← r'.len]; simp)) i)
end
theorem lcW_by {ok : Sto → Prop} {t : Tg} {mt : MT} {me : ME} {τ0 : Lo} {P : List W → Sto → Prop} (Pv : Nat → List W → Sto → Prop) {ws : List W} {S : Sto} (h0 : Pv 0 [] S) (hok : ∀ i acc S, i ≤ ws.length → Pv i acc S → ok S)
    (hl : ∀ i acc S, i < ws.length → Pv i acc S → acc.length < sizeLine)
    (hs : ∀ i w acc S, ws[i]? = some w → Pv i acc S → ∃ τ1, setT S t w τ0 = some τ1 ∧ ∀ F : List W → Sto → Prop, (∀ acc S, Pv (i + 1) acc S → F acc S) → mt τ1 S fun b S1 => if b = true then me τ1 S1 fun x S2 => F (acc ++ [x]) S2 else F acc S1)
    (hd : ∀ acc S, Pv ws.length acc S → P acc S) : lcW ok t mt me τ0 P ws [] S := by
  have key : ∀ (n i : Nat), ws.length - i = n → i ≤ ws.length → ∀ acc S, Pv i acc S → lcW ok t mt me τ0 P (ws.drop i) acc S := by
    intro n
    induction n with
    | zero =>
      intro i h1 h2 acc S p
      have e : i = ws.length := by omega
      subst e
      rw [List.drop_length]
      exact ⟨hok _ acc S (Nat.le_refl _) p, hd acc S p⟩
    | succ n ih =>
      intro i h1 h2 acc S p
      have lt : i < ws.length := by omega
      rw [List.drop_eq_getElem_cons lt]
      obtain ⟨τ1, e, q⟩ := hs i ws[i] acc S (List.getElem?_eq_getElem lt) p
      exact ⟨hok i acc S h2 p, hl i acc S lt p, τ1, e, q (fun acc S => lcW ok t mt me τ0 P (ws.drop (i + 1)) acc S) fun acc S p => ih (i + 1) (by omega) lt acc S p⟩
  exact key ws.length 0 rfl (Nat.zero_le _) [] S h0
/-! ### slices -/
abbrev MO := Lo → Sto → (Option Int → Sto → Prop) → Prop
def mNoP : MO := fun _ S P => P none S
def mP (m : ME) : MO := fun τ S P => m τ S fun w S1 => ∃ i, w = .int i ∧ P (some i) S1
def liftO (K : PySem.W.Frag) (T : List (Addr × Str)) (m : MO) : TO := fun σ H Q => ∃ (ρ : List Addr) (τ : Lo) (S : Sto) (P : Option Int → Sto → Prop), Rep K T H ρ S ∧ RSt K H ρ τ σ ∧ m τ S P ∧ ∀ o S' ρ' H', P o S' → Stp H ρ H' ρ' → Rep K T H' ρ' S' → Q o H'
def IO (X : Cx) (T : List (Addr × Str)) (e : Option Expr) (m : MO) : Prop := PO X e (liftO X.K T m)
def cutW (xs : List W) (lo hi : Option Int) : List W := (xs.drop (HT.sIx xs.length 0 lo)).take (HT.sIx xs.length xs.length hi - HT.sIx xs.length 0 lo)
abbrev MSl := W → Option Int → Option Int → Sto → WK → Prop
def rSlW : MSl := fun x lo hi S P => match x with
  | .tup ws => P (.tup (cutW ws lo hi)) S
  | .str z => z.length ≤ sizeLine ∧ P (.str (cutS z lo hi)) S
  | .ref i => ∃ ws, S[i]? = some (.lst ws) ∧ P (.ref S.length) (S ++ [.lst (cutW ws lo hi)])
  | _ => False
def mSl (me : ME) (lo hi : MO) : ME := fun τ S P => me τ S fun x S1 => lo τ S1 fun l S2 => hi τ S2 fun h S3 => rSlW x l h S3 P
section
variable {X : Cx} {T : List (Addr × Str)} {a b e o : Expr} {es : List Expr} {ma mb me mo : ME} {ms : MA} {pos p2 : Pos}
theorem io_none : IO X T none mNoP := ⟨fun pins s σ H Q I ⟨ρ, τ, S, P, r, st, h, k⟩ => po_none.run pins s σ H Q I (k none S ρ H h (Stp.refl _ _) r)⟩
theorem io_some (h : IE X T e me) : IO X T (some e) (mP me) := ⟨fun pins s σ H Q I ⟨ρ, τ, S, P, r, st, hm, k⟩ => (po_some h).run pins s σ H Q I (by
  refine ⟨ρ, τ, S, _, r, st, hm, fun w S' v ρ' H' hp st' r' hw => ?_⟩
  obtain ⟨i, rfl, p⟩ := hp
  cases hw
  exact ⟨i, rfl, k (some i) S' ρ' H' p st' r'⟩)⟩
theorem cut_rel {K : PySem.W.Frag} {H : Hp} {ρ : List Addr} {ws : List W} {vs : List V} (h : RWs K H ρ ws vs) (lo hi : Option Int) : RWs K H ρ (cutW ws lo hi) (cutV vs lo hi) := by
  unfold cutW cutV
  rw [h.length]
  exact (h.drop _).take _
theorem cutV_all {vs : List V} {lo hi : Option Int} (h : HT.sIx vs.length 0 lo = 0 ∧ HT.sIx vs.length vs.length hi = vs.length) : cutV vs lo hi = vs := by
  unfold cutV
  rw [h.1, h.2, List.drop_zero, Nat.sub_zero, List.take_length]
theorem ie_slice {lo hi : Option Expr} {ml mh : MO} (he : IE X T e me) (hl : IO X T lo ml) (hh : IO X T hi mh) : IE X T (.Subscript e (.Slice lo hi none p2) pos) (mSl me ml mh) := by
  have R : SlR X (fun x lo hi H Q => ∃ (ρ : List Addr) (S : Sto) (wx : W) (P : WK), Rep X.K T H ρ S ∧ RW X.K H ρ wx x ∧ rSlW wx lo hi S P ∧ Kont X.K T H ρ P Q) := by
    intro pins s σ H x v vl vu lo hi sl Q I rx hs pl pu h
    refine (sl_tupA.or (SlR.or sl_str sl_list)) pins s σ H x v vl vu lo hi sl Q I rx hs pl pu ?_
    obtain ⟨ρ, S, wx, P, r, hx, h, k⟩ := h
    cases hx with
    | tup hs hr =>
      have cr := cut_rel hr lo hi
      refine .inl ⟨_, _, rfl, hs, fun e => ?_, fun _ p hp => k.tup r cr hp h⟩
      rw [cutV_all e] at cr
      exact k.at r (.tup hs cr) h
    | str z => exact .inr (.inl ⟨z, rfl, h.1, k.at r (.str _) h.2⟩)
    | ref hi' =>
      obtain ⟨ws, e, p⟩ := h
      obtain ⟨vs, q1, q2⟩ := r.ob _ _ _ e hi'
      exact .inr (.inr ⟨_, vs, rfl, SqL.of q1, fun p' hp => k.lst r (cut_rel q2 lo hi) hp p⟩)
    | _ => exact h.elim
  refine (pe_slice R he hl hh).weak fun σ H Q h => ?_
  obtain ⟨ρ, τ, S, P, r, s, h, k⟩ := h
  refine ⟨ρ, τ, S, _, r, s, h, fun w S' v ρ' H' hp st r' hw => ?_⟩
  refine ⟨ρ', τ, S', _, r', s.stp r st, hp, fun l S2 ρ2 H2 hp2 st2 r2 => ?_⟩
  refine ⟨ρ2, τ, S2, _, r2, (s.stp r st).stp r' st2, hp2, fun u S3 ρ3 H3 hp3 st3 r3 => ?_⟩
  exact ⟨ρ3, S3, w, P, r3, (hw.stp r' st2).stp r2 st3, hp3, k.stp ((st.trans st2).trans st3)⟩
/-! ### in -/
def flW : W → Bool
  | .non => true | .bl _ => true | .int _ => true | .str _ => true | _ => false
/-- == of scalars, truths and numbers too -/
def eqF : W → W → Bool
  | .non, .non => true
  | .bl a, .bl b => a == b
  | .bl a, .int b => (if a then 1 else 0) == b
  | .int a, .bl b => a == (if b then 1 else 0)
  | .int a, .int b => a == b
  | .str a, .str b => a == b
  | _, _ => false
theorem fl_v {K : PySem.W.Frag} {H : Hp} {ρ : List Addr} {w : W} {v : V} (h : RW K H ρ w v) (f : flW w = true) : flatV v = true := by cases h <;> first | rfl | cases f
theorem eqF_v {K : PySem.W.Frag} {H : Hp} {ρ : List Addr} {x y : W} {u v : V} (hx : RW K H ρ x u) (hy : RW K H ρ y v) (fx : flW x = true) (fy : flW y = true) : eqV u v = eqF x y := by
  cases hx <;> cases hy <;> first | rfl | cases fx | cases fy
theorem fls_v {K : PySem.W.Frag} {H : Hp} {ρ : List Addr} : ∀ {ws : List W} {vs : List V}, RWs K H ρ ws vs → ws.all flW = true → vs.all flatV = true
  | _, _, .nil, _ => rfl
  | _, _, .cons a b, f => by
    rw [List.all_cons, Bool.and_eq_true] at f ⊢
    exact ⟨fl_v a f.1, fls_v b f.2⟩
theorem inF_v {K : PySem.W.Frag} {H : Hp} {ρ : List Addr} {x : W} {u : V} (hx : RW K H ρ x u) (fx : flW x = true) : ∀ {ws : List W} {vs : List V}, RWs K H ρ ws vs → ws.all flW = true → inV u vs = ws.any fun y => eqF y x
  | _, _, .nil, _ => rfl
  | _, _, .cons a b, f => by
    rw [List.all_cons, Bool.and_eq_true] at f
    show (eqV _ u || inV u _) = _
    rw [List.any_cons, eqF_v a hx f.1 fx, inF_v hx fx b f.2]
def rInB (x y : W) (S : Sto) (k : Bool → Prop) : Prop := match y with
  | .tup ws => flW x = true ∧ ws.all flW = true ∧ k (ws.any fun y => eqF y x)
  | .str z => ∃ c, x = .str ⟨#[c]⟩ ∧ k (decide (c ∈ z.cps.toList))
  | .ref i => match S[i]? with
    | some (.lst ws) => (flW x = true ∧ ws.all flW = true ∧ k (ws.any fun y => eqF y x)) ∨ ∃ d ds, DW S x d ∧ DWs S ws ds ∧ SeqAt.shaped d = true ∧ SeqAt.shaped (.list ds) = true ∧ k (ds.any fun z => PyData.eqv z d)
    | some (.dct kvs) => ∃ key, x = kW key ∧ k (valW kvs key).isSome
    | _ => False
  | _ => False
def rInW : MR2 := fun x y S P => rInB x y S fun b => P (.bl b) S
def rNotInW : MR2 := fun x y S P => rInB x y S fun b => P (.bl (!b)) S
theorem op_inDict (hu : X.A.units + 1 < cLine) : OpR X (compareOp .In) (fun x y H Q => ∃ a o, y = .ref a ∧ DGet H a x o ∧ Q (.bl o.isSome) H) := by
  intro pins s σ H x y v u Q I rx ry h
  obtain ⟨a, o, rfl, g, q⟩ := h
  cases ry
  exact d_in hu I g rx fun s' I' => ⟨.bl _, H, I', rfl, q⟩
theorem op_notInDict (hu : X.A.units + 1 < cLine) : OpR X (compareOp .NotIn) (fun x y H Q => ∃ a o, y = .ref a ∧ DGet H a x o ∧ Q (.bl (!o.isSome)) H) := by
  intro pins s σ H x y v u Q I rx ry h
  obtain ⟨a, o, rfl, g, q⟩ := h
  cases ry
  exact d_notIn hu I g rx fun s' I' => ⟨.bl _, H, I', rfl, q⟩
theorem val_some {κ : Type} [DecidableEq κ] {K : PySem.W.Frag} {H : Hp} {ρ : List Addr} (k : κ) {l : List (κ × W)} {m : List (κ × V)} (h : Paired (fun p q => p.1 = q.1 ∧ RW K H ρ p.2 q.2) l m) : (valV m k).isSome = (valW l k).isSome := by
  rcases val_rel k h with ⟨a, b⟩ | ⟨w, v, a, b, _⟩ <;> rw [a, b] <;> rfl
theorem ow_in (hu : X.A.units + 65 < cLine) : OpW X T (compareOp .In) rInW := opr_weak (opr_or op_in_seq (opr_or (op_inD hu) (opr_or op_in_sign (op_inDict (by omega))))) fun x y H Q ⟨ρ, S, wx, wy, P, r, hx, hy, h, k⟩ => by
  cases hy with
  | tup hs hr =>
    obtain ⟨f1, f2, p⟩ := h
    exact .inl ⟨_, _, rfl, .inr hs, fl_v hx f1, fls_v hr f2, by rw [if_neg Bool.false_ne_true, inF_v hx f1 hr f2]; exact k.at r (.bl _) p⟩
  | str z =>
    obtain ⟨c, rfl, p⟩ := h
    cases hx
    exact .inr (.inr (.inl ⟨c, z, rfl, rfl, k.at r (.bl _) p⟩))
  | ref hi =>
    simp only [rInW, rInB] at h
    split at h
    · rename_i us e
      obtain ⟨vs, q1, q2⟩ := r.ob _ _ _ e hi
      rcases h with ⟨f1, f2, p⟩ | ⟨d, ds, h1, h2, h3, h4, p⟩
      · exact .inl ⟨_, vs, rfl, .inl (SqL.of q1), fl_v hx f1, fls_v q2 f2, by rw [if_neg Bool.false_ne_true, inF_v hx f1 q2 f2]; exact k.at r (.bl _) p⟩
      · exact .inr (.inl ⟨d, ds, dw_dp r h1 hx, .lst (SqL.of q1) (dws_dp r h2 q2), h3, h4, k.at r (.bl _) p⟩)
    · rename_i us e
      obtain ⟨vs, q1, q2⟩ := r.ob _ _ _ e hi
      obtain ⟨key, rfl, p⟩ := h
      refine .inr (.inr (.inr ⟨_, _, rfl, by rw [kW_v hx]; exact DGet.k q1, ?_⟩))
      rw [val_some key q2]
      exact k.at r (.bl _) p
    · exact h.elim
  | _ => exact h.elim
theorem ow_notin (hu : X.A.units + 65 < cLine) : OpW X T (compareOp .NotIn) rNotInW := opr_weak (opr_or op_notIn_seq (opr_or (op_notInD hu) (opr_or op_notIn_sign (op_notInDict (by omega))))) fun x y H Q ⟨ρ, S, wx, wy, P, r, hx, hy, h, k⟩ => by
  cases hy with
  | tup hs hr =>
    obtain ⟨f1, f2, p⟩ := h
    exact .inl ⟨_, _, rfl, .inr hs, fl_v hx f1, fls_v hr f2, by rw [if_pos rfl, inF_v hx f1 hr f2]; exact k.at r (.bl _) p⟩
  | str z =>
    obtain ⟨c, rfl, p⟩ := h
    cases hx
    exact .inr (.inr (.inl ⟨c, z, rfl, rfl, k.at r (.bl _) p⟩))
  | ref hi =>
    simp only [rNotInW, rInB] at h
    split at h
    · rename_i us e
      obtain ⟨vs, q1, q2⟩ := r.ob _ _ _ e hi
      rcases h with ⟨f1, f2, p⟩ | ⟨d, ds, h1, h2, h3, h4, p⟩
      · exact .inl ⟨_, vs, rfl, .inl (SqL.of q1), fl_v hx f1, fls_v q2 f2, by rw [if_pos rfl, inF_v hx f1 q2 f2]; exact k.at r (.bl _) p⟩
      · exact .inr (.inl ⟨d, ds, dw_dp r h1 hx, .lst (SqL.of q1) (dws_dp r h2 q2), h3, h4, k.at r (.bl _) p⟩)
    · rename_i us e
      obtain ⟨vs, q1, q2⟩ := r.ob _ _ _ e hi
      obtain ⟨key, rfl, p⟩ := h
      refine .inr (.inr (.inr ⟨_, _, rfl, by rw [kW_v hx]; exact DGet.k q1, ?_⟩))
      rw [val_some key q2]
      exact k.at r (.bl _) p
    · exact h.elim
  | _ => exact h.elim
/-! ### methods of built-in types -/
def liftM (K : PySem.W.Frag) (T : List (Addr × Str)) (r : W → MRL) : V → List V → Hp → VK → Prop := fun x xs H Q => ∃ (ρ : List Addr) (S : Sto) (wx : W) (ws : List W) (P : WK), Rep K T H ρ S ∧ RW K H ρ wx x ∧ RWs K H ρ ws xs ∧ r wx ws S P ∧ Kont K T H ρ P Q
def MtW (X : Cx) (T : List (Addr × Str)) (id : String) (r : W → MRL) : Prop := MtR X id (liftM X.K T r)
theorem mtr_weak {id : String} {r r' : V → List V → Hp → VK → Prop} (h : MtR X id r) (w : ∀ x xs H Q, r' x xs H Q → r x xs H Q) : MtR X id r' := fun pins s σ H x xs v us Q I rx rs q => h pins s σ H x xs v us Q I rx rs (w _ _ _ _ q)
/-- the receiver is of that class -/
def isTy (Ty : String) (S : Sto) (w : W) : Prop := match w with
  | .str _ => Ty = "str"
  | .ref i => match S[i]? with
    | some (.lst _) => Ty = "list"
    | some (.dct _) => Ty = "dict"
    | _ => False
  | _ => False
theorem isTy_v {K : PySem.W.Frag} {H : Hp} {ρ : List Addr} {S : Sto} {w : W} {v : V} {Ty : String} (r : Rep K T H ρ S) (hw : RW K H ρ w v) (h : isTy Ty S w) : tyV K Ty v H := by
  cases hw with
  | str z => exact h
  | ref hi =>
    simp only [isTy] at h
    split at h
    · rename_i us e
      obtain ⟨vs, q1, q2⟩ := r.ob _ _ _ e hi
      exact .inl ⟨h, vs, SqL.of q1⟩
    · rename_i us e
      obtain ⟨vs, q1, q2⟩ := r.ob _ _ _ e hi
      exact .inr (.inr (.inl ⟨h, .inl ⟨vs, q1⟩⟩))
    · exact h.elim
  | _ => exact h.elim
def mBM (Ty : String) (r : W → MRL) (mo : ME) (ms : MA) : ME := fun τ S P => mo τ S fun x S1 => isTy Ty S1 x ∧ ms τ S1 fun xs S2 => r x xs S2 P
theorem ie_bm {Ty id : String} {name : Str} {r : W → MRL} {apos cpos : Pos} (pa : PlainAttrs Ty) (slot : Slot Ty name id) (hty : typeOf (.builtin id) = pure (.type "method_descriptor")) (hm : MtW X T id r) (ho : IE X T o mo) (ha : IA X T (e :: es) ms)
    (hbase : attributeBase o name X.env (eval o X.env) = eval o X.env := by rfl)
    (hfew : ((backTo cpos (starEach (e :: es) X.env)).all (fun x => !x.1) && (backToKw cpos (keywordEach [] X.env)).all (fun x => x.1.isSome)
      && decide ((e :: es).length + ([] : List Keyword).length + (if ([] : List Keyword).isEmpty then 0 else 1) < 30)) = true := by rfl)
    (hline : (apos.endLine == cpos.line) = true := by rfl) (hs : starEach (e :: es) X.env = (false, eval e X.env) :: starEach es X.env := by rfl) (hplain : (backTo cpos (starEach es X.env)).any (·.1) = false := by rfl) :
    IE X T (.Call (.Attribute o name apos) (e :: es) [] cpos) (mBM Ty r mo ms) := (pe_bm pa slot hty hm ho ha hbase hfew hline hs hplain).weak fun σ H Q h => by
  obtain ⟨ρ, τ, S, P, rr, s, h, k⟩ := h
  refine ⟨ρ, τ, S, _, rr, s, h, fun w S' v ρ' H' hp st r' hw => ⟨isTy_v r' hw hp.1, ?_⟩⟩
  exact ⟨ρ', τ, S', _, r', s.stp rr st, hp.2, fun ws S2 vs ρ2 H2 hp2 st2 r2 hws => ⟨ρ2, S2, w, ws, P, r2, hw.stp r' st2, hws, hp2, k.stp (st.trans st2)⟩⟩
def mBM0 (Ty : String) (r : W → MRL) (mo : ME) : ME := fun τ S P => mo τ S fun x S1 => isTy Ty S1 x ∧ r x [] S1 P
theorem ie_bm0 {Ty id : String} {name : Str} {r : W → MRL} {apos cpos : Pos} (pa : PlainAttrs Ty) (slot : Slot Ty name id) (hty : typeOf (.builtin id) = pure (.type "method_descriptor")) (hm : MtW X T id r) (ho : IE X T o mo)
    (hbase : attributeBase o name X.env (eval o X.env) = eval o X.env := by rfl) (hline : (apos.endLine == cpos.line) = true := by rfl) : IE X T (.Call (.Attribute o name apos) [] [] cpos) (mBM0 Ty r mo) := (pe_bm0 pa slot hty hm ho hbase hline).weak fun σ H Q h => by
  obtain ⟨ρ, τ, S, P, rr, s, h, k⟩ := h
  exact ⟨ρ, τ, S, _, rr, s, h, fun w S' v ρ' H' hp st r' hw => ⟨isTy_v r' hw hp.1, ρ', S', w, [], P, r', hw, .nil, hp.2, k.stp st⟩⟩
/-- a numbered list is written -/
theorem set_lst {K : PySem.W.Frag} {H : Hp} {ρ : List Addr} {S : Sto} {i : Nat} {a : Addr} {ws : List W} {vs us : List V} (r : Rep K T H ρ S) (hi : ρ[i]? = some a) (e : H a = some (.lst us)) (h : RWs K H ρ ws vs) :
    Stp H ρ (upd H a (.lst vs)) ρ ∧ Rep K T (upd H a (.lst vs)) ρ (S.set i (.lst ws)) := by
  have ma : a ∈ ρ := List.mem_of_getElem? hi
  have st : Stp H ρ (upd H a (.lst vs)) ρ := ⟨⟨[], by simp⟩, fun b w n h _ => by rw [upd_ne (fun e => n (by rw [e]; exact ma))]; exact h, fun _ h => .inl h⟩
  exact stp_set r hi ⟨vs, upd_same, h.stp r st⟩
theorem set_dct {K : PySem.W.Frag} {H : Hp} {ρ : List Addr} {S : Sto} {i : Nat} {a : Addr} {kvs : List (Key × W)} {kus : List (Key × V)} (r : Rep K T H ρ S) (hi : ρ[i]? = some a) (h : Paired (fun (p : Key × W) (q : Key × V) => p.1 = q.1 ∧ RW K H ρ p.2 q.2) kvs kus) :
    Stp H ρ (upd H a (.dK kus)) ρ ∧ Rep K T (upd H a (.dK kus)) ρ (S.set i (.dct kvs)) := by
  have ma : a ∈ ρ := List.mem_of_getElem? hi
  have st : Stp H ρ (upd H a (.dK kus)) ρ := ⟨⟨[], by simp⟩, fun b w n h _ => by rw [upd_ne (fun e => n (by rw [e]; exact ma))]; exact h, fun _ h => .inl h⟩
  exact stp_set r hi ⟨kus, upd_same, Paired.impS (fun _ _ z => ⟨z.1, z.2.stp r st⟩) h⟩
def rAppW : W → MRL := fun x xs S P => ∃ i ws y, x = .ref i ∧ xs = [y] ∧ S[i]? = some (.lst ws) ∧ ws.length < sizeLine ∧ P .non (S.set i (.lst (ws ++ [y])))
theorem mw_append : MtW X T "list.append" rAppW := mtr_weak mt_append fun x xs H Q ⟨ρ, S, wx, ws, P, r, hx, hs, ⟨i, us, y, e1, e2, eo, l, p⟩, k⟩ => by
  subst e1 e2
  cases hs with
  | cons h1 h2 =>
    cases h2
    cases hx with
    | ref hi =>
      obtain ⟨vs, q1, q2⟩ := r.ob _ _ _ eo hi
      obtain ⟨st, r2⟩ := set_lst r hi q1 (q2.app (.cons h1 .nil))
      exact ⟨_, vs, _, rfl, rfl, q1, by rw [← q2.length]; exact l, k _ _ _ _ _ p st r2 .non⟩
def rExtW : W → MRL := fun x xs S P => ∃ i j ws us, x = .ref i ∧ xs = [.ref j] ∧ S[i]? = some (.lst ws) ∧ S[j]? = some (.lst us) ∧ ws.length + us.length ≤ sizeLine ∧ P .non (S.set i (.lst (ws ++ us)))
theorem mw_extend : MtW X T "list.extend" rExtW := mtr_weak mt_extend fun x xs H Q ⟨ρ, S, wx, ws, P, r, hx, hs, ⟨i, j, us, ys, e1, e2, eo, ej, l, p⟩, k⟩ => by
  subst e1 e2
  cases hs with
  | cons h1 h2 =>
    cases h2
    cases h1 with
    | ref hj =>
      cases hx with
      | ref hi =>
        obtain ⟨vs, q1, q2⟩ := r.ob _ _ _ eo hi
        obtain ⟨vs2, q3, q4⟩ := r.ob _ _ _ ej hj
        obtain ⟨st, r2⟩ := set_lst r hi q1 (q2.app q4)
        exact ⟨_, _, vs, vs2, rfl, rfl, q1, q3, by rw [← q2.length, ← q4.length]; exact l, k _ _ _ _ _ p st r2 .non⟩
theorem RWs.dropLast {K : PySem.W.Frag} {H : Hp} {ρ : List Addr} {ws : List W} {vs : List V} (h : RWs K H ρ ws vs) : RWs K H ρ ws.dropLast vs.dropLast := by
  rw [List.dropLast_eq_take, List.dropLast_eq_take, h.length]
  exact h.take _
theorem RWs.erase {K : PySem.W.Frag} {H : Hp} {ρ : List Addr} : ∀ {ws : List W} {vs : List V} (n : Nat), RWs K H ρ ws vs → RWs K H ρ (ws.eraseIdx n) (vs.eraseIdx n)
  | _, _, _, .nil => .nil
  | _, _, 0, .cons h r => r
  | _, _, n + 1, .cons h r => .cons h (RWs.erase n r)
def rPopW : W → MRL := fun x xs S P => ∃ i ws, x = .ref i ∧ S[i]? = some (.lst ws) ∧ ((xs = [] ∧ ∃ y, ws[ws.length - 1]? = some y ∧ P y (S.set i (.lst ws.dropLast))) ∨ ∃ n k y, xs = [.int n] ∧ -(2 ^ 63) ≤ n ∧ n < 2 ^ 63 ∧ seqIndex? n ws.length = some k ∧ ws[k]? = some y ∧ P y (S.set i (.lst (ws.eraseIdx k))))
theorem mw_pop : MtW X T "list.pop" rPopW := mtr_weak (MtR.or mt_pop mt_popAt) fun x xs H Q ⟨ρ, S, wx, ws, P, r, hx, hs, ⟨i, us, e1, eo, h⟩, k⟩ => by
  subst e1
  cases hx with
  | ref hi =>
    obtain ⟨vs, q1, q2⟩ := r.ob _ _ _ eo hi
    rcases h with ⟨rfl, y, ey, p⟩ | ⟨n, j, y, rfl, n1, n2, n3, ey, p⟩
    · cases hs
      obtain ⟨v, ev, hv⟩ := q2.get ey
      obtain ⟨st, r2⟩ := set_lst r hi q1 q2.dropLast
      exact .inl ⟨_, vs, v, rfl, rfl, q1, by rw [← q2.length]; exact ev, k _ _ _ _ _ p st r2 (hv.stp r st)⟩
    · cases hs with
      | cons h1 h2 =>
        cases h2
        cases h1
        obtain ⟨v, ev, hv⟩ := q2.get ey
        obtain ⟨st, r2⟩ := set_lst r hi q1 (q2.erase j)
        exact .inr ⟨_, vs, n, j, v, rfl, rfl, q1, n1, n2, by rw [← q2.length]; exact n3, ev, k _ _ _ _ _ p st r2 (hv.stp r st)⟩
/-! ### more built-ins -/
theorem cl_sum (hc : X.calm = true) : CallLs X T (.builtin "sum") (fun ws S P => ∃ ns : List Int, ws = ns.map W.int ∧ P (.int ns.sum) S) := cr_weak (cr_sum hc) fun xs H Q ⟨ρ, S, ws, P, a, vs, e, r, hs, hw, ⟨ns, e2, p⟩, k⟩ => by
  subst e2
  rw [RWs.ints hw] at hs
  exact ⟨a, ns, e, hs, k.at r (.int _) p⟩
theorem cl_all (hc : X.calm = true) : CallLs X T (.builtin "all") (fun ws S P => ∃ bs : List Bool, ws = bs.map W.bl ∧ P (.bl (bs.all id)) S) := cr_weak (cr_all hc) fun xs H Q ⟨ρ, S, ws, P, a, vs, e, r, hs, hw, ⟨ns, e2, p⟩, k⟩ => by
  subst e2
  rw [RWs.bls hw] at hs
  exact ⟨a, ns, e, hs, k.at r (.bl _) p⟩
theorem cl_any (hc : X.calm = true) : CallLs X T (.builtin "any") (fun ws S P => ∃ bs : List Bool, ws = bs.map W.bl ∧ P (.bl (bs.any id)) S) := cr_weak (cr_any hc) fun xs H Q ⟨ρ, S, ws, P, a, vs, e, r, hs, hw, ⟨ns, e2, p⟩, k⟩ => by
  subst e2
  rw [RWs.bls hw] at hs
  exact ⟨a, ns, e, hs, k.at r (.bl _) p⟩
def rMax2W : MRL := fun xs S P => ∃ i j, xs = [.int i, .int j] ∧ P (.int (if j > i then j else i)) S
theorem cw_max2 (hc : X.calm = true) : CallW X T (.builtin "max") rMax2W := cr_weak (call_max2 hc) fun xs H Q ⟨ρ, S, ws, P, r, hx, ⟨i, j, e, p⟩, k⟩ => by
  subst e
  cases hx with
  | cons a1 a2 =>
    cases a2 with
    | cons a3 a4 =>
      cases a4
      cases a1
      cases a3
      exact ⟨i, j, rfl, k.at r (.int _) p⟩
def rMin2W : MRL := fun xs S P => ∃ i j, xs = [.int i, .int j] ∧ P (.int (if j < i then j else i)) S
theorem cw_min2 (hc : X.calm = true) : CallW X T (.builtin "min") rMin2W := cr_weak (call_min2 hc) fun xs H Q ⟨ρ, S, ws, P, r, hx, ⟨i, j, e, p⟩, k⟩ => by
  subst e
  cases hx with
  | cons a1 a2 =>
    cases a2 with
    | cons a3 a4 =>
      cases a4
      cases a1
      cases a3
      exact ⟨i, j, rfl, k.at r (.int _) p⟩
/-- sorted of data, any many -/
def sortW (ws : List W) : List W := ws.mergeSort fun a b => !PySem.W.dataLt b.dat a.dat
end
end PL
set_option Elab.async false
set_option linter.all false
set_option maxRecDepth 100000
set_option maxHeartbeats 4000000
/-! ## defs by name; short words for what the printer writes -/
namespace PL
open PySem PySem.Spec PyProof.Rows L2 LamX KG
/-- a def of the text: where it stands -/
structure Df (K : PySem.W.Frag) (mg : Str → Option Value) (x : Str) (st : Stmt) (ps : List Str) : Prop where
  ex : ∃ (f : Addr) (fd : FuncData), Fun K x x st f fd ∧ mg x = some (.ref f) ∧ PySem.W.keepIn K (.ref f) = true ∧ Binds K fd ps []
/-- a def that keeps a promise -/
structure Dw (P : Program) (w : World) (K : PySem.W.Frag) (mg : Str → Option Value) (base : Heap) (T : List (Addr × Str)) (x : Str) (k : Nat) (ps : List Str) (sp : MRL) : Prop where
  ex : ∃ (f : Addr) (fd : FuncData), FnG P w K mg base k f fd ps (SpW K T sp) ∧ mg x = some (.ref f) ∧ PySem.W.keepIn K (.ref f) = true ∧ Binds K fd ps []
section
variable {P : Program} {w : World} {K : PySem.W.Frag} {mg : Str → Option Value} {base : Heap} {T : List (Addr × Str)}
theorem okW {x : Str} {st : Stmt} {N ps : List Str} {k : Nat} {sp : MRL} (D : Df K mg x st ps) (Sc : FnScope N ps (defScope st))
    (len : ∀ ws S Q, sp ws S Q → ws.length = ps.length)
    (hbody : ∀ (f : Addr) (cdv : Value) (A : Around) (outer : List Env) (s : Shared) (H : Hp), Gd (A.deeper (envOfC x (defScope st) s.heap.objs.size f cdv)) → Room k (A.deeper (envOfC x (defScope st) s.heap.objs.size f cdv)) →
      ∃ m, ISs (cxOf CX0 P w K mg base N x (defScope st) f cdv A outer s H E0).nox T (defBody st) m ∧
        ∀ (ws : List W) (S : Sto) (Q : WK), stoCl S.length S → clL S.length ws = true → sp ws S Q → m ⟨fun _ S' => Cut S Q .non S', Cut S Q, noBr, noBr⟩ (startW N ws) S) :
    Dw P w K mg base T x (k + 1) ps sp := by
  obtain ⟨f, fd, F, h1, h2, h3⟩ := D.ex
  exact ⟨f, fd, okI F Sc len (hbody f), h1, h2, h3⟩
theorem Dw.mono {x : Str} {j k : Nat} {ps : List Str} {sp : MRL} (D : Dw P w K mg base T x j ps sp) (h : j ≤ k) : Dw P w K mg base T x k ps sp := by
  obtain ⟨f, fd, F, h1, h2, h3⟩ := D.ex
  exact ⟨f, fd, F.mono h, h1, h2, h3⟩
/-- a weaker promise -/
theorem Dw.weak {x : Str} {k : Nat} {ps : List Str} {sp sp' : MRL} (D : Dw P w K mg base T x k ps sp) (h : ∀ ws S Q, sp' ws S Q → sp ws S Q) : Dw P w K mg base T x k ps sp' := by
  obtain ⟨f, fd, F, h1, h2, h3⟩ := D.ex
  have up : ∀ {vs : List V} {H : Hp} {Q : VK}, liftL K T sp' vs H Q → liftL K T sp vs H Q := fun ⟨ρ, S, ws, Pq, r, hw, q, k⟩ => ⟨ρ, S, ws, Pq, r, hw, h _ _ _ q, k⟩
  exact ⟨f, fd, ⟨fun vs H Q E z => F.len vs H Q E (up z), fun A outer s H args us vs Q g hr he hb hv z => F.go A outer s H args us vs Q g hr he hb hv (up z)⟩, h1, h2, h3⟩
/-- an elder promise, told over the plain store -/
theorem Dw.of {x : Str} {k : Nat} {f : Addr} {fd : FuncData} {ps : List Str} {sp : Sp} {spw : MRL} (F : FnG P w K mg base k f fd ps sp) (h1 : mg x = some (.ref f)) (h2 : PySem.W.keepIn K (.ref f) = true) (h3 : Binds K fd ps [])
    (h : ∀ (ρ : List Addr) (S : Sto) (ws : List W) (vs : List V) (H : Hp) (Pq : WK) (Q : VK), Rep K T H ρ S → RWs K H ρ ws vs → spw ws S Pq → Kont K T H ρ Pq Q → sp vs H Q E0) : Dw P w K mg base T x k ps spw := by
  have up : ∀ {vs : List V} {H : Hp} {Q : VK}, liftL K T spw vs H Q → sp vs H Q E0 := fun ⟨ρ, S, ws, Pq, r, hw, q, k⟩ => h ρ S ws _ _ Pq _ r hw q k
  exact ⟨f, fd, ⟨fun vs H Q E z => F.len vs H Q E0 (up z), fun A outer s H args us vs Q g hr he hb hv z => F.go A outer s H args us vs Q g hr he hb hv (up z)⟩, h1, h2, h3⟩
end
section
variable {X : Cx} {T : List (Addr × Str)} {k : Nat} {ps : List Str} {sp : MRL} {x : Str} {p pos : Pos} {e : Expr} {es : List Expr} {ms : MA}
theorem iv (i : Nat) {x : Str} {pos : Pos} (hN : X.N[i]? = some x := by rfl) (hv : Vis X.env.scope x := by first | exact .inl rfl | exact .inr (.inl rfl) | exact .inr (.inr rfl)) (hd : (x == ("__debug__" : Str)) = false := by decide) (hcd : (x == ("__classdict__" : Str)) = false := by decide) : IE X T (.Name x pos) (mVar i) := ie_var hN hv hd hcd
theorem igm {i : Nat} {x : Str} {pos : Pos} (hN : X.N.Nodup) (hi : X.N[i]? = some x := by rfl) (hx : Loc X.env.scope x := by first | exact .inl rfl | exact .inr rfl) (hf : X.fn x = true ∨ X.env.scope.names.lookup x = some .local := by first | exact .inl rfl | exact .inr rfl) : IG X (.Name x pos) (.nm i) := ig_nm hN hi hx hf
theorem ie_def (D : Dw X.prog X.w X.K X.mg X.base T x k ps sp) (hgd : Gd X.A) (hr : Room k X.A) (ha : IA X T (e :: es) ms) (hg : Gl X x) (hdb : (x == ("__debug__" : Str)) = false := by decide) (he : starEach (e :: es) X.env = (false, eval e X.env) :: starEach es X.env := by rfl)
    (hpl : (backTo pos (starEach es X.env)).any (·.1) = false := by rfl) : IE X T (.Call (.Name x p) (e :: es) [] pos) (mCall sp ms) := by
  obtain ⟨f, fd, F, h1, h2, h3⟩ := D.ex
  exact ie_call F hgd hr hg h1 h2 h3 ha hdb he hpl
end
end PL
set_option Elab.async false
set_option linter.all false
set_option maxRecDepth 100000
set_option maxHeartbeats 4000000
/-! ## dicts, growing stores -/
namespace PL
open PySem PySem.Spec PyProof.Rows L2 LamX KG
theorem ifB {c : Bool} {A B : Prop} (h1 : c = true → A) (h2 : ¬ c = true → B) : if c = true then A else B := by
  by_cases e : c = true
  · rw [if_pos e]; exact h1 e
  · rw [if_neg e]; exact h2 e
theorem le_units {k : Nat} {A : Around} (hr : Room k A) : A.units + 1 < cLine := Nat.lt_of_le_of_lt (by omega) hr.units
theorem sl0 {n : Nat} (h : n ≤ 10000) : n < sizeLine := by rw [sizeLine_eq]; omega
theorem sl1 {n : Nat} (h : n ≤ 10000) : n ≤ sizeLine := Nat.le_of_lt (sl0 h)
/-! ### tables -/
section
variable {κ : Type} [DecidableEq κ]
def putW (kvs : List (κ × W)) (k : κ) (w : W) : List (κ × W) := if (kvs.any fun kv => decide (kv.1 = k)) = true then kvs.map (fun kv => if kv.1 = k then (kv.1, w) else kv) else kvs ++ [(k, w)]
theorem any_find {l : List (κ × W)} {k : κ} : (l.any fun kv => decide (kv.1 = k)) = (valW l k).isSome := by
  induction l with
  | nil => rfl
  | cons p r ih =>
    by_cases e : p.1 = k
    · simp [valW, e]
    · have : valW (p :: r) k = valW r k := by simp [valW, e]
      rw [List.any_cons, ih, this]
      simp [e]
theorem valW_cons {p : κ × W} {r : List (κ × W)} {k : κ} : valW (p :: r) k = if p.1 = k then some p.2 else valW r k := by
  by_cases e : p.1 = k <;> simp [valW, e]
theorem valW_app {l m : List (κ × W)} {k : κ} : valW (l ++ m) k = (valW l k).or (valW m k) := by
  induction l with
  | nil => simp [valW]
  | cons p r ih =>
    rw [List.cons_append, valW_cons, valW_cons, ih]
    by_cases e : p.1 = k
    · rw [if_pos e, if_pos e]; rfl
    · rw [if_neg e, if_neg e]
theorem valW_put {kvs : List (κ × W)} {k j : κ} {w : W} : valW (putW kvs k w) j = if j = k then some w else valW kvs j := by
  unfold putW
  split
  · rename_i h
    induction kvs with
    | nil => cases h
    | cons p r ih =>
      rw [List.map_cons, valW_cons, valW_cons]
      by_cases e : p.1 = k
      · rw [if_pos e]
        by_cases c : j = k
        · rw [if_pos c, if_pos (e.trans c.symm)]
        · rw [if_neg c, if_neg (fun z => c (z.symm.trans e)), if_neg (fun z => c (z.symm.trans e))]
          by_cases a : (r.any fun kv => decide (kv.1 = k)) = true
          · rw [ih a, if_neg c]
          · have : r.map (fun kv => if kv.1 = k then (kv.1, w) else kv) = r := by
              conv => rhs; rw [← List.map_id r]
              refine List.map_congr_left fun q hq => if_neg fun z => a (List.any_eq_true.mpr ⟨q, hq, decide_eq_true z⟩)
            rw [this]
      · rw [if_neg e]
        have a : (r.any fun kv => decide (kv.1 = k)) = true := by simpa [e] using h
        rw [ih a]
        by_cases c : p.1 = j
        · rw [if_pos c, if_pos c, if_neg (fun z => e (c.trans z))]
        · rw [if_neg c, if_neg c]
  · rename_i h
    rw [valW_app, valW_cons]
    rw [any_find] at h
    by_cases c : j = k
    · subst c
      rw [if_pos rfl, if_pos rfl]
      cases e : valW kvs j with
      | none => rfl
      | some x => rw [e] at h; exact (h rfl).elim
    · rw [if_neg (Ne.symm c), if_neg c]
      cases valW kvs j <;> rfl
def mergeW (kvs more : List (κ × W)) : List (κ × W) := more.foldl (fun acc kv => putW acc kv.1 kv.2) kvs
theorem valW_merge_in {more acc : List (κ × W)} {k : κ} {F : κ → W → Prop} (hF : ∀ kv ∈ more, F kv.1 kv.2) (h : (∃ w, valW acc k = some w ∧ F k w) ∨ k ∈ more.map (·.1)) : ∃ w, valW (mergeW acc more) k = some w ∧ F k w := by
  induction more generalizing acc with
  | nil =>
    rcases h with h | h
    · exact h
    · cases h
  | cons kv r ih =>
    refine ih (acc := putW acc kv.1 kv.2) (fun q hq => hF q (List.mem_cons_of_mem _ hq)) ?_
    rw [valW_put]
    by_cases e : k = kv.1
    · exact .inl ⟨kv.2, if_pos e, e ▸ hF kv (List.mem_cons_self ..)⟩
    · rw [if_neg e]
      rcases h with h | h
      · exact .inl h
      · exact .inr ((List.mem_cons.mp h).resolve_left e)
section
variable {K : PySem.W.Frag} {H : Hp} {ρ : List Addr}
theorem any_rel (k : κ) : ∀ {l : List (κ × W)} {m : List (κ × V)}, Paired (fun p q => p.1 = q.1 ∧ RW K H ρ p.2 q.2) l m → (l.any fun kv => decide (kv.1 = k)) = m.any fun kv => decide (kv.1 = k)
  | _, _, .nil => rfl
  | _, _, .cons h r => by rw [List.any_cons, List.any_cons, any_rel k r, h.1]
theorem map_rel {k : κ} {w : W} {v : V} (hw : RW K H ρ w v) : ∀ {l : List (κ × W)} {m : List (κ × V)}, Paired (fun p q => p.1 = q.1 ∧ RW K H ρ p.2 q.2) l m → Paired (fun p q => p.1 = q.1 ∧ RW K H ρ p.2 q.2) (l.map fun kv => if kv.1 = k then (kv.1, w) else kv) (m.map fun kv => if kv.1 = k then (kv.1, v) else kv)
  | _, _, .nil => .nil
  | _, _, .cons (a := p) (b := q) a b => by
    refine .cons ?_ (map_rel hw b)
    show (if p.1 = k then (p.1, w) else p).1 = (if q.1 = k then (q.1, v) else q).1 ∧ RW K H ρ (if p.1 = k then (p.1, w) else p).2 (if q.1 = k then (q.1, v) else q).2
    by_cases e : p.1 = k
    · rw [if_pos e, if_pos (a.1.symm.trans e)]; exact ⟨a.1, hw⟩
    · rw [if_neg e, if_neg (fun z => e (a.1.trans z))]; exact a
theorem put_rel {k : κ} {w : W} {v : V} (hw : RW K H ρ w v) {l : List (κ × W)} {m : List (κ × V)} (h : Paired (fun p q => p.1 = q.1 ∧ RW K H ρ p.2 q.2) l m) : Paired (fun p q => p.1 = q.1 ∧ RW K H ρ p.2 q.2) (putW l k w) (putK m k v) := by
  unfold putW putK
  rw [any_rel k h]
  split
  · exact map_rel hw h
  · exact Paired.appS h (.cons ⟨rfl, hw⟩ .nil)
end
end
theorem merge_rel {K : PySem.W.Frag} {H : Hp} {ρ : List Addr} : ∀ {more : List (Key × W)} {mv : List (Key × V)} {l : List (Key × W)} {m : List (Key × V)}, Paired (fun p q => p.1 = q.1 ∧ RW K H ρ p.2 q.2) more mv → Paired (fun p q => p.1 = q.1 ∧ RW K H ρ p.2 q.2) l m → Paired (fun p q => p.1 = q.1 ∧ RW K H ρ p.2 q.2) (mergeW l more) (mergeK m mv)
  | _, _, l, m, .nil, h => h
  | _, _, l, m, .cons (a := p) (b := q) a b, h => by
    show Paired _ (mergeW (putW l p.1 p.2) _) (mergeK (putK m q.1 q.2) _)
    have z := put_rel (k := p.1) a.2 h
    rw [show putK m p.1 q.2 = putK m q.1 q.2 by rw [a.1]] at z
    exact merge_rel b z
section
variable {X : Cx} {T : List (Addr × Str)} {K : PySem.W.Frag} {H : Hp} {ρ : List Addr}
def pairsW : List W → Option (List (Key × W))
  | [] => some []
  | .tup [.int i, w] :: r => (pairsW r).map ((Sum.inl i, w) :: ·)
  | .tup [.str x, w] :: r => (pairsW r).map ((Sum.inr x, w) :: ·)
  | _ :: _ => none
theorem pairs_rel : ∀ {ws : List W} {vs : List V} {kws : List (Key × W)}, RWs K H ρ ws vs → pairsW ws = some kws → ∃ (ps : List Addr) (kvs : List (Key × V)), vs = ps.map V.ref ∧ Paired (fun p kv => SqT K H p [kV kv.1, kv.2]) ps kvs ∧ Paired (fun p q => p.1 = q.1 ∧ RW K H ρ p.2 q.2) kws kvs
  | _, _, kws, .nil, e => by cases e; exact ⟨[], [], rfl, .nil, .nil⟩
  | _, _, kws, .cons (w := w) (v := v) (ws := ws) (vs := vs) h r, e => by
    have key : ∀ (k : Key) (x : W) (e2 : w = .tup [kW k, x]) (e3 : (pairsW ws).map ((k, x) :: ·) = some kws), ∃ (ps : List Addr) (kvs : List (Key × V)), v :: vs = ps.map V.ref ∧ Paired (fun p kv => SqT K H p [kV kv.1, kv.2]) ps kvs ∧ Paired (fun p q => p.1 = q.1 ∧ RW K H ρ p.2 q.2) kws kvs := fun k x e2 e3 => by
      subst e2
      obtain ⟨l, el, rfl⟩ := Option.map_eq_some_iff.mp e3
      obtain ⟨ps, kvs, rfl, h1, h2⟩ := pairs_rel r el
      cases h with
      | tup hs hr =>
        cases hr with
        | cons a1 hr => cases hr with
          | cons a2 hr =>
            cases hr
            rw [kW_v a1] at hs
            exact ⟨_ :: ps, (k, _) :: kvs, rfl, .cons hs h1, .cons ⟨rfl, a2⟩ h2⟩
    unfold pairsW at e
    split at e
    · rename_i z; cases z
    · rename_i i x r' z
      cases z
      exact key (Sum.inl i) x rfl e
    · rename_i i x r' z
      cases z
      exact key (Sum.inr i) x rfl e
    · cases e
/-- a dict of a list of pairs -/
theorem cl_dict (hc : X.calm = true) : CallLs X T (.type "dict") (fun ws S P => ∃ kws, pairsW ws = some kws ∧ P (.ref S.length) (S ++ [.dct (mergeW [] kws)])) := cr_weak (call_dictP hc) fun xs H Q ⟨ρ, S, ws, P, a, vs, e, r, hs, hw, ⟨kws, ek, p⟩, k⟩ => by
  obtain ⟨ps, kvs, rfl, h1, h2⟩ := pairs_rel hw ek
  refine ⟨a, ps, kvs, e, hs, h1, fun q hq => ?_⟩
  have m := merge_rel h2 (.nil)
  have st0 := stp_new (o := .dK (mergeK [] kvs)) r hq
  obtain ⟨st, r2⟩ := stp_laid (u := .dK (mergeK [] kvs)) (o := .dct (mergeW [] kws)) r hq (by
    have st1 : Stp H ρ (upd H q (.dK (mergeK [] kvs))) (ρ ++ [q]) := ⟨⟨[q], rfl⟩, fun a u _ h _ => by rw [upd_ne (ne_of_none h hq)]; exact h, fun a h => by
      rcases List.mem_append.mp h with z | z
      · exact .inl z
      · rw [List.mem_singleton.mp z]
        exact .inr (NT.of hq)⟩
    exact ⟨_, upd_same, Paired.impS (fun _ _ z => ⟨z.1, z.2.stp r st1⟩) m⟩)
  exact k _ _ _ _ _ p st r2 (.ref (by rw [← r.len]; simp))
end
/-! ### the store grows; some objects may change -/
structure Gr (l : List Nat) (S S' : Sto) : Prop where
  len : S.length ≤ S'.length
  at_ : ∀ k, k < S.length → k ∉ l → S'[k]? = S[k]?
theorem Gr.refl (l : List Nat) (S : Sto) : Gr l S S := ⟨Nat.le_refl _, fun _ _ _ => rfl⟩
theorem Gr.trans {l : List Nat} {S S1 S2 : Sto} (a : Gr l S S1) (b : Gr l S1 S2) : Gr l S S2 := ⟨Nat.le_trans a.len b.len, fun k n h => (b.at_ k (Nat.lt_of_lt_of_le n a.len) h).trans (a.at_ k n h)⟩
theorem Gr.app (l : List Nat) (S G : Sto) : Gr l S (S ++ G) := ⟨by simp, fun k n _ => List.getElem?_append_left n⟩
theorem Gr.push {l : List Nat} {S S1 : Sto} (a : Gr l S S1) (G : Sto) : Gr l S (S1 ++ G) := a.trans (Gr.app l S1 G)
theorem Gr.get {l : List Nat} {S S' : Sto} (a : Gr l S S') {k : Nat} {o : O} (h : S[k]? = some o) (n : k ∉ l) : S'[k]? = some o := (a.at_ k (List.getElem?_eq_some_iff.mp h).1 n).trans h
theorem Gr.sub {l m : List Nat} {S S' : Sto} (a : Gr l S S') (h : ∀ k ∈ l, k ∈ m) : Gr m S S' := ⟨a.len, fun k n z => a.at_ k n fun y => z (h k y)⟩
theorem Gr.old {l : List Nat} {S S' : Sto} {j : Nat} (a : Gr (j :: l) S S') (h : S.length ≤ j) : Gr l S S' := ⟨a.len, fun k n z => a.at_ k n fun y => by
  rcases List.mem_cons.mp y with e | e
  · omega
  · exact z e⟩
theorem get_app {S G : Sto} {k : Nat} {o : O} (h : S[k]? = some o) : (S ++ G)[k]? = some o := by rw [List.getElem?_append_left (List.getElem?_eq_some_iff.mp h).1]; exact h
theorem get_new {S : Sto} {o : O} : (S ++ [o])[S.length]? = some o := by simp
end PL
set_option Elab.async false
set_option linter.all false
set_option maxRecDepth 100000
set_option maxHeartbeats 4000000
/-! ## elder promises told over the plain store -/
namespace Q16
open PySem PySem.Spec PyProof.Rows L2 KG PL LamX
theorem rep_chg {K : PySem.W.Frag} {T : List (Addr × Str)} {H H' : Hp} {ρ : List Addr} {S S' : Sto} (r : Rep K T H ρ S) (st : Stp H ρ H' ρ) (tb : Tabs T H') (len : S'.length = S.length)
    (h : ∀ (k : Nat) (o : O) (a : Addr), S'[k]? = some o → ρ[k]? = some a → (S[k]? = some o ∧ H' a = H a) ∨ RO K H' ρ a o) : Rep K T H' ρ S' :=
  ⟨by rw [r.len, len], r.nd, tb, fun k o a e1 e2 => (h k o a e1 e2).elim (fun z => (r.ob k o a z.1 e2).stp r st z.2) id⟩
/-- all but the tables is kept -/
theorem rep_ext {K : PySem.W.Frag} {T : List (Addr × Str)} {H H' : Hp} {ρ : List Addr} {S : Sto} (r : Rep K T H ρ S) (e : ExtN H H') (tb : Tabs T H') : Stp H ρ H' ρ ∧ Rep K T H' ρ S := by
  have st : Stp H ρ H' ρ := ⟨⟨[], by simp⟩, fun a o _ h nt => e a o h nt, fun _ h => .inl h⟩
  refine ⟨st, rep_chg r st tb rfl fun k o a e1 e2 => .inl ⟨e1, ?_⟩⟩
  obtain ⟨u, eu, _, nt⟩ := (r.ob k o a e1 e2).mutK
  rw [eu, e a u eu nt]
/-- terms as values -/
def encT : SU.Trm → W
  | .num k => .tup [.str "num", .int k]
  | .nam x => .tup [.str "name", .str x]
  | .op w a b => .tup [.str w, encT a, encT b]
section
variable {K : PySem.W.Frag} {T : List (Addr × Str)} {H : Hp} {ρ : List Addr}
theorem tm_rw : ∀ {v : V} {t : SU.Trm}, SA.TmAt K H v t → RW K H ρ (encT t) v
  | _, _, .num h => .tup h (.cons (.str _) (.cons (.int _) .nil))
  | _, _, .nam h => .tup h (.cons (.str _) (.cons (.str _) .nil))
  | _, _, .op hw h h1 h2 => .tup h (.cons (.str _) (.cons (tm_rw h1) (.cons (tm_rw h2) .nil)))
/-- its words are words -/
def Wd : SU.Trm → Prop
  | .num _ => True
  | .nam _ => True
  | .op w a b => w ∈ SU.six ∧ Wd a ∧ Wd b
theorem rw_tm : ∀ {t : SU.Trm} {v : V}, RW K H ρ (encT t) v → Wd t → SA.TmAt K H v t
  | .num k, _, h, _ => by
    simp only [encT] at h
    cases h with
    | tup hs hr =>
      cases hr with
      | cons a r => cases r with
        | cons b r => cases r; cases a; cases b; exact .num hs
  | .nam k, _, h, _ => by
    simp only [encT] at h
    cases h with
    | tup hs hr =>
      cases hr with
      | cons a r => cases r with
        | cons b r => cases r; cases a; cases b; exact .nam hs
  | .op w t u, _, h, hw => by
    simp only [encT] at h
    cases h with
    | tup hs hr =>
      cases hr with
      | cons a r => cases r with
        | cons b r => cases r with
          | cons c r => cases r; cases a; exact .op hw.1 hs (rw_tm b hw.2.1) (rw_tm c hw.2.2)
theorem wd_good : ∀ {t : SU.Trm}, t.Good → Wd t
  | .num _, _ => True.intro
  | .nam _, _ => True.intro
  | .op w a b, h => ⟨h.1, wd_good h.2.1, wd_good h.2.2⟩
def encP (p : SU.Trm × SU.Trm) : W := .tup [encT p.1, encT p.2]
theorem pr_rw {v : V} {p : SU.Trm × SU.Trm} (h : SA.PrAt K H v p) : RW K H ρ (encP p) v := by
  obtain ⟨r, v1, v2, rfl, h1, h2, h3⟩ := h
  exact .tup h1 (.cons (tm_rw h2) (.cons (tm_rw h3) .nil))
theorem prs_rw : ∀ {vs : List V} {L : List (SU.Trm × SU.Trm)}, Paired (SA.PrAt K H) vs L → RWs K H ρ (L.map encP) vs
  | _, _, .nil => .nil
  | _, _, .cons a b => .cons (pr_rw a) (prs_rw b)
end
/-! ### the deck -/
structure DkW (S : Sto) (i j : Nat) : Prop where
  ex : ∃ (ns : List Int) (sd n : Int), S[i]? = some (.lst [.ref j, .int sd, .int n]) ∧ S[j]? = some (.lst (ns.map W.int)) ∧ ns.length ≤ 63 ∧ 0 ≤ sd ∧ sd < 2147483648
  ne : i ≠ j
/-- all but some objects stand -/
structure Sv (l : List Nat) (S S' : Sto) : Prop where
  len : S'.length = S.length
  at_ : ∀ k, k ∉ l → S'[k]? = S[k]?
theorem Sv.refl (l : List Nat) (S : Sto) : Sv l S S := ⟨rfl, fun _ _ => rfl⟩
theorem Sv.trans {l : List Nat} {S S1 S2 : Sto} (a : Sv l S S1) (b : Sv l S1 S2) : Sv l S S2 := ⟨b.len.trans a.len, fun k n => (b.at_ k n).trans (a.at_ k n)⟩
section
variable {K : PySem.W.Frag} {T : List (Addr × Str)} {H H' : Hp} {ρ : List Addr} {S : Sto}
theorem rw_ref {i : Nat} {v : V} (h : RW K H ρ (.ref i) v) : ∃ a, v = .ref a ∧ ρ[i]? = some a := by
  cases h with
  | ref h => exact ⟨_, rfl, h⟩
theorem rho_ne (r : Rep K T H ρ S) {i j : Nat} {a b : Addr} (h1 : ρ[i]? = some a) (h2 : ρ[j]? = some b) (n : i ≠ j) : a ≠ b := fun e => by
  subst e
  obtain ⟨l1, e1⟩ := List.getElem?_eq_some_iff.mp h1
  obtain ⟨l2, e2⟩ := List.getElem?_eq_some_iff.mp h2
  exact n ((List.getElem_inj r.nd).mp (e1.trans e2.symm))
theorem dk_v (r : Rep K T H ρ S) {i j : Nat} (d : DkW S i j) {a : Addr} (ha : ρ[i]? = some a) : ∃ c, ρ[j]? = some c ∧ K15.Deck H a c := by
  obtain ⟨⟨ns, sd, n, e1, e2, l, s0, s1⟩, ne⟩ := d
  obtain ⟨vs, q1, q2⟩ := r.ob _ _ _ e1 ha
  cases q2 with
  | cons a1 q2 => cases q2 with
    | cons a2 q2 => cases q2 with
      | cons a3 q2 =>
        cases q2
        cases a2
        cases a3
        obtain ⟨c, rfl, hc⟩ := rw_ref a1
        obtain ⟨us, p1, p2⟩ := r.ob _ _ _ e2 hc
        rw [RWs.ints p2] at p1
        exact ⟨c, hc, ⟨ns, sd, n, q1, p1, l, s0, s1⟩, rho_ne r ha hc ne⟩
theorem dk_w (r : Rep K T H ρ S) {i j : Nat} (ne : i ≠ j) {a c : Addr} (ha : ρ[i]? = some a) (hc : ρ[j]? = some c) (d : K15.Deck H a c) (m : K15.Mv a c H H') : ∃ S', Stp H ρ H' ρ ∧ Rep K T H' ρ S' ∧ DkW S' i j ∧ Sv [i, j] S S' := by
  have st : Stp H ρ H' ρ := ⟨⟨[], by simp⟩, fun b o n h _ => m.keep b o h (fun e => n (by rw [e]; exact List.mem_of_getElem? ha)) (fun e => n (by rw [e]; exact List.mem_of_getElem? hc)), fun _ h => .inl h⟩
  obtain ⟨⟨ns, sd, n, e1, e2, l, s0, s1⟩, _⟩ := m.deck
  have li : i < S.length := by rw [← r.len]; exact (List.getElem?_eq_some_iff.mp ha).1
  have lj : j < S.length := by rw [← r.len]; exact (List.getElem?_eq_some_iff.mp hc).1
  refine ⟨(S.set i (.lst [.ref j, .int sd, .int n])).set j (.lst (ns.map W.int)), st, ?_, ⟨⟨ns, sd, n, ?_, ?_, l, s0, s1⟩, ne⟩, ⟨by simp, fun k hk => ?_⟩⟩
  · have tb : Tabs T H' := K15.tabs_mv d (fun b o e nl => by
      obtain ⟨xs, x1⟩ := d.lst1
      obtain ⟨ys, y1⟩ := d.lst2
      refine m.keep b o e (fun z => ?_) (fun z => ?_)
      · rw [z, x1] at e; exact nl xs (Option.some.inj e).symm
      · rw [z, y1] at e; exact nl ys (Option.some.inj e).symm) r.tabs
    refine rep_chg r st tb (by simp) fun k o b h1 h2 => ?_
    by_cases cj : j = k
    · subst cj
      rw [List.getElem?_set_self (by simpa using lj)] at h1
      cases h1
      rw [hc] at h2
      cases h2
      exact .inr ⟨_, e2, RWs.toInts ns⟩
    · rw [List.getElem?_set_ne cj] at h1
      by_cases ci : i = k
      · subst ci
        rw [List.getElem?_set_self li] at h1
        cases h1
        rw [ha] at h2
        cases h2
        exact .inr ⟨_, e1, .cons (.ref hc) (.cons (.int _) (.cons (.int _) .nil))⟩
      · rw [List.getElem?_set_ne ci] at h1
        refine .inl ⟨h1, ?_⟩
        obtain ⟨u, eu, _, nt⟩ := (r.ob k o b h1 h2).mutK
        rw [eu, m.keep b u eu (rho_ne r h2 ha (Ne.symm ci)) (rho_ne r h2 hc (Ne.symm cj))]
  · rw [List.getElem?_set_ne (Ne.symm ne), List.getElem?_set_self li]
  · rw [List.getElem?_set_self (by simpa using lj)]
  · simp only [List.mem_cons, List.not_mem_nil, or_false, not_or] at hk
    rw [List.getElem?_set_ne (Ne.symm hk.2), List.getElem?_set_ne (Ne.symm hk.1)]
end
/-! ### the defs -/
section
variable {P : Program} {w : World} {K : PySem.W.Frag} {mg : Str → Option Value} {base : Heap} {T : List (Addr × Str)} {f : Addr} {fd : FuncData} {x : Str} {st : Stmt} {ps : List Str} {k : Nat}
def spDrawW : MRL := fun ws S Q => ∃ (i j : Nat) (m : Int), ws = [.ref i, .int m] ∧ DkW S i j ∧ 0 < m ∧ m < 1000000 ∧ ∀ r S', 0 ≤ r → r < m → DkW S' i j → Sv [i, j] S S' → Q (.int r) S'
theorem dw_draw (D : K15.Def K mg x st ps f fd) (F : FnOk P w K mg base CX0 k f fd ps K15.spDraw) : Dw P w K mg base T x k ps spDrawW :=
  Dw.of (FnG.of F) D.at_ D.fn.kp D.b fun ρ S ws vs H Pq Q r hw ⟨i, j, m, e, d, m0, m1, q⟩ kk => by
    subst e
    cases hw with
    | cons a1 hw => cases hw with
      | cons a2 hw =>
        cases hw
        cases a2
        obtain ⟨a, rfl, ha⟩ := rw_ref a1
        obtain ⟨c, hc, dk⟩ := dk_v r d ha
        refine ⟨a, c, m, rfl, dk, m0, m1, fun y H' y0 y1 mv => ?_⟩
        obtain ⟨S', st, r', d', sv⟩ := dk_w r d.ne ha hc dk mv
        exact kk _ _ _ _ _ (q y S' y0 y1 d' sv) st r' (.int y)
def spNamesW : MRL := fun ws S Q => ∃ (i j : Nat) (n : Int), ws = [.ref i, .int n] ∧ DkW S i j ∧ 1 ≤ n ∧ n ≤ 8 ∧ ∀ ns S', K15.Nam ns → ns.length ≤ 8 → DkW S' i j → Sv [i, j] S S' → Q (.ref S.length) (S' ++ [.lst (ns.map W.str)])
theorem dw_names (D : K15.Def K mg x st ps f fd) (F : FnOk P w K mg base CX0 k f fd ps K15.spNames) : Dw P w K mg base T x k ps spNamesW :=
  Dw.of (FnG.of F) D.at_ D.fn.kp D.b fun ρ S ws vs H Pq Q r hw ⟨i, j, n, e, d, m0, m1, q⟩ kk => by
    subst e
    cases hw with
    | cons a1 hw => cases hw with
      | cons a2 hw =>
        cases hw
        cases a2
        obtain ⟨a, rfl, ha⟩ := rw_ref a1
        obtain ⟨c, hc, dk⟩ := dk_v r d ha
        refine ⟨a, c, n, rfl, dk, m0, m1, fun p ns H' mv hp ep nam nl => ?_⟩
        obtain ⟨S', st, r', d', sv⟩ := dk_w r d.ne ha hc dk mv
        have np : p ∉ ρ := fun z => by
          obtain ⟨_, _, _, _, qq⟩ := r.of_mem z
          obtain ⟨u, eu, _⟩ := qq.mutK
          rw [hp] at eu
          cases eu
        obtain ⟨st2, r2⟩ := stp_num st r' (NT.of hp) np ep (RWs.toStrs (K := K) (H := H') (ρ := ρ) ns)
        refine kk _ _ _ _ _ (q ns S' nam nl d' sv) st2 r2 (.ref ?_)
        rw [← r.len]
        simp
def spPickW : MRL := fun ws S Q => ∃ (i j l : Nat) (xs : List W), ws = [.ref i, .ref l] ∧ DkW S i j ∧ S[l]? = some (.lst xs) ∧ l ≠ i ∧ l ≠ j ∧ xs ≠ [] ∧ xs.length < 1000 ∧ ∀ x S', x ∈ xs → DkW S' i j → Sv [i, j] S S' → Q x S'
theorem mem_rws {K : PySem.W.Frag} {H : Hp} {ρ : List Addr} : ∀ {ws : List W} {vs : List V}, RWs K H ρ ws vs → ∀ v ∈ vs, ∃ x ∈ ws, RW K H ρ x v
  | _, _, .nil, v, h => by cases h
  | _, _, .cons a b, v, h => by
    rcases List.mem_cons.mp h with z | z
    · subst z
      exact ⟨_, List.mem_cons_self .., a⟩
    · obtain ⟨x, h1, h2⟩ := mem_rws b v z
      exact ⟨x, List.mem_cons_of_mem _ h1, h2⟩
theorem dw_pick (D : K15.Def K mg x st ps f fd) (F : FnOk P w K mg base CX0 k f fd ps (K15.spPick K)) : Dw P w K mg base T x k ps spPickW :=
  Dw.of (FnG.of F) D.at_ D.fn.kp D.b fun ρ S ws vs H Pq Q r hw ⟨i, j, l, xs, e, d, el, n1, n2, n3, n4, q⟩ kk => by
    subst e
    cases hw with
    | cons a1 hw => cases hw with
      | cons a2 hw =>
        cases hw
        obtain ⟨a, rfl, ha⟩ := rw_ref a1
        obtain ⟨p, rfl, hp⟩ := rw_ref a2
        obtain ⟨c, hc, dk⟩ := dk_v r d ha
        obtain ⟨us, q1, q2⟩ := r.ob _ _ _ el hp
        refine ⟨a, c, p, us, rfl, dk, SqL.of q1, rho_ne r hp ha n1, rho_ne r hp hc n2, fun z => n3 ?_, by rw [← q2.length]; exact n4, fun v H' hv mv => ?_⟩
        · rw [z] at q2
          cases q2
          rfl
        · obtain ⟨y, y1, y2⟩ := mem_rws q2 v hv
          obtain ⟨S', st, r', d', sv⟩ := dk_w r d.ne ha hc dk mv
          exact kk _ _ _ _ _ (q y S' y1 d' sv) st r' (y2.stp r st)
def spTermW (d : Nat) : MRL := fun ws S Q => ∃ (i j q l : Nat) (ns : List Str), ws = [.ref i, .ref q, .int d, .ref l] ∧ 1 ≤ d ∧ DkW S i j ∧ S[q]? = some (.lst (ns.map W.str)) ∧ ns ≠ [] ∧ ns.length ≤ 8 ∧ (∃ n : Int, S[l]? = some (.lst [.int n])) ∧ q ≠ i ∧ q ≠ j ∧ q ≠ l ∧ l ≠ i ∧ l ≠ j ∧
  ∀ t S', SA.Trm.dep t ≤ d → SA.Trm.In ns t → DkW S' i j → (∃ n : Int, S'[l]? = some (.lst [.int n])) → Sv [i, j, l] S S' → Q (encT t) S'
theorem dw_term {d : Nat} (D : K15.Def K mg x st ps f fd) (F : FnOk P w K mg base CX0 k f fd ps (K15.spTerm K d)) : Dw P w K mg base T x k ps (spTermW d) :=
  Dw.of (FnG.of F) D.at_ D.fn.kp D.b fun ρ S ws vs H Pq Q r hw ⟨i, j, qn, l, ns, e, d1, dk, en, n1, n2, ⟨n, el⟩, c1, c2, c3, c4, c5, q⟩ kk => by
    subst e
    cases hw with
    | cons a1 hw => cases hw with
      | cons a2 hw => cases hw with
        | cons a3 hw => cases hw with
          | cons a4 hw =>
            cases hw
            cases a3
            obtain ⟨a, rfl, ha⟩ := rw_ref a1
            obtain ⟨p, rfl, hp⟩ := rw_ref a2
            obtain ⟨b, rfl, hb⟩ := rw_ref a4
            obtain ⟨c, hc, dv⟩ := dk_v r dk ha
            obtain ⟨us, q1, q2⟩ := r.ob _ _ _ en hp
            rw [RWs.strs q2] at q1
            obtain ⟨ys, y1, y2⟩ := r.ob _ _ _ el hb
            have y3 : ys = [V.int n] := by
              cases y2 with
              | cons z1 z2 =>
                cases z2
                cases z1
                rfl
            rw [y3] at y1
            have nba := rho_ne r hb ha c4
            have nbc := rho_ne r hb hc c5
            refine ⟨a, c, p, b, ns, rfl, d1, dv, ⟨SqL.of q1, rho_ne r hp ha c1, rho_ne r hp hc c2, n1, n2⟩, rho_ne r hp hb c3, ⟨n, y1⟩, nba, nbc, fun v t H' mw tm dp inn => ?_⟩
            obtain ⟨m, em⟩ := mw.left
            have st : Stp H ρ H' ρ := ⟨⟨[], by simp⟩, fun z o nz h _ => mw.keep z o h (fun e => nz (by rw [e]; exact List.mem_of_getElem? ha)) (fun e => nz (by rw [e]; exact List.mem_of_getElem? hc)) (fun e => nz (by rw [e]; exact List.mem_of_getElem? hb)), fun _ h => .inl h⟩
            obtain ⟨⟨cs, sd, nn, e1, e2, l1, s0, s1⟩, _⟩ := mw.deck
            have li : i < S.length := by rw [← r.len]; exact (List.getElem?_eq_some_iff.mp ha).1
            have lj : j < S.length := by rw [← r.len]; exact (List.getElem?_eq_some_iff.mp hc).1
            have ll : l < S.length := by rw [← r.len]; exact (List.getElem?_eq_some_iff.mp hb).1
            have at' : ∀ z, (((S.set i (.lst [.ref j, .int sd, .int nn])).set j (.lst (cs.map W.int))).set l (.lst [.int m]))[z]? = if l = z then some (.lst [.int m]) else if j = z then some (.lst (cs.map W.int)) else if i = z then some (.lst [.ref j, .int sd, .int nn]) else S[z]? := by
              intro z
              by_cases z1 : l = z
              · subst z1; rw [List.getElem?_set_self (by simpa using ll), if_pos rfl]
              · rw [List.getElem?_set_ne z1, if_neg z1]
                by_cases z2 : j = z
                · subst z2; rw [List.getElem?_set_self (by simpa using lj), if_pos rfl]
                · rw [List.getElem?_set_ne z2, if_neg z2]
                  by_cases z3 : i = z
                  · subst z3; rw [List.getElem?_set_self li, if_pos rfl]
                  · rw [List.getElem?_set_ne z3, if_neg z3]
            have tb : Tabs T H' := fun z hz => by
              obtain ⟨pz, t1, t2, t3⟩ := r.tabs z hz
              have other : ∀ {g : Addr} {o : HO}, H g = some o → (∀ ys, o ≠ .lst ys) → H' g = some o := fun {g o} eg nl => by
                obtain ⟨xs, x1⟩ := dv.lst1
                obtain ⟨zs, z1⟩ := dv.lst2
                refine mw.keep g o eg (fun y => ?_) (fun y => ?_) fun y => ?_
                · rw [y, x1] at eg; exact nl xs (Option.some.inj eg).symm
                · rw [y, z1] at eg; exact nl zs (Option.some.inj eg).symm
                · rw [y, y1] at eg; exact nl _ (Option.some.inj eg).symm
              refine ⟨pz, other t1 (fun _ y => nomatch y), t2, fun pos cv hcv => ?_⟩
              obtain ⟨cc, g1, g2⟩ := t3 pos cv hcv
              exact ⟨cc, g1, other g2 (fun _ y => nomatch y)⟩
            have r' : Rep K T H' ρ (((S.set i (.lst [.ref j, .int sd, .int nn])).set j (.lst (cs.map W.int))).set l (.lst [.int m])) := by
              refine rep_chg r st tb (by simp) fun z o g h1 h2 => ?_
              rw [at' z] at h1
              split at h1
              · rename_i z1
                subst z1
                cases h1
                rw [hb] at h2
                cases h2
                exact .inr ⟨_, em, .cons (.int _) .nil⟩
              · split at h1
                · rename_i _ z1
                  subst z1
                  cases h1
                  rw [hc] at h2
                  cases h2
                  exact .inr ⟨_, e2, RWs.toInts cs⟩
                · split at h1
                  · rename_i _ _ z1
                    subst z1
                    cases h1
                    rw [ha] at h2
                    cases h2
                    exact .inr ⟨_, e1, .cons (.ref hc) (.cons (.int _) (.cons (.int _) .nil))⟩
                  · rename_i x1 x2 x3
                    refine .inl ⟨h1, ?_⟩
                    obtain ⟨u, eu, _, nt⟩ := (r.ob z o g h1 h2).mutK
                    rw [eu, mw.keep g u eu (rho_ne r h2 ha (Ne.symm x3)) (rho_ne r h2 hc (Ne.symm x2)) (rho_ne r h2 hb (Ne.symm x1))]
            refine kk _ _ _ _ _ (q t _ dp inn ⟨⟨cs, sd, nn, ?_, ?_, l1, s0, s1⟩, dk.ne⟩ ⟨m, ?_⟩ ⟨by simp, fun z hz => ?_⟩) st r' (tm_rw tm)
            · rw [at' i, if_neg c4, if_neg (Ne.symm dk.ne), if_pos rfl]
            · rw [at' j, if_neg c5, if_pos rfl]
            · rw [at' l, if_pos rfl]
            · simp only [List.mem_cons, List.not_mem_nil, or_false, not_or] at hz
              rw [at' z, if_neg (Ne.symm hz.2.2), if_neg (Ne.symm hz.2.1), if_neg (Ne.symm hz.1)]
/-! ### lists of pairs -/
def spThreeW (g : SU.Trm → SU.Trm → SU.Trm → List (SU.Trm × SU.Trm)) : MRL := fun ws S Q => ∃ (t u v : SU.Trm), ws = [encT t, encT u, encT v] ∧ t.Good ∧ u.Good ∧ v.Good ∧ Q (.ref S.length) (S ++ [.lst ((g t u v).map encP)])
theorem new_lst {H H' : Hp} {ρ : List Addr} {S : Sto} {p : Addr} {xs : List V} {ws : List W} (r : Rep K T H ρ S) (sm : Same H H') (hp : H p = none) (e : H' p = some (.lst xs)) (hw : RWs K H' ρ ws xs) :
    Stp H ρ H' (ρ ++ [p]) ∧ Rep K T H' (ρ ++ [p]) (S ++ [.lst ws]) ∧ RW K H' (ρ ++ [p]) (.ref S.length) (.ref p) := by
  obtain ⟨st, r'⟩ := rep_ext r (ExtN.of sm) (r.tabs.ext sm)
  have np : p ∉ ρ := fun z => by
    obtain ⟨_, _, _, _, qq⟩ := r.of_mem z
    obtain ⟨u, eu, _⟩ := qq.mutK
    rw [hp] at eu
    cases eu
  obtain ⟨st2, r2⟩ := stp_num st r' (NT.of hp) np e hw
  exact ⟨st2, r2, .ref (by rw [← r.len]; simp)⟩
theorem dw_alw (D : K15.Def K mg x st ps f fd) (F : FnOk P w K mg base CX0 k f fd ps (K15.spAlw K)) : Dw P w K mg base T x k ps (spThreeW SU.alwaysT) :=
  Dw.of (FnG.of F) D.at_ D.fn.kp D.b fun ρ S ws vs H Pq Q r hw ⟨t, u, v, e, g1, g2, g3, q⟩ kk => by
    subst e
    cases hw with
    | cons a1 hw => cases hw with
      | cons a2 hw => cases hw with
        | cons a3 hw =>
          cases hw
          refine ⟨_, _, _, t, u, v, rfl, rw_tm a1 (wd_good g1), rw_tm a2 (wd_good g2), rw_tm a3 (wd_good g3), fun l H' sm hl pl => ?_⟩
          obtain ⟨xs, e1, pr⟩ := pl
          obtain ⟨st, r', rl⟩ := new_lst r sm hl e1 (prs_rw pr)
          exact kk _ _ _ _ _ q st r' rl
theorem dw_mor (D : K15.Def K mg x st ps f fd) (F : FnOk P w K mg base CX0 k f fd ps (K15.spMor K)) : Dw P w K mg base T x k ps (spThreeW K15.moreT) :=
  Dw.of (FnG.of F) D.at_ D.fn.kp D.b fun ρ S ws vs H Pq Q r hw ⟨t, u, v, e, g1, g2, g3, q⟩ kk => by
    subst e
    cases hw with
    | cons a1 hw => cases hw with
      | cons a2 hw => cases hw with
        | cons a3 hw =>
          cases hw
          refine ⟨_, _, _, t, u, v, rfl, rw_tm a1 (wd_good g1), rw_tm a2 (wd_good g2), rw_tm a3 (wd_good g3), fun l H' sm hl pl => ?_⟩
          obtain ⟨xs, e1, pr⟩ := pl
          obtain ⟨st, r', rl⟩ := new_lst r sm hl e1 (prs_rw pr)
          exact kk _ _ _ _ _ q st r' rl
def spTwoW (g : SU.Trm → SU.Trm → List (SU.Trm × SU.Trm)) : MRL := fun ws S Q => ∃ (t u : SU.Trm), ws = [encT t, encT u] ∧ Wd t ∧ Wd u ∧ Q (.ref S.length) (S ++ [.lst ((g t u).map encP)])
theorem dw_nev (D : K15.Def K mg x st ps f fd) (F : FnOk P w K mg base CX0 k f fd ps (K15.spNev K)) : Dw P w K mg base T x k ps (spTwoW SU.neverT) :=
  Dw.of (FnG.of F) D.at_ D.fn.kp D.b fun ρ S ws vs H Pq Q r hw ⟨t, u, e, g1, g2, q⟩ kk => by
    subst e
    cases hw with
    | cons a1 hw => cases hw with
      | cons a2 hw =>
        cases hw
        refine ⟨_, _, t, u, rfl, rw_tm a1 g1, rw_tm a2 g2, fun l H' sm hl pl => ?_⟩
        obtain ⟨xs, e1, pr⟩ := pl
        obtain ⟨st, r', rl⟩ := new_lst r sm hl e1 (prs_rw pr)
        exact kk _ _ _ _ _ q st r' rl
def spAreW : MRL := fun ws S Q => ∃ (t u : SU.Trm), ws = [encT t, encT u] ∧ SA.Trm.dep t ≤ 6 ∧ SA.Trm.dep u ≤ 6 ∧ t.Good ∧ u.Good ∧ Q (.bl (decide (SU.sumL t = SU.sumL u))) S
theorem dw_are (h1 : mg x = some (.ref f)) (h2 : PySem.W.keepIn K (.ref f) = true) (h3 : Binds K fd ps []) (F : FnOk P w K mg base CX0 k f fd ps (K15.spAre K T)) : Dw P w K mg base T x k ps spAreW :=
  Dw.of (FnG.of F) h1 h2 h3 fun ρ S ws vs H Pq Q r hw ⟨t, u, e, d1, d2, g1, g2, q⟩ kk => by
    subst e
    cases hw with
    | cons a1 hw => cases hw with
      | cons a2 hw =>
        cases hw
        refine ⟨_, _, t, u, rfl, rw_tm a1 (wd_good g1), rw_tm a2 (wd_good g2), d1, d2, g1, g2, r.tabs, fun H' ex tb => ?_⟩
        obtain ⟨st, r'⟩ := rep_ext r ex tb
        exact kk _ _ _ _ _ q st r' (.bl _)
end
end Q16
set_option Elab.async false
set_option linter.all false
set_option maxRecDepth 100000
set_option maxHeartbeats 4000000
/-! ## sizes, fitting pairs, what both ways about tell -/
namespace Q16
open PySem PySem.Spec PyProof.Rows L2 KG PL LamX
structure GB (mg : Str → Option Value) : Prop where
  sum : mg "sum" = none
  isinstance : mg "isinstance" = none
  tuple : mg "tuple" = none
  max : mg "max" = none
  bool : mg "bool" = none
  repr : mg "repr" = none
  len : mg "len" = none
  range : mg "range" = none
  dict : mg "dict" = none
  list : mg "list" = none
  zip : mg "zip" = none
  int : mg "int" = none
def szT : SU.Trm → Int
  | .op _ a b => 1 + [szT a, szT b].sum
  | _ => 1
section
variable {P : Program} {w : World} {K : PySem.W.Frag} {mg : Str → Option Value} {base : Heap} {T : List (Addr × Str)}
abbrev sSize : Stmt := K15.topS 37
abbrev nSize : List Str := ["_law_term_here", "_law_part"]
theorem scSize : FnScope nSize ["_law_term_here"] (defScope sSize) := ⟨rfl, rfl, rfl, by decide +kernel, rfl, by decide +kernel, by decide +kernel⟩
def spSizeW (n : Nat) : MRL := fun ws S Q => ∃ t : SU.Trm, ws = [encT t] ∧ SA.Trm.dep t ≤ n ∧ Q (.int (szT t)) S
theorem ifB {c : Bool} {A B : Prop} (h1 : c = true → A) (h2 : ¬ c = true → B) : if c = true then A else B := by
  by_cases e : c = true
  · rw [if_pos e]; exact h1 e
  · rw [if_neg e]; exact h2 e
theorem le_units {k : Nat} {A : Around} (hr : Room k A) : A.units + 1 < cLine := Nat.lt_of_le_of_lt (by omega) hr.units
theorem sl0 : ∀ {n : Nat}, n ≤ 10000 → n < sizeLine := fun h => by rw [sizeLine_eq]; omega
theorem dw_size (D : Df K mg "_law_size" sSize ["_law_term_here"]) (G : GB mg) : ∀ n, Dw P w K mg base T "_law_size" n ["_law_term_here"] (spSizeW n)
  | 0 => by
    obtain ⟨f, fd, F, h1, h2, h3⟩ := D.ex
    have no : ∀ {vs : List V} {H : Hp} {Q : VK}, ¬ liftL K T (spSizeW 0) vs H Q := fun ⟨_, _, _, _, _, _, ⟨t, _, e, _⟩, _⟩ => absurd (SA.Trm.dep_pos t) (by omega)
    exact ⟨f, fd, ⟨fun vs H Q E z => (no z).elim, fun A outer s H args us vs Q g hr he hb hv z => (no z).elim⟩, h1, h2, h3⟩
  | n + 1 => by
    have D__law_size := dw_size D G n
    have SC := scSize
    refine okW D scSize (fun ws S Q ⟨t, e, _⟩ => by rw [e]; rfl) fun f cdv A outer s H hgd hr => ?_
    have hr__law_size := hr
    refine ⟨_, (iss_one (is_ret (ie_op ow_add ie_int (ie_callBL (cl_sum rfl) (by rfl) G.sum (by decide +kernel) (il_lc (own := [("_law_part", 1)]) (t := (.nm 1)) rfl SC.nd (ii_seq (ie_slice (iv 0) (io_some ie_int) io_none)) (blkOk_by (own := [("_law_part", 1)]) (N := nSize) (sc := defScope sSize) (by decide +kernel)) (fun _ _ _ _ _ => (igm SC.nd (i := 1))) (fun _ _ _ _ _ => its_one (it_val (ie_callB cw_isi (by rfl) G.isinstance (by decide +kernel) (ia_cons (iv 1) (ia_cons (ie_ty (n := "tuple") (by rfl) G.tuple (by decide +kernel)) ia_nil))))) (fun _ _ _ _ _ => (ie_def D__law_size hgd hr__law_size (ia_cons (iv 1) ia_nil) (by rfl))) (by decide)))))), fun ws S Q hS hw ⟨t, e, dp, q⟩ => ?_⟩
    subst e
    match t, dp, q with
    | .num k, dp, q =>
      refine ⟨_, rfl, 1, rfl, True.intro, sl0 (by decide), _, rfl, _, rfl, _, _, _, _, rfl, rfl, rfl, false, rfl, True.intro, [], rfl, .same q⟩
    | .nam k, dp, q =>
      refine ⟨_, rfl, 1, rfl, True.intro, sl0 (by decide), _, rfl, _, rfl, _, _, _, _, rfl, rfl, rfl, false, rfl, True.intro, [], rfl, .same q⟩
    | .op wd a b, dp, q =>
      simp only [SA.Trm.dep] at dp
      cases a <;> cases b <;> exact ⟨_, rfl, 1, rfl, True.intro, sl0 (by decide), _, rfl, _, rfl, _, _, _, _, rfl, rfl, rfl, true, rfl, _, rfl, _, rfl, (by omega), True.intro, sl0 (by show 1 ≤ 10000; decide), _, rfl, _, rfl, _, _, _, _, rfl, rfl, rfl, true, rfl, _, rfl, _, rfl, (by omega), True.intro, [_, _], rfl, .same q⟩
/-! ### those that fit -/
abbrev sFit : Stmt := K15.topS 38
abbrev nFit : List Str := ["_law_pairs", "_law_pair"]
theorem scFit : FnScope nFit ["_law_pairs"] (defScope sFit) := ⟨rfl, rfl, rfl, by decide +kernel, rfl, by decide +kernel, by decide +kernel⟩
def fitB (p : SU.Trm × SU.Trm) : Bool := decide ((if szT p.2 > szT p.1 then szT p.2 else szT p.1) < 13)
def spFitW : MRL := fun ws S Q => ∃ (i : Nat) (L : List (SU.Trm × SU.Trm)), ws = [.ref i] ∧ S[i]? = some (.lst (L.map encP)) ∧ L.length ≤ 200 ∧ (∀ p ∈ L, SA.Trm.dep p.1 ≤ 6 ∧ SA.Trm.dep p.2 ≤ 6) ∧ Q (.ref S.length) (S ++ [.lst ((L.filter fitB).map encP)])
theorem dw_fit (D : Df K mg "_law_fitting" sFit ["_law_pairs"]) (G : GB mg) (D__law_size : Dw P w K mg base T "_law_size" 6 ["_law_term_here"] (spSizeW 6)) : Dw P w K mg base T "_law_fitting" 7 ["_law_pairs"] spFitW := by
  have SC := scFit
  refine okW D scFit (fun ws S Q ⟨i, L, e, _⟩ => by rw [e]; rfl) fun f cdv A outer s H hgd hr => ?_
  have hr__law_size := hr
  have hu1 := le_units hr
  refine ⟨_, (iss_one (is_ret (ie_num (il_lc (own := [("_law_pair", 1)]) (t := (.nm 1)) rfl SC.nd (ii_seq (iv 0)) (blkOk_by (own := [("_law_pair", 1)]) (N := nFit) (sc := defScope sFit) (by decide +kernel)) (fun _ _ _ _ _ => (igm SC.nd (i := 1))) (fun _ _ _ _ _ => its_one (it_cmp ow_lt (ie_callB (cw_max2 rfl) (by rfl) G.max (by decide +kernel) (ia_cons (ie_def D__law_size hgd hr__law_size (ia_cons (ie_ix hu1 (iv 1) ie_int (fun _ _ => rfl)) ia_nil) (by rfl)) (ia_cons (ie_def D__law_size hgd hr__law_size (ia_cons (ie_ix hu1 (iv 1) ie_int (fun _ _ => rfl)) ia_nil) (by rfl)) ia_nil))) ie_int (nomark _))) (fun _ _ _ _ _ => (iv 1)) (by decide))))), fun ws S Q hS hw ⟨i, L, e, ei, ln, hd, q⟩ => ?_⟩
  subst e
  refine ⟨_, rfl, _, ei, lcW_by (fun j acc S1 => S1 = S ∧ acc = ((L.take j).filter fitB).map encP) ⟨rfl, rfl⟩ (fun j acc S1 _ ⟨e, _⟩ => by rw [e]; exact ei) (fun j acc S1 hj ⟨_, e⟩ => ?_) ?_ ?_⟩
  · rw [List.length_map] at hj
    rw [e, List.length_map]
    have := List.length_filter_le fitB (L.take j)
    rw [List.length_take] at this
    exact sl0 (by omega)
  · rintro j x acc S1 hx ⟨rfl, rfl⟩
    rw [List.getElem?_map, Option.map_eq_some_iff] at hx
    obtain ⟨p, hp, rfl⟩ := hx
    obtain ⟨h1, h2⟩ := hd p (List.mem_of_getElem? hp)
    refine ⟨_, rfl, fun F hF => ?_⟩
    refine ⟨_, rfl, 0, encT p.1, rfl, rfl, p.1, rfl, h1, _, rfl, 1, encT p.2, rfl, rfl, p.2, rfl, h2, _, _, rfl, fitB p, rfl, ?_⟩
    have lt := (List.getElem?_eq_some_iff.mp hp)
    have et : (L.take (j + 1)).filter fitB = (L.take j).filter fitB ++ (if fitB p = true then [p] else []) := by
      rw [List.take_add_one, hp, List.filter_append]
      congr 1
      by_cases c : fitB p = true
      · rw [if_pos c]; simp [c]
      · rw [if_neg c]; simp [c]
    refine ifB (fun c => ?_) (fun c => ?_)
    · rw [if_pos c] at et
      exact ⟨_, rfl, hF _ _ ⟨rfl, by rw [et, List.map_append]; rfl⟩⟩
    · rw [if_neg c, List.append_nil] at et
      exact hF _ _ ⟨rfl, by rw [et]⟩
  · rintro acc S1 ⟨rfl, rfl⟩
    rw [List.length_map, List.take_length]
    exact .same q
/-! ### what both ways about tell -/
abbrev sTold : Stmt := K15.topS 39
abbrev nTold : List Str := ["_law_here", "_law_there", "_law_found"]
theorem scTold : FnScope nTold ["_law_here", "_law_there"] (defScope sTold) := ⟨rfl, rfl, rfl, by decide +kernel, rfl, by decide +kernel, by decide +kernel⟩
theorem dw_told (D : Df K mg "_law_told" sTold ["_law_here", "_law_there"]) (G : GB mg) (D_are_same : Dw P w K mg base T "are_same" 12 ["one", "other"] spAreW) : Dw P w K mg base T "_law_told" 13 ["_law_here", "_law_there"] spAreW := by
  have SC := scTold
  refine okW D scTold (fun ws S Q ⟨t, u, e, _⟩ => by rw [e]; rfl) fun f cdv A outer s H hgd hr => ?_
  have hr_are_same := hr
  have hu1 := le_units hr
  refine ⟨_, (iss_cons (is_set (i := 2) SC.nd rfl (.inl rfl) (ie_lst (ia_cons (ie_def D_are_same hgd hr_are_same (ia_cons (iv 0) (ia_cons (iv 1) ia_nil)) (by rfl)) (ia_cons (ie_def D_are_same hgd hr_are_same (ia_cons (iv 1) (ia_cons (iv 0) ia_nil)) (by rfl)) ia_nil))))
      (iss_one (is_ret (ie_if (it_w (iw_and (it_cmp (ow_eq hr.units) (ie_callB (cw_repr hgd hr) (by rfl) G.repr (by decide +kernel) (ia_cons (ie_ix hu1 (iv 2) ie_int (fun _ _ => rfl)) ia_nil)) (ie_callB (cw_repr hgd hr) (by rfl) G.repr (by decide +kernel) (ia_cons (ie_ix hu1 (iv 2) ie_int (fun _ _ => rfl)) ia_nil)) (nomark _)) (iw_and1 (it_val (ie_callB cw_isi (by rfl) G.isinstance (by decide +kernel) (ia_cons (ie_ix hu1 (iv 2) ie_int (fun _ _ => rfl)) (ia_cons (ie_ty (n := "bool") (by rfl) G.bool (by decide +kernel)) ia_nil))))))) (ie_ix hu1 (iv 2) ie_int (fun _ _ => rfl)) ie_non)))), fun ws S Q hS hw ⟨t, u, e, d1, d2, g1, g2, q⟩ => ?_⟩
  subst e
  have eb : decide (SU.sumL u = SU.sumL t) = decide (SU.sumL t = SU.sumL u) := by
    by_cases c : SU.sumL t = SU.sumL u
    · rw [decide_eq_true c, decide_eq_true c.symm]
    · rw [decide_eq_false c, decide_eq_false (fun z => c z.symm)]
  refine ⟨_, rfl, _, rfl, t, u, rfl, d1, d2, g1, g2, _, rfl, _, rfl, u, t, rfl, d2, d1, g2, g1, ?_⟩
  rw [eb]
  generalize decide (SU.sumL t = SU.sumL u) = b at q
  have e1 : (S ++ [O.lst [.bl b, .bl b]])[S.length]? = some (O.lst [.bl b, .bl b]) := by simp
  have ix : ∀ {k : Int} {Q' : WK}, atI [W.bl b, W.bl b] k = some (.bl b) → Q' (.bl b) (S ++ [O.lst [.bl b, .bl b]]) → rIxW (.ref S.length) (.int k) (S ++ [O.lst [.bl b, .bl b]]) Q' := fun {k Q'} h q => by
    show (match (S ++ [O.lst [.bl b, .bl b]])[S.length]? with | some (.lst ws) => _ | some (.dct kvs) => _ | _ => _)
    rw [e1]
    exact ⟨k, _, rfl, h, q⟩
  refine ⟨Nat.le_of_lt (sl0 (by show 2 ≤ 10000; decide)), ?_⟩
  have sh : (PyData.bool b).showable = true ∧ (PyData.bool b).hasDict = false ∧ (PyData.bool b).shown.length ≤ sizeLine ∧ (PyData.bool b).depth ≤ 50 := by
    cases b <;> exact ⟨rfl, rfl, Nat.le_of_lt (sl0 (by decide +kernel)), by decide +kernel⟩
  refine ⟨_, rfl, ix rfl ⟨_, _, rfl, .bl b, sh.1, sh.2.1, sh.2.2.1, sh.2.2.2, _, rfl, ix rfl ⟨_, _, rfl, .bl b, sh.1, sh.2.1, sh.2.2.1, sh.2.2.2, true, .inl ⟨rfl, (by simp [eqS])⟩, true, rfl, ?_⟩⟩⟩
  refine ⟨_, rfl, ix rfl ⟨_, _, _, _, rfl, rfl, rfl, true, rfl, ?_⟩⟩
  exact ⟨_, rfl, ix rfl (Cut.gar hS rfl q)⟩
end
end Q16
set_option Elab.async false
set_option linter.all false
set_option maxRecDepth 100000
set_option maxHeartbeats 4000000
/-! ## numbers drawn for names -/
namespace Q16
open PySem PySem.Spec PyProof.Rows L2 KG PL LamX
theorem zip_pr {K : PySem.W.Frag} {H : Hp} : ∀ {xs : List Str} {vs : List V} {ps : List Addr}, Paired (fun p (q : V × V) => H p = some (.tup [q.1, q.2])) ps ((xs.map V.str).zip vs) → Paired (fun p (kv : Key × V) => SqT K H p [kV kv.1, kv.2]) ps ((xs.map Sum.inr).zip vs)
  | [], vs, ps, h => by cases h; exact .nil
  | x :: xs, [], ps, h => by cases h; exact .nil
  | x :: xs, v :: vs, ps, h => by
    cases h with
    | cons a b => exact .cons (.inl (.inl a)) (zip_pr b)
theorem zip_rel {K : PySem.W.Frag} {H : Hp} {ρ : List Addr} : ∀ {xs : List Str} {ws : List W} {vs : List V}, RWs K H ρ ws vs → Paired (fun (p : Key × W) (q : Key × V) => p.1 = q.1 ∧ RW K H ρ p.2 q.2) ((xs.map Sum.inr).zip ws) ((xs.map Sum.inr).zip vs)
  | [], ws, vs, h => .nil
  | x :: xs, _, _, .nil => .nil
  | x :: xs, _, _, .cons a b => .cons ⟨rfl, a⟩ (zip_rel b)
section
variable {X : Cx} {T : List (Addr × Str)}
def mDz (ma mb : ME) : ME := fun τ S P => ma τ S fun x S1 => mb τ S1 fun y S2 => ∃ (i j : Nat) (xs : List Str) (ys : List W), x = .ref i ∧ y = .ref j ∧ S2[i]? = some (.lst (xs.map W.str)) ∧ S2[j]? = some (.lst ys) ∧ xs.length = ys.length ∧ xs.length < sizeLine ∧ P (.ref S2.length) (S2 ++ [.dct (mergeW [] ((xs.map Sum.inr).zip ys))])
theorem ie_dz {a b : Expr} {ma mb : ME} {p p1 p2 pos pos1 pos2 : Pos} (hc : X.calm = true) (hgd : Gl X "dict") (hmd : X.mg "dict" = none) (hgl : Gl X "list") (hml : X.mg "list" = none) (hg : Gl X "zip") (hm : X.mg "zip" = none) (ha : IE X T a ma) (hb : IE X T b mb)
    (hs : starEach [a, b] X.env = (false, eval a X.env) :: starEach [b] X.env := by rfl) (hs2 : starEach [b] X.env = (false, eval b X.env) :: starEach [] X.env := by rfl) (hpl : (backTo pos2 (starEach [b] X.env)).any (·.1) = false := by rfl) :
    IE X T (.Call (.Name "dict" p) [.Call (.Name "list" p1) [.Call (.Name "zip" p2) [a, b] [] pos2] [] pos1] [] pos) (mDz ma mb) :=
  (pe_callTy (call_dictP hc) hgd hmd (by decide +kernel) (pa_cons (NZ.pe_listZip hc hgl hml hg hm (pa_cons ha (pa_cons hb pa_nil hs2) hs) (by rfl) hs hpl) pa_nil (by rfl))).weak fun σ H Q ⟨ρ, τ, S, P, r, s, h, k⟩ => by
    refine ⟨ρ, τ, S, _, r, s, h, fun x S1 v ρ1 H1 hp st1 r1 hx => ⟨ρ1, τ, S1, _, r1, s.stp r st1, hp, fun y S2 u ρ2 H2 hp2 st2 r2 hy => ?_⟩⟩
    obtain ⟨i, j, xs, ys, rfl, rfl, ei, ej, ln, lz, p⟩ := hp2
    obtain ⟨a1, rfl, ha1⟩ := rw_ref (hx.stp r1 st2)
    obtain ⟨a2, rfl, ha2⟩ := rw_ref hy
    obtain ⟨vs1, q1, q2⟩ := r2.ob _ _ _ ei ha1
    obtain ⟨vs2, q3, q4⟩ := r2.ob _ _ _ ej ha2
    have e1 := RWs.strs q2
    subst e1
    refine ⟨a1, a2, _, vs2, rfl, SqL.of q1, SqL.of q3, by rw [List.length_map, ln, q4.length], by rw [List.length_map]; exact lz, fun D H3 ps keep hD eD pr => ?_⟩
    have sm : Same H2 H3 := keep
    obtain ⟨st3, r3⟩ := rep_ext r2 (ExtN.of sm) (r2.tabs.ext sm)
    refine ⟨D, ps, _, rfl, SqL.of eD, zip_pr pr, fun pd hpd => ?_⟩
    have m := merge_rel (zip_rel (xs := xs) (q4.stp r2 st3)) (.nil)
    obtain ⟨st, r4⟩ := stp_laid (u := .dK (mergeK [] ((xs.map Sum.inr).zip vs2))) (o := .dct (mergeW [] ((xs.map Sum.inr).zip ys))) r3 hpd (by
      have st1 : Stp H3 ρ2 (upd H3 pd (.dK (mergeK [] ((xs.map Sum.inr).zip vs2)))) (ρ2 ++ [pd]) := ⟨⟨[pd], rfl⟩, fun a u _ h _ => by rw [upd_ne (ne_of_none h hpd)]; exact h, fun a h => by
        rcases List.mem_append.mp h with z | z
        · exact .inl z
        · rw [List.mem_singleton.mp z]
          exact .inr (NT.of hpd)⟩
      exact ⟨_, upd_same, Paired.impS (fun _ _ z => ⟨z.1, z.2.stp r3 st1⟩) m⟩)
    exact k _ _ _ _ _ p (((st1.trans st2).trans st3).trans st) r4 (.ref (by rw [← r3.len]; simp))
end
theorem ixL {S : Sto} {l : Nat} {ws : List W} {i : Int} {x : W} {P : WK} (h : S[l]? = some (.lst ws)) (e : atI ws i = some x) (p : P x S) : rIxW (.ref l) (.int i) S P := by
  show (match S[l]? with | some (.lst ws) => ∃ j w, W.int i = .int j ∧ atI ws j = some w ∧ P w S | some (.dct kvs) => ∃ key w, W.int i = kW key ∧ valW kvs key = some w ∧ P w S | _ => False)
  rw [h]
  exact ⟨i, x, rfl, e, p⟩
theorem lcYes {me : ME} {τ : Lo} {S : Sto} {F : List W → Sto → Prop} {acc : List W} (h : me τ S fun x S2 => F (acc ++ [x]) S2) : mYes τ S fun b S1 => if b = true then me τ S1 fun x S2 => F (acc ++ [x]) S2 else F acc S1 := by
  unfold mYes
  exact (if_pos rfl).mpr h
theorem Sv.gr {l : List Nat} {S S' : Sto} (h : Sv l S S') : Gr l S S' := ⟨Nat.le_of_eq h.len.symm, fun k _ n => h.at_ k n⟩
theorem DkW.lt {S : Sto} {i j : Nat} (d : DkW S i j) : i < S.length ∧ j < S.length := by
  obtain ⟨⟨ns, sd, n, e1, e2, _⟩, _⟩ := d
  exact ⟨(List.getElem?_eq_some_iff.mp e1).1, (List.getElem?_eq_some_iff.mp e2).1⟩
theorem DkW.app {S : Sto} {i j : Nat} (d : DkW S i j) (G : Sto) : DkW (S ++ G) i j := by
  obtain ⟨⟨ns, sd, n, e1, e2, l⟩, ne⟩ := d
  exact ⟨⟨ns, sd, n, get_app e1, get_app e2, l⟩, ne⟩
section
variable {P : Program} {w : World} {K : PySem.W.Frag} {mg : Str → Option Value} {base : Heap} {T : List (Addr × Str)}
abbrev sWor : Stmt := K15.topS 41
abbrev nWor : List Str := ["_law_deck_here", "_law_names_here", "_law_some", "_law_name"]
theorem scWor : FnScope nWor ["_law_deck_here", "_law_names_here"] (defScope sWor) := ⟨rfl, rfl, rfl, by decide +kernel, rfl, by decide +kernel, by decide +kernel⟩
/-- numbers below 65536 by names -/
def WorW (S : Sto) (ns : List Str) (m : Nat) : Prop := ∃ kvs, S[m]? = some (.dct kvs) ∧ ∀ x ∈ ns, ∃ n : Int, valW kvs (Sum.inr x) = some (.int n) ∧ 0 ≤ n ∧ n < 65536
def spWorW : MRL := fun ws S Q => ∃ (i j q : Nat) (ns : List Str), ws = [.ref i, .ref q] ∧ DkW S i j ∧ S[q]? = some (.lst (ns.map W.str)) ∧ q ≠ i ∧ q ≠ j ∧ ns.length ≤ 8 ∧ ∀ m S', Gr [i, j] S S' → DkW S' i j → S.length ≤ m → WorW S' ns m → Q (.ref m) S'
def six6W (r : Int) : List W := [.int 0, .int 1, .int 2, .int 65535, .int 32768, .int r]
theorem six6W_at {r j : Int} (r0 : 0 ≤ r) (r1 : r < 65536) (j0 : 0 ≤ j) (j1 : j < 6) : ∃ k, atI (six6W r) j = some (.int k) ∧ 0 ≤ k ∧ k < 65536 := by
  have hc : j = 0 ∨ j = 1 ∨ j = 2 ∨ j = 3 ∨ j = 4 ∨ j = 5 := by omega
  rcases hc with e | e | e | e | e | e <;> subst e
  · exact ⟨0, rfl, by decide, by decide⟩
  · exact ⟨1, rfl, by decide, by decide⟩
  · exact ⟨2, rfl, by decide, by decide⟩
  · exact ⟨65535, rfl, by decide, by decide⟩
  · exact ⟨32768, rfl, by decide, by decide⟩
  · exact ⟨r, rfl, r0, r1⟩
theorem dw_wor (D : Df K mg "_law_worths" sWor ["_law_deck_here", "_law_names_here"]) (G : GB mg) (D__law_draw : Dw P w K mg base T "_law_draw" 1 ["_law_deck_here", "_law_many"] spDrawW) : Dw P w K mg base T "_law_worths" 2 ["_law_deck_here", "_law_names_here"] spWorW := by
  have SC := scWor
  refine okW D scWor (fun ws S Q ⟨i, j, q, ns, e, _⟩ => by rw [e]; rfl) fun f cdv A outer s H hgd hr => ?_
  have hr__law_draw := hr
  have hu1 := PL.le_units hr
  refine ⟨_, (iss_cons (is_setLc (i := 2) (own := [("_law_name", 3)]) (t := (.nm 3)) rfl SC.nd rfl rfl (sw_true rfl rfl rfl (by decide +kernel)) (ii_seq (iv 1)) (blkOk_by (own := [("_law_name", 3)]) (N := nWor) (sc := defScope sWor) (by decide +kernel)) (fun _ _ _ _ _ => (igm SC.nd (i := 3))) (fun _ _ _ _ _ => its_nil) (fun _ _ _ _ _ => (ie_ix hu1 (ie_lst (ia_cons ie_int (ia_cons ie_int (ia_cons ie_int (ia_cons ie_int (ia_cons ie_int (ia_cons (ie_def D__law_draw hgd hr__law_draw (ia_cons (iv 0) (ia_cons ie_int ia_nil)) (by rfl)) ia_nil))))))) (ie_def D__law_draw hgd hr__law_draw (ia_cons (iv 0) (ia_cons ie_int ia_nil)) (by rfl)) (fun _ _ => rfl))) (by decide))
      (iss_one (is_ret (ie_dz rfl (by rfl) G.dict (by rfl) G.list (by rfl) G.zip (iv 1) (iv 2))))), fun ws S Q hS hw ⟨i, j, q, ns, e, dk, en, n1, n2, ln, hq⟩ => ?_⟩
  subst e
  have nq : q ∉ [i, j] := by simp [n1, n2]
  refine ⟨_, rfl, _, en, lcW_by (fun t acc S1 => Gr [i, j] S S1 ∧ DkW S1 i j ∧ ∃ ks : List Int, acc = ks.map W.int ∧ ks.length = t ∧ ∀ k ∈ ks, 0 ≤ k ∧ k < 65536) ⟨Gr.refl _ _, dk, [], rfl, rfl, fun _ z => nomatch z⟩
    (fun t acc S1 _ ⟨g, _⟩ => g.get en nq) (fun t acc S1 ht ⟨_, _, ks, e, l, _⟩ => by rw [e, List.length_map, l]; rw [List.length_map] at ht; exact PL.sl0 (by omega)) ?_ ?_⟩
  · rintro t x acc S1 hx ⟨g, d, ks, rfl, l, hk⟩
    refine ⟨_, rfl, fun F hF => ?_⟩
    refine lcYes ⟨_, rfl, i, j, 65536, rfl, d, by decide, by decide, fun r S2 r0 r1 d2 sv2 => ⟨PL.sl1 (by show 6 ≤ 10000; decide), ?_⟩⟩
    refine ⟨_, rfl, i, j, 6, rfl, d2.app _, by decide, by decide, fun j6 S3 j0 j1 d3 sv3 => ?_⟩
    have e6 : S3[S2.length]? = some (.lst (six6W r)) := by
      have l2 := d2.lt
      rw [sv3.at_ _ (by simp; omega)]
      exact get_new
    obtain ⟨k, ek, k0, k1⟩ := six6W_at r0 r1 j0 j1
    refine ixL e6 ek (hF _ _ ⟨((g.trans sv2.gr).push _).trans sv3.gr, d3, ks ++ [k], by rw [List.map_append]; rfl, by simp [l], fun z hz => ?_⟩)
    rcases List.mem_append.mp hz with y | y
    · exact hk z y
    · rw [List.mem_singleton.mp y]; exact ⟨k0, k1⟩
  · rintro acc S1 ⟨g, d, ks, rfl, l, hk⟩
    rw [List.length_map] at l
    have gq := g.get en nq
    refine ⟨_, rfl, _, rfl, q, S1.length, ns, ks.map W.int, rfl, rfl, get_app gq, get_new, by rw [List.length_map, l], PL.sl0 (by omega), .same (hq _ _ ((g.push _).push _) ((d.app _).app _) ?_ ⟨_, get_new, fun x hx => ?_⟩)⟩
    · have := g.len
      simp
      omega
    · obtain ⟨w, e, n, rfl, n0, n1⟩ := valW_merge_in (F := fun (_ : Key) w => ∃ n : Int, w = .int n ∧ 0 ≤ n ∧ n < 65536) (acc := []) (k := Sum.inr x) (more := (ns.map Sum.inr).zip (ks.map W.int)) (fun kv h => by
        obtain ⟨h1, h2⟩ := List.of_mem_zip (a := kv.1) (b := kv.2) h
        obtain ⟨n, hn, e⟩ := List.mem_map.mp h2
        exact ⟨n, e.symm, hk n hn⟩) (.inr (by
        have e1 : ((ns.map (Sum.inr : Str → Key)).zip (ks.map W.int)).map Prod.fst = ns.map Sum.inr := List.map_fst_zip (by simp [l])
        rw [e1]
        exact List.mem_map_of_mem hx))
      exact ⟨n, e, n0, n1⟩
end
end Q16
set_option Elab.async false
set_option linter.all false
set_option maxRecDepth 100000
set_option maxHeartbeats 4000000
/-! ## a pair is right -/
namespace Q16
open PySem PySem.Spec PyProof.Rows L2 KG PL LamX K15 NR SU SA RI
section
variable {K : PySem.W.Frag}
/-- a name and its sum -/
def LfRow (K : PySem.W.Frag) (H : Hp) (q : Addr) (x : Str) : Prop := ∃ w, SqT K H q [.str x, w] ∧ LsAt K H w (SU.single (("name " : Str) ++ x))
theorem lf_rows {H : Hp} : ∀ {ps : List Addr} {ns : List Str}, Paired (LfRow K H) ps ns → ∃ kvs : List (Key × V), Paired (fun q kv => SqT K H q [kV kv.1, kv.2]) ps kvs ∧ kvs.map (·.1) = ns.map (fun y => (Sum.inr y : Key)) ∧ ∀ kv ∈ kvs, ∀ x, kv.1 = Sum.inr x → LsAt K H kv.2 (SU.single (("name " : Str) ++ x))
  | _, _, .nil => ⟨[], .nil, rfl, fun _ z => nomatch z⟩
  | _, _, .cons (b := x) ⟨w, h1, h2⟩ r => by
    obtain ⟨kvs, a, b, c⟩ := lf_rows r
    refine ⟨(Sum.inr x, w) :: kvs, .cons h1 a, by rw [List.map_cons, List.map_cons, b], fun kv hk y e => ?_⟩
    rcases List.mem_cons.mp hk with z | z
    · subst z
      cases e
      exact h2
    · exact c kv z y e
theorem lf_leaves {H : Hp} {ns : List Str} {kvs : List (Key × V)} {d : Addr} {H' : Hp} (b : kvs.map (·.1) = ns.map (fun y => (Sum.inr y : Key))) (c : ∀ kv ∈ kvs, ∀ x, kv.1 = Sum.inr x → LsAt K H kv.2 (SU.single (("name " : Str) ++ x))) (s : Same H H') (hd : H' d = some (.dK (mergeK [] kvs))) : Leaves K H' d ns := by
  refine ⟨_, hd, fun x hx => ?_⟩
  obtain ⟨v, e, g⟩ := merge_val (F := fun k v => ∀ x, k = Sum.inr x → LsAt K H v (SU.single (("name " : Str) ++ x))) kvs [] (Sum.inr x) c (.inr (by rw [b]; exact List.mem_map_of_mem hx))
  exact ⟨v, e, (g x rfl).tk (Tk.of s)⟩
end
section
variable {P : Program} {w : World} {K : PySem.W.Frag} {mg : Str → Option Value} {base : Heap} {T : List (Addr × Str)} {pW pN : Addr}
abbrev sPair : Stmt := K15.topS 40
abbrev pPair : List Str := ["_law_names_here", "_law_here", "_law_there", "_law_worths_here"]
abbrev nPair : List Str := ["_law_names_here", "_law_here", "_law_there", "_law_worths_here", "_law_leaves", "_law_due", "_law_name", "_law_some"]
theorem scPair : FnScope nPair pPair (defScope sPair) := ⟨rfl, rfl, rfl, by decide +kernel, rfl, by decide +kernel, by decide +kernel⟩
def spPair (K : PySem.W.Frag) (T : List (Addr × Str)) : Sp := fun vs H Q _ => ∃ (p q : Addr) (v u : V) (ns : List Str) (t t' : SU.Trm) (ds : List Addr), vs = [.ref p, v, u, .ref q] ∧ SqL K H p (ns.map V.str) ∧ ns.length ≤ 8 ∧ Nms ns ∧ SA.TmAt K H v t ∧ SA.TmAt K H u t' ∧
  SA.Trm.In ns t ∧ SA.Trm.In ns t' ∧ SA.Trm.dep t ≤ 6 ∧ SA.Trm.dep t' ≤ 6 ∧ SqL K H q (ds.map V.ref) ∧ ds.length ≤ 8 ∧ (∀ d ∈ ds, ∃ r : Str → Int, Worth H d ns r ∧ ∀ x, 0 ≤ r x ∧ r x < 65536) ∧ Tabs T H ∧ ∀ H', ExtN H H' → Tabs T H' → Q (.bl true) H'
theorem xt_sql {H H' : Hp} {p : Addr} {xs : List V} (m : ExtN H H') (h : SqL K H p xs) : SqL K H' p xs := by
  rcases h with (z | ⟨o, z⟩) | z
  · exact .inl (.inl (m _ _ z fun _ z => nomatch z))
  · exact .inl (.inr ⟨o, m _ _ z fun _ z => nomatch z⟩)
  · exact .inr z
theorem xt_wo {H H' : Hp} {d : Addr} {ns : List Str} {r : Str → Int} (m : ExtN H H') (h : Worth H d ns r) : Worth H' d ns r := by
  obtain ⟨kvs, a, b⟩ := h
  exact ⟨kvs, m _ _ a (fun _ z => nomatch z), b⟩
theorem rep0 {H : Hp} (t : Tabs T H) : Rep K T H [] [] := ⟨rfl, by simp, t, fun i o a h => by simp at h⟩
theorem told_at {H : Hp} {v u : V} {t t' : SU.Trm} {Q : VK} (ht : SA.TmAt K H v t) (ht' : SA.TmAt K H u t') (d : SA.Trm.dep t ≤ 6) (d' : SA.Trm.dep t' ≤ 6) (g : t.Good) (g' : t'.Good) (tb : Tabs T H) (q : ∀ H', ExtN H H' → Tabs T H' → Q (.bl (decide (SU.sumL t = SU.sumL t'))) H') : liftL K T spAreW [v, u] H Q :=
  ⟨[], [], [encT t, encT t'], fun w S' => w = .bl (decide (SU.sumL t = SU.sumL t')), rep0 tb, .cons (tm_rw ht) (.cons (tm_rw ht') .nil), ⟨t, t', rfl, d, d', g, g', rfl⟩, fun w S' v ρ' H' e st r' hw => by
    subst e
    cases hw
    exact q H' (fun a o e nt => st.frm a o (by simp) e nt) r'.tabs⟩
variable {fR fN : Addr} {fdR fdN : FuncData}
theorem ok_pair {f : Addr} {fd : FuncData} (F : Fun K "_law_pair_right" "_law_pair_right" sPair f fd) (G : Glob K mg pW pN)
    (DR : Def K mg "_law_reckoned" sReck pReck fR fdR) (GR : FnG P w K mg base (6 + 3) fR fdR pReck (spReck K 6))
    (DT : Dw P w K mg base T "_law_told" 13 ["_law_here", "_law_there"] spAreW)
    (DN : Def K mg "_law_number" sNumb pNumb fN fdN) : FnG P w K mg base (13 + 1) f fd pPair (spPair K T) := by
  have GN : FnOk P w K mg base CX0 (6 + 1) fN fdN pNumb (spNumb K 6) := ok_numb DN G 6
  obtain ⟨fT, fdT, GT, hT1, hT2, hT3⟩ := DT.ex
  refine okG F scPair (fun vs H Q E h => ?_) (fun cdv A outer s H vs Q hgd hr h => ?_)
  · obtain ⟨p, q, v, u, ns, t, t', ds, rfl, _⟩ := h
    rfl
  · obtain ⟨p, q, v, u, ns, t, t', ds, rfl, np, ln, hn, ht, ht', hi, hi', hd, hd', nq, ld, wo, tb, hq⟩ := h
    have r7 : Room (6 + 1) _ := hr.mono (by omega)
    have r9 : Room (6 + 3) _ := hr.mono (by omega)
    have len5 : ("name " : Str).length = 5 := by decide +kernel
    have gt := Trm.good hn hi
    have gt' := Trm.good hn hi'
    refine ⟨_, pss_cons (ps_set (i := 4) scPair.nd rfl (.inl rfl) (pe_callTy (call_dictP rfl) (by rfl) G.dict (by decide +kernel) (pa_cons (pe_lc (own := [("_law_name", 6)]) (g := gName 6) (tt := tYes) rfl scPair.nd (pi_list (pv 0)) (blkOk_by (own := [("_law_name", 6)]) (N := nPair) (sc := defScope sPair) (by decide +kernel))
          (fun _ _ _ _ _ => pg_name (i := 6) scPair.nd rfl (Or.inl rfl)) (fun _ _ _ _ _ => pts_nil) (fun _ _ _ _ _ => pe_tup (pa_cons (pv 6) (pa_cons (pe_tup (pa_cons pe_int (pa_cons (pe_tupF (pa_cons (pe_tup (pa_cons (pe_op op_add_str pe_str (pv 6)) (pa_cons pe_int pa_nil))) pa_nil)) pa_nil))) pa_nil)))) pa_nil)))
      (pss_cons (ps_set (i := 5) scPair.nd rfl (.inl rfl) (pe_cmpR (op_eqD hr.units) (pe_callG GR hgd r9 (by rfl) DR.at_ DR.fn.kp DR.b (pa_cons (pv 1) (pa_cons (pv 4) pa_nil))) (pe_callG GR hgd r9 (by rfl) DR.at_ DR.fn.kp DR.b (pa_cons (pv 2) (pa_cons (pv 4) pa_nil))) (nomark _)))
      (pss_cons (ps_if (pt_cmpR op_ne (pe_callG GT hgd hr (by rfl) hT1 hT2 hT3 (pa_cons (pv 1) (pa_cons (pv 2) pa_nil))) (pv 5) (nomark _)) (pss_one (ps_ret pe_bl)) pss_nil)
      (pss_cons (ps_if (pt_not (pt_val (pv 5))) (pss_one (ps_ret pe_bl)) pss_nil)
      (pss_one (ps_ret (pe_cmpR (op_eqD hr.units) (pe_lc (own := [("_law_some", 7)]) (g := gName 7) rfl scPair.nd (pi_list (pv 3)) (blkOk_by (own := [("_law_some", 7)]) (N := nPair) (sc := defScope sPair) (by decide +kernel))
          (fun _ _ _ _ _ => pg_name (i := 7) scPair.nd rfl (Or.inl rfl)) (fun _ _ _ _ _ => pts_one (pt_cmpR op_ne (pe_call GN r7 (by rfl) DN.at_ DN.fn.kp DN.b .nil pass0 (pa_cons (pv 1) (pa_cons (pv 7) pa_nil))) (pe_call GN r7 (by rfl) DN.at_ DN.fn.kp DN.b .nil pass0 (pa_cons (pv 2) (pa_cons (pv 7) pa_nil))) (nomark _))) (fun _ _ _ _ _ => pv 7)) (pe_lst pa_nil) (nomark _))))))), ?_⟩
    refine ⟨_, rfl, p, rfl, ⟨_, np⟩, fun Dd hDd => ?_⟩
    refine lc_list (K := K) (a := p) (xs := ns.map V.str) (fun j H2 => Same H H2 ∧ ∃ ps : List Addr, H2 Dd = some (.lst (ps.map V.ref)) ∧ Paired (LfRow K H2) ps (ns.take j))
      ⟨same_new hDd, [], upd_same, .nil⟩ (fun j H2 _ z => xt_sql (ExtN.of z.1) np) ?_ ?_
    · rintro j x H2 hx ⟨s2, ps, e2, pr⟩
      rw [List.getElem?_map] at hx
      obtain ⟨nm, hnm, rfl⟩ := Option.map_eq_some_iff.mp hx
      have jl : j < ns.length := (List.getElem?_eq_some_iff.mp hnm).1
      have nl := (hn nm (List.mem_of_getElem? hnm)).2
      have lp : ps.length = j := by
        have := pr.length
        rw [List.length_take] at this
        omega
      refine ⟨rfl, _, rfl, _, rfl, _, _, rfl, rfl, (by rw [len5, sizeLine_eq]; omega), (by show 2 ≤ sizeLine; decide), fun t1 ht1 => ⟨(by show 1 ≤ sizeLine; decide), fun t2 o ht2 ho => ⟨(by show 2 ≤ sizeLine; decide), fun t3 ht3 => ⟨(by show 2 ≤ sizeLine; decide), fun t4 ht4 => ?_⟩⟩⟩⟩
      obtain ⟨sA, lA⟩ := one_atom (K := K) ht1 ht2 ho ht3
      have s4 := same_new (o := .tup [.str nm, .ref t3]) ht4
      have sB := sA.trans s4
      have eD := sB _ _ e2
      refine ⟨_, eD, (by rw [List.length_map, lp, sizeLine_eq]; omega), Same.put (s2.trans sB) hDd, ps ++ [t4], by rw [upd_same, List.map_append]; rfl, ?_⟩
      have kD := tk_lst (o := .lst (ps.map V.ref ++ [.ref t4])) eD
      have kB := (Tk.of sB).trans kD
      rw [List.take_succ, hnm]
      refine NZ.paired_snoc (Paired.imp (fun q y z => ?_) pr) ⟨.ref t3, kD.sq sq_new, (lA.tk (Tk.of s4)).tk kD⟩
      obtain ⟨w0, z1, z2⟩ := z
      exact ⟨w0, kB.sq z1, z2.tk kB⟩
    · rintro H6 ⟨s6, ps, e6, pr⟩
      rw [List.length_map, List.take_length] at pr
      obtain ⟨kvs, p1, p2, p3⟩ := lf_rows pr
      refine ⟨Dd, ps, kvs, rfl, .inl (.inl e6), p1, fun pd hpd => ?_⟩
      have s7 := same_new (o := .dK (mergeK [] kvs)) hpd
      have lv : Leaves K (upd H6 pd (.dK (mergeK [] kvs))) pd ns := lf_leaves p2 p3 s7 upd_same
      have sA := s6.trans s7
      revert lv sA
      show _ → _ → tSeq _ _ _ _ (upd H6 pd (.dK (mergeK [] kvs)))
      generalize upd H6 pd (.dK (mergeK [] kvs)) = H7
      intro lv sA
      refine ⟨_, rfl, _, rfl, v, pd, t, ns, rfl, ht.tk (Tk.of sA), hd, hd, hi, hn, lv, fun w1 H8 s8 l8 => ?_⟩
      refine ⟨_, rfl, _, rfl, u, pd, t', ns, rfl, ht'.tk (Tk.of (sA.trans s8)), hd', hd', hi', hn, lv.same s8, fun w2 H9 s9 l9 => ?_⟩
      refine ⟨dL (sumL t), dL (sumL t'), LsAt.dp (l8.tk (Tk.of s9)), LsAt.dp l9, shaped_L (sumL_lk hn hi).1, shaped_L (sumL_lk hn hi').1, ?_⟩
      rw [eq_L]
      have sB := (sA.trans s8).trans s9
      have kB := Tk.of sB
      have tbB : Tabs T H9 := tb.ext sB
      refine ⟨_, rfl, _, rfl, told_at (ht.tk kB) (ht'.tk kB) hd hd' gt gt' tbB fun H10 x10 tb10 => ?_⟩
      have xA : ExtN H H10 := fun a o e nt => x10 a o (sB a o e) nt
      have k10 := kB.trans (tk_ext x10)
      refine ⟨_, rfl, rfl, _, rfl, ?_⟩
      rw [decide_eq_true rfl]
      refine iteF ⟨_, rfl, _, rfl, ?_⟩
      by_cases c : sumL t = sumL t'
      · rw [decide_eq_true c]
        refine iteF ⟨_, rfl, q, rfl, ⟨_, xt_sql xA nq⟩, fun D2 hD2 => ?_⟩
        have y0 : ExtN H10 (upd H10 D2 (.lst [])) := ExtN.of (same_new hD2)
        refine lc_list (K := K) (a := q) (xs := ds.map V.ref) (fun j H2 => Same (upd H10 D2 (.lst [])) H2) (Same.refl _) (fun j H2 _ z => xt_sql ((xA.trans y0).trans (ExtN.of z)) nq) ?_ ?_
        · rintro j x H2 hx s2
          rw [List.getElem?_map] at hx
          obtain ⟨dd, hdd, rfl⟩ := Option.map_eq_some_iff.mp hx
          obtain ⟨r, wr, rr⟩ := wo dd (List.mem_of_getElem? hdd)
          have x2 := (xA.trans y0).trans (ExtN.of s2)
          have k2 := tk_ext x2
          refine ⟨rfl, _, rfl, _, rfl, v, dd, t, ns, r, rfl, ht.tk k2, hd, hi, xt_wo x2 wr, rr, fun H3 s3 => ?_⟩
          have x3 := x2.trans (ExtN.of s3)
          refine ⟨_, rfl, _, rfl, u, dd, t', ns, r, rfl, ht'.tk (tk_ext x3), hd', hi', xt_wo x3 wr, rr, fun H4 s4 => ?_⟩
          rw [same_num gt gt' c rr]
          refine ⟨rfl, _, rfl, ?_⟩
          rw [decide_eq_true rfl]
          exact iteF ((s2.trans s3).trans s4)
        · rintro H3 s3
          refine ⟨(by show 0 ≤ sizeLine; decide), fun l hl => ⟨.list [], .list [], .lst (.inl (.inl ?_)) .nil, .lst (.inl (.inl upd_same)) .nil, rfl, rfl, ?_⟩⟩
          · rw [upd_ne (ne_of_none (s3 _ _ upd_same) hl)]
            exact s3 _ _ upd_same
          · have x3 := (xA.trans y0).trans (ExtN.of s3)
            have s5 := same_new (o := .lst []) hl
            exact hq _ (x3.trans (ExtN.of s5)) (((tb10.ext (same_new hD2)).ext s3).ext s5)
      · rw [decide_eq_false c]
        exact iteT (hq H10 xA tb10)
end
end Q16
set_option Elab.async false
set_option linter.all false
set_option maxRecDepth 100000
set_option maxHeartbeats 4000000
/-! ## plain steps of the law -/
namespace Q16
open PySem PySem.Spec PyProof.Rows L2 KG PL LamX
theorem rref {K : PySem.W.Frag} {H : Hp} {ρ : List Addr} : ∀ {ms : List Nat} {vs : List V}, RWs K H ρ (ms.map W.ref) vs → ∃ ds : List Addr, vs = ds.map V.ref ∧ Paired (fun m d => ρ[m]? = some d) ms ds
  | [], _, h => by cases h; exact ⟨[], rfl, .nil⟩
  | m :: ms, _, h => by
    cases h with
    | cons a b =>
      obtain ⟨d, rfl, e⟩ := rw_ref a
      obtain ⟨ds, rfl, p⟩ := rref b
      exact ⟨d :: ds, rfl, .cons e p⟩
theorem pair_mem {α β : Type} {F : α → β → Prop} : ∀ {l : List α} {m : List β}, Paired F l m → ∀ b ∈ m, ∃ a ∈ l, F a b
  | _, _, .nil, b, h => by cases h
  | _, _, .cons a r, b, h => by
    rcases List.mem_cons.mp h with e | e
    · subst e; exact ⟨_, List.mem_cons_self .., a⟩
    · obtain ⟨x, h1, h2⟩ := pair_mem r b e
      exact ⟨x, List.mem_cons_of_mem _ h1, h2⟩
def nOf (kvs : List (Key × V)) (x : Str) : Int := match valV kvs (Sum.inr x) with
  | some (.int k) => if 0 ≤ k ∧ k < 65536 then k else 0
  | _ => 0
theorem nOf_rng (kvs : List (Key × V)) (x : Str) : 0 ≤ nOf kvs x ∧ nOf kvs x < 65536 := by
  unfold nOf
  split
  · split
    · assumption
    · exact ⟨by decide, by decide⟩
  · exact ⟨by decide, by decide⟩
theorem wor_v {K : PySem.W.Frag} {T : List (Addr × Str)} {H : Hp} {ρ : List Addr} {S : Sto} (r : Rep K T H ρ S) {ns : List Str} {m : Nat} {d : Addr} (h : WorW S ns m) (hd : ρ[m]? = some d) : ∃ f : Str → Int, K15.Worth H d ns f ∧ ∀ x, 0 ≤ f x ∧ f x < 65536 := by
  obtain ⟨kvs, e, hk⟩ := h
  obtain ⟨kus, q1, q2⟩ := r.ob _ _ _ e hd
  refine ⟨nOf kus, ⟨kus, q1, fun x hx => ?_⟩, nOf_rng kus⟩
  obtain ⟨n, en, n0, n1⟩ := hk x hx
  rcases val_rel (Sum.inr x : Key) q2 with ⟨a, _⟩ | ⟨w, v, a, b, c⟩
  · rw [en] at a; cases a
  · rw [en] at a
    cases a
    cases c
    unfold nOf
    rw [b]
    show _ = some (V.int (if 0 ≤ n ∧ n < 65536 then n else 0))
    rw [if_pos ⟨n0, n1⟩]
def spPairW : MRL := fun ws S Q => ∃ (i q : Nat) (ns : List Str) (t u : SU.Trm) (ms : List Nat), ws = [.ref i, encT t, encT u, .ref q] ∧ S[i]? = some (.lst (ns.map W.str)) ∧ ns.length ≤ 8 ∧ SA.Nms ns ∧ SA.Trm.In ns t ∧ SA.Trm.In ns u ∧ SA.Trm.dep t ≤ 6 ∧ SA.Trm.dep u ≤ 6 ∧
  S[q]? = some (.lst (ms.map W.ref)) ∧ ms.length ≤ 8 ∧ (∀ m ∈ ms, WorW S ns m) ∧ Q (.bl true) S
section
variable {P : Program} {w : World} {K : PySem.W.Frag} {mg : Str → Option Value} {base : Heap} {T : List (Addr × Str)} {f : Addr} {fd : FuncData} {x : Str} {st : Stmt} {ps : List Str} {k : Nat}
theorem dw_pair (D : K15.Def K mg x st ps f fd) (F : FnG P w K mg base k f fd ps (spPair K T)) : Dw P w K mg base T x k ps spPairW :=
  Dw.of F D.at_ D.fn.kp D.b fun ρ S ws vs H Pq Q r hw ⟨i, q, ns, t, u, ms, e, en, ln, hn, it, iu, dt, du, em, lm, wo, hq⟩ kk => by
    subst e
    cases hw with
    | cons a1 hw => cases hw with
      | cons a2 hw => cases hw with
        | cons a3 hw => cases hw with
          | cons a4 hw =>
            cases hw
            obtain ⟨p, rfl, hp⟩ := rw_ref a1
            obtain ⟨p2, rfl, hp2⟩ := rw_ref a4
            obtain ⟨us, q1, q2⟩ := r.ob _ _ _ en hp
            obtain ⟨us2, q3, q4⟩ := r.ob _ _ _ em hp2
            rw [RWs.strs q2] at q1
            obtain ⟨ds, rfl, pd⟩ := rref q4
            refine ⟨p, p2, _, _, ns, t, u, ds, rfl, SqL.of q1, ln, hn, rw_tm a2 (wd_good (SA.Trm.good hn it)), rw_tm a3 (wd_good (SA.Trm.good hn iu)), it, iu, dt, du, SqL.of q3, by rw [← Paired.length pd]; exact lm, fun d hd => ?_, r.tabs, fun H' ex tb => ?_⟩
            · obtain ⟨m, hm, e⟩ := pair_mem pd d hd
              exact wor_v r (wo m hm) e
            · obtain ⟨st, r'⟩ := rep_ext r ex tb
              exact kk _ _ _ _ _ hq st r' (.bl _)
end
theorem cut_take {ns : List Str} {r : Int} (h : 0 ≤ r) : cutW (ns.map W.str) none (some r) = (ns.take r.toNat).map W.str := by
  unfold cutW
  have e : HT.sIx (ns.map W.str).length (ns.map W.str).length (some r) = min r.toNat (ns.map W.str).length := by
    show (if r < 0 then _ else _) = _
    rw [if_neg (by omega)]
  rw [HT.sIx_none, e, List.drop_zero, Nat.sub_zero, List.map_take]
  by_cases c : r.toNat ≤ (ns.map W.str).length
  · rw [Nat.min_eq_left c]
  · rw [Nat.min_eq_right (by omega), List.take_length, List.take_of_length_le (by omega)]
theorem In.sub {ns : List Str} {k : Int} {wd : Str} {a b : SU.Trm} (hw : wd ∈ SU.six) (ha : SA.Trm.In ns a) (hb : SA.Trm.In ns b) : SA.Trm.In ns (.op wd a b) := ⟨hw, ha, hb⟩
def TG (ns : List Str) (d : Nat) (t : SU.Trm) : Prop := SA.Trm.In ns t ∧ SA.Trm.dep t ≤ d
def PGd (ns : List Str) (d : Nat) (p : SU.Trm × SU.Trm) : Prop := TG ns d p.1 ∧ TG ns d p.2
section
variable {ns : List Str} {t u v : SU.Trm}
theorem tg_op {wd : Str} {a b : SU.Trm} {d : Nat} (hw : wd ∈ SU.six) (ha : TG ns d a) (hb : TG ns d b) : TG ns (d + 1) (.op wd a b) := ⟨⟨hw, ha.1, hb.1⟩, by have := ha.2; have := hb.2; simp only [SA.Trm.dep]; omega⟩
theorem TG.up {a : SU.Trm} {d e : Nat} (h : TG ns d a) (l : d ≤ e) : TG ns e a := ⟨h.1, Nat.le_trans h.2 l⟩
theorem tg_num {k : Int} {d : Nat} (h0 : 0 ≤ k) (h1 : k < 65536) (hd : 1 ≤ d) : TG ns d (.num k) := ⟨⟨h0, h1⟩, hd⟩
theorem PGd.up {p : SU.Trm × SU.Trm} {d e : Nat} (h : PGd ns d p) (l : d ≤ e) : PGd ns e p := ⟨h.1.up l, h.2.up l⟩
theorem alw_in (ht : TG ns 2 t) (hu : TG ns 2 u) (hv : TG ns 2 v) : ∀ p ∈ SU.alwaysT t u v, PGd ns 4 p := by
  have n : ∀ {k : Int}, 0 ≤ k → k < 65536 → TG ns 2 (.num k) := fun h0 h1 => tg_num h0 h1 (by decide)
  have o : ∀ {wd : Str} {a b : SU.Trm}, wd ∈ SU.six → TG ns 2 a → TG ns 2 b → TG ns 3 (.op wd a b) := fun h => tg_op h
  have o4 : ∀ {wd : Str} {a b : SU.Trm}, wd ∈ SU.six → TG ns 3 a → TG ns 3 b → TG ns 4 (.op wd a b) := fun h => tg_op h
  have s : ∀ {a : SU.Trm}, TG ns 2 a → TG ns 3 a := fun h => h.up (by decide)
  have s4 : ∀ {a : SU.Trm}, TG ns 2 a → TG ns 4 a := fun h => h.up (by decide)
  have s3 : ∀ {a : SU.Trm}, TG ns 3 a → TG ns 4 a := fun h => h.up (by decide)
  have w1 := K15.w_sum
  have w2 := K15.w_less
  have w3 := K15.w_times
  have w4 := K15.w_over
  have w5 := K15.w_below
  have w6 := K15.w_same
  have n0 : TG ns 2 (.num 0) := n (by decide) (by decide)
  have n1 : TG ns 2 (.num 1) := n (by decide) (by decide)
  have n3 : TG ns 2 (.num 3) := n (by decide) (by decide)
  have n7 : TG ns 2 (.num 7) := n (by decide) (by decide)
  have n9 : TG ns 2 (.num 9) := n (by decide) (by decide)
  have na : TG ns 2 (.num 65535) := n (by decide) (by decide)
  have nb : TG ns 2 (.num 32768) := n (by decide) (by decide)
  have nc : TG ns 2 (.num 256) := n (by decide) (by decide)
  have nd : TG ns 2 (.num 255) := n (by decide) (by decide)
  intro p hp
  simp only [SU.alwaysT, List.mem_cons, List.not_mem_nil, or_false] at hp
  rcases hp with rfl | rfl | rfl | rfl | rfl | rfl | rfl | rfl | rfl | rfl | rfl | rfl | rfl | rfl | rfl | rfl | rfl | rfl | rfl
  · exact ⟨o4 w1 (s ht) (o w1 hu hv), o4 w1 (o w1 hv ht) (s hu)⟩
  · exact ⟨s3 (o w3 ht n0), s4 n0⟩
  · exact ⟨s3 (o w3 ht na), s3 (o w2 n0 ht)⟩
  · exact ⟨o4 w1 (s ht) (o w2 hu ht), s4 hu⟩
  · exact ⟨s3 (o w4 ht n0), s4 n0⟩
  · exact ⟨s3 (o w3 ht hu), s3 (o w3 hu ht)⟩
  · exact ⟨s3 (o w5 ht n0), s4 n0⟩
  · exact ⟨s3 (o w5 ht ht), s4 n0⟩
  · exact ⟨s3 (o w6 ht ht), s4 n1⟩
  · exact ⟨o4 w6 (s ht) (o w1 ht n1), s4 n0⟩
  · exact ⟨s3 (o w6 ht hu), s3 (o w6 hu ht)⟩
  · exact ⟨o4 w6 (o w1 ht hv) (o w1 hv hu), o4 w6 (o w2 ht hu) (s n0)⟩
  · exact ⟨o4 w1 (o w3 ht nb) (o w3 ht nb), s4 n0⟩
  · exact ⟨o4 w3 (s n3) (o w1 ht hu), o4 w1 (o w3 ht n3) (o w3 hu n3)⟩
  · exact ⟨s3 (o w5 n7 n9), s4 n1⟩
  · exact ⟨s3 (o w4 na nc), s4 nd⟩
  · exact ⟨s3 (o w3 nc nc), s4 n0⟩
  · exact ⟨s3 (o w2 n0 n1), s4 na⟩
  · exact ⟨o4 w3 (o w1 ht hu) (s hv), o4 w3 (s hv) (o w1 hu ht)⟩
theorem mor_in (ht : TG ns 2 t) (hu : TG ns 2 u) (hv : TG ns 2 v) : ∀ p ∈ K15.moreT t u v, PGd ns 4 p := by
  have o : ∀ {wd : Str} {a b : SU.Trm}, wd ∈ SU.six → TG ns 2 a → TG ns 2 b → TG ns 3 (.op wd a b) := fun h => tg_op h
  have o4 : ∀ {wd : Str} {a b : SU.Trm}, wd ∈ SU.six → TG ns 3 a → TG ns 3 b → TG ns 4 (.op wd a b) := fun h => tg_op h
  have s : ∀ {a : SU.Trm}, TG ns 2 a → TG ns 3 a := fun h => h.up (by decide)
  have s4 : ∀ {a : SU.Trm}, TG ns 2 a → TG ns 4 a := fun h => h.up (by decide)
  have s3 : ∀ {a : SU.Trm}, TG ns 3 a → TG ns 4 a := fun h => h.up (by decide)
  have w1 := K15.w_sum
  have w2 := K15.w_less
  have w3 := K15.w_times
  have w4 := K15.w_over
  have w5 := K15.w_below
  have w6 := K15.w_same
  have n0 : TG ns 2 (.num 0) := tg_num (by decide) (by decide) (by decide)
  have n1 : TG ns 2 (.num 1) := tg_num (by decide) (by decide) (by decide)
  intro p hp
  simp only [K15.moreT, List.mem_cons, List.not_mem_nil, or_false] at hp
  rcases hp with rfl | rfl | rfl | rfl | rfl | rfl | rfl | rfl | rfl | rfl | rfl | rfl | rfl
  · exact ⟨s3 (o w4 ht n1), s4 ht⟩
  · exact ⟨s3 (o w5 n0 ht), o4 w2 (s n1) (o w6 ht n0)⟩
  · exact ⟨s3 (o w4 ht ht), s4 n1⟩
  · exact ⟨o4 w3 (o w3 ht hu) (s hv), o4 w3 (s ht) (o w3 hu hv)⟩
  · exact ⟨s4 ht, s4 hu⟩
  · exact ⟨s3 (o w2 ht hu), s3 (o w2 hu ht)⟩
  · exact ⟨s3 (o w6 ht hu), s3 (o w6 ht hv)⟩
  · exact ⟨s3 (o w1 ht hu), s3 (o w1 ht hv)⟩
  · exact ⟨s3 (o w5 ht hu), s3 (o w5 hu ht)⟩
  · exact ⟨o4 w6 (o w6 ht hu) (s n1), s3 (o w6 ht hu)⟩
  · exact ⟨o4 w3 (s ht) (o w1 hu hv), s3 (o w3 ht hu)⟩
  · exact ⟨o4 w4 (o w1 ht hu) (s hu), o4 w4 (o w1 hu ht) (s hu)⟩
  · exact ⟨o4 w6 (s n0) (o w1 ht ht), s3 (o w6 ht hu)⟩
theorem nev_in {x y : Str} (hx : x ∈ ns) (hy : y ∈ ns) : ∀ p ∈ SU.neverT (.nam x) (.nam y), PGd ns 4 p := by
  have a : TG ns 2 (.nam x) := ⟨hx, Nat.le_succ 1⟩
  have b : TG ns 2 (.nam y) := ⟨hy, Nat.le_succ 1⟩
  have o : ∀ {wd : Str} {a b : SU.Trm}, wd ∈ SU.six → TG ns 2 a → TG ns 2 b → TG ns 3 (.op wd a b) := fun h => tg_op h
  have o4 : ∀ {wd : Str} {a b : SU.Trm}, wd ∈ SU.six → TG ns 3 a → TG ns 3 b → TG ns 4 (.op wd a b) := fun h => tg_op h
  have s : ∀ {a : SU.Trm}, TG ns 2 a → TG ns 3 a := fun h => h.up (by decide)
  have s4 : ∀ {a : SU.Trm}, TG ns 2 a → TG ns 4 a := fun h => h.up (by decide)
  have s3 : ∀ {a : SU.Trm}, TG ns 3 a → TG ns 4 a := fun h => h.up (by decide)
  have w1 := K15.w_sum
  have w3 := K15.w_times
  have w4 := K15.w_over
  have w5 := K15.w_below
  have w6 := K15.w_same
  have n0 : TG ns 2 (.num 0) := tg_num (by decide) (by decide) (by decide)
  have n1 : TG ns 2 (.num 1) := tg_num (by decide) (by decide) (by decide)
  have n2 : TG ns 2 (.num 2) := tg_num (by decide) (by decide) (by decide)
  intro p hp
  simp only [SU.neverT, List.mem_cons, List.not_mem_nil, or_false] at hp
  rcases hp with rfl | rfl | rfl | rfl | rfl | rfl | rfl | rfl | rfl | rfl
  · exact ⟨s3 (o w4 a n1), s4 a⟩
  · exact ⟨s3 (o w4 a a), s4 n1⟩
  · exact ⟨s3 (o w5 a b), s3 (o w5 b a)⟩
  · exact ⟨s4 a, s4 b⟩
  · exact ⟨o4 w3 (s a) (o w1 b n1), o4 w1 (o w3 a b) (s a)⟩
  · exact ⟨s3 (o w4 n0 a), s4 n0⟩
  · exact ⟨o4 w6 (o w3 a n2) (o w3 b n2), s3 (o w6 a b)⟩
  · exact ⟨s3 (o w5 n0 a), s4 n0⟩
  · exact ⟨o4 w3 (o w3 a n2) (s b), o4 w3 (s a) (o w3 b n2)⟩
  · exact ⟨s3 (o w3 a a), s4 a⟩
end
theorem Gr.new {l m : List Nat} {S S1 S2 : Sto} (a : Gr l S S1) (b : Gr m S1 S2) (h : ∀ k ∈ m, k ∈ l ∨ S.length ≤ k) : Gr l S S2 := ⟨Nat.le_trans a.len b.len, fun k n z => (b.at_ k (Nat.lt_of_lt_of_le n a.len) fun y => (h k y).elim z fun q => by omega).trans (a.at_ k n z)⟩
theorem WorW.gr {l : List Nat} {S S' : Sto} {ns : List Str} {m : Nat} (h : WorW S ns m) (g : Gr l S S') (n : m ∉ l) : WorW S' ns m := by
  obtain ⟨kvs, e, q⟩ := h
  exact ⟨kvs, g.get e n, q⟩
theorem setRef {S : Sto} {ts : List Tg} {l : Nat} {ws : List W} {τ τ' : Lo} (h : S[l]? = some (.lst ws)) (e : setTs S ts ws τ = some τ') : setT S (.tp ts) (.ref l) τ = some τ' := by
  simp only [setT, h]
  exact e
theorem encP_len {L : List (SU.Trm × SU.Trm)} : (L.map encP).length = L.length := List.length_map ..
def widT (wd : Str) (t : SU.Trm) (p : SU.Trm × SU.Trm) : SU.Trm × SU.Trm := (.op wd p.1 t, .op wd p.2 t)
def widV (wd : Str) (v : SU.Trm) (p : SU.Trm × SU.Trm) : SU.Trm × SU.Trm := (.op wd v p.1, .op wd v p.2)
end Q16
set_option Elab.async false
set_option linter.all false
set_option maxRecDepth 100000
set_option maxHeartbeats 4000000
/-! ## the law -/
namespace Q16
open PySem PySem.Spec PyProof.Rows L2 KG PL LamX
section
variable {P : Program} {w : World} {K : PySem.W.Frag} {mg : Str → Option Value} {base : Heap} {T : List (Addr × Str)}
abbrev sLaw : Stmt := K15.topS 42
abbrev nLaw : List Str := ["_law_script", "_law_deck_here", "_law_turn", "_law_names_here", "_law_t", "_law_u", "_law_v", "_law_around", "_law_worths_here", "_law_always_here", "_law_pairs", "_law_wider", "_law_here", "_law_there", "_law_k", "_law_pair"]
theorem scLaw : FnScope nLaw ["_law_script"] (defScope sLaw) := ⟨rfl, rfl, rfl, by decide +kernel, rfl, by decide +kernel, by decide +kernel⟩
def spLaw (K : PySem.W.Frag) (T : List (Addr × Str)) : Sp := fun vs H Q _ => ∃ (b : Addr) (ns : List Int), vs = [.ref b] ∧ SqL K H b (ns.map V.int) ∧ ns.length ≤ 63 ∧ Tabs T H ∧ ∀ H', Q (.bl true) H'
theorem nin2 {n : Nat} (h : 2 ≤ n) : n ∉ [0, 1] := by
  intro z
  simp only [List.mem_cons, List.not_mem_nil, or_false] at z
  omega
theorem lenL {S : Sto} {i : Nat} {ws : List W} {P : WK} (h : S[i]? = some (.lst ws)) (p : P (.int ws.length) S) : rLenW [.ref i] S P := by
  show (match S[i]? with | some (.lst ws) => P (.int ws.length) S | some (.dct kvs) => P (.int kvs.length) S | _ => False)
  rw [h]
  exact p
theorem deck_w {H : Hp} {a c : Addr} (d : K15.Deck H a c) (t : Tabs T H) : ∃ S : Sto, Rep K T H [a, c] S ∧ DkW S 0 1 := by
  obtain ⟨⟨ns, sd, n, h1, h2, l, s0, s1⟩, ne⟩ := d
  refine ⟨[.lst [.ref 1, .int sd, .int n], .lst (ns.map W.int)], ⟨rfl, by simp [ne], t, fun i o x e1 e2 => ?_⟩, ⟨⟨ns, sd, n, rfl, rfl, l, s0, s1⟩, by decide⟩⟩
  match i, e1, e2 with
  | 0, e1, e2 =>
    cases e1
    cases e2
    exact ⟨_, h1, .cons (.ref rfl) (.cons (.int _) (.cons (.int _) .nil))⟩
  | 1, e1, e2 =>
    cases e1
    cases e2
    exact ⟨_, h2, RWs.toInts ns⟩
  | i + 2, e1, e2 => simp at e1
theorem six_mem {x : W} (h : x ∈ [W.str "sum", W.str "less", W.str "times", W.str "over", W.str "below", W.str "same"]) : ∃ wd ∈ SU.six, x = W.str wd := by
  simp only [List.mem_cons, List.not_mem_nil, or_false] at h
  rcases h with rfl | rfl | rfl | rfl | rfl | rfl
  · exact ⟨_, K15.w_sum, rfl⟩
  · exact ⟨_, K15.w_less, rfl⟩
  · exact ⟨_, K15.w_times, rfl⟩
  · exact ⟨_, K15.w_over, rfl⟩
  · exact ⟨_, K15.w_below, rfl⟩
  · exact ⟨_, K15.w_same, rfl⟩
variable {fDk : Addr} {dDk : FuncData}
theorem ok_law {f : Addr} {fd : FuncData} (F : Fun K "law" "law" sLaw f fd) (G : GB mg) (D1 : K15.Def K mg "_law_deck" K15.sDeck ["_law_script"] fDk dDk)
    (D__law_draw : Dw P w K mg base T "_law_draw" 1 ["_law_deck_here", "_law_many"] spDrawW) (D__law_names : Dw P w K mg base T "_law_names" 2 K15.pDM spNamesW) (D__law_term : Dw P w K mg base T "_law_term" 6 K15.pTerm (spTermW 2))
    (D__law_pick : Dw P w K mg base T "_law_pick" 2 ["_law_deck_here", "_law_some"] spPickW) (D__law_worths : Dw P w K mg base T "_law_worths" 2 ["_law_deck_here", "_law_names_here"] spWorW)
    (D__law_always : Dw P w K mg base T "_law_always" 1 K15.pAlw (spThreeW SU.alwaysT)) (D__law_more : Dw P w K mg base T "_law_more" 1 K15.pMor (spThreeW K15.moreT)) (D__law_never : Dw P w K mg base T "_law_never" 1 K15.pNev (spTwoW SU.neverT))
    (D__law_fitting : Dw P w K mg base T "_law_fitting" 7 ["_law_pairs"] spFitW) (D_are_same : Dw P w K mg base T "are_same" 12 ["one", "other"] spAreW) (D__law_told : Dw P w K mg base T "_law_told" 13 ["_law_here", "_law_there"] spAreW)
    (D__law_pair_right : Dw P w K mg base T "_law_pair_right" 14 pPair spPairW) : FnG P w K mg base (14 + 1) f fd ["_law_script"] (spLaw K T) := by
  have G1 : FnOk P w K mg base CX0 (0 + 1) fDk dDk ["_law_script"] (K15.spDeck K) := K15.ok_deck D1.fn G.list
  have SC := scLaw
  refine okG F scLaw (fun vs H Q E h => ?_) (fun cdv A outer s H vs Q hgd hr h => ?_)
  · obtain ⟨b, ns, rfl, _⟩ := h
    rfl
  · obtain ⟨b, ns, rfl, hb, hl, tb, q⟩ := h
    have hu1 := PL.le_units hr
    have r1 : Room (0 + 1) _ := hr.mono (by omega)
    have hr__law_draw : Room 1 _ := hr.mono (by omega)
    have hr__law_names : Room 2 _ := hr.mono (by omega)
    have hr__law_pick : Room 2 _ := hr.mono (by omega)
    have hr__law_worths : Room 2 _ := hr.mono (by omega)
    have hr__law_always : Room 1 _ := hr.mono (by omega)
    have hr__law_more : Room 1 _ := hr.mono (by omega)
    have hr__law_never : Room 1 _ := hr.mono (by omega)
    have hr__law_term : Room 6 _ := hr.mono (by omega)
    have hr__law_fitting : Room 7 _ := hr.mono (by omega)
    have hr_are_same : Room 12 _ := hr.mono (by omega)
    have hr__law_told : Room 13 _ := hr.mono (by omega)
    have hr__law_pair_right : Room 14 _ := hr
    have rest : ∃ m, ISs (cxOf CX0 P w K mg base nLaw "law" (defScope sLaw) f cdv A outer s H E0).nox T ((defBody sLaw).drop 1) m ∧ ∀ (S : Sto) (E : EndW), DkW S 0 1 → (∀ S', E.rt (.bl true) S') → m E [none, some (.ref 0), none, none, none, none, none, none, none, none, none, none, none, none, none, none] S := by
      refine ⟨_, (iss_cons (is_for (t := (.nm 2)) PassesOwn.never rfl (ii_range1 (by rfl) G.range ie_int) (igm SC.nd (i := 2)) (iss_cons (is_set (i := 3) SC.nd rfl (.inr rfl) (ie_slice (ie_def D__law_names hgd hr__law_names (ia_cons (iv 1) (ia_cons ie_int ia_nil)) (by rfl)) io_none (io_some (ie_op ow_add ie_int (ie_def D__law_draw hgd hr__law_draw (ia_cons (iv 1) (ia_cons ie_int ia_nil)) (by rfl))))))
      (iss_cons (is_asg (ie_num (il_lc (own := [("_law_k", 14)]) (t := (.nm 14)) rfl SC.nd (ii_range1 (by rfl) G.range ie_int) (blkOk_by (own := [("_law_k", 14)]) (N := nLaw) (sc := defScope sLaw) (by decide +kernel)) (fun _ _ _ _ _ => (igm SC.nd (i := 14))) (fun _ _ _ _ _ => its_nil) (fun _ _ _ _ _ => (ie_def D__law_term hgd hr__law_term (ia_cons (iv 1) (ia_cons (iv 3) (ia_cons ie_int (ia_cons (ie_lst (ia_cons (ie_op ow_add ie_int (ie_def D__law_draw hgd hr__law_draw (ia_cons (iv 1) (ia_cons ie_int ia_nil)) (by rfl))) ia_nil)) ia_nil)))) (by rfl))) (by decide))) (ig_tp rfl (igs_cons (igm SC.nd (i := 4)) (igs_cons (igm SC.nd (i := 5)) (igs_cons (igm SC.nd (i := 6)) igs_nil)))))
      (iss_cons (is_set (i := 7) SC.nd rfl (.inr rfl) (ie_def D__law_pick hgd hr__law_pick (ia_cons (iv 1) (ia_cons (ie_lst (ia_cons ie_str (ia_cons ie_str (ia_cons ie_str (ia_cons ie_str (ia_cons ie_str (ia_cons ie_str ia_nil))))))) ia_nil)) (by rfl)))
      (iss_cons (is_setLc (i := 8) (own := [("_law_k", 14)]) (t := (.nm 14)) rfl SC.nd rfl rfl (sw_true rfl rfl rfl (by decide +kernel)) (ii_range1 (by rfl) G.range ie_int) (blkOk_by (own := [("_law_k", 14)]) (N := nLaw) (sc := defScope sLaw) (by decide +kernel)) (fun _ _ _ _ _ => (igm SC.nd (i := 14))) (fun _ _ _ _ _ => its_nil) (fun _ _ _ _ _ => (ie_def D__law_worths hgd hr__law_worths (ia_cons (iv 1) (ia_cons (iv 3) ia_nil)) (by rfl))) (by decide))
      (iss_cons (is_par (i := 9) (j := 10) rfl SC.nd rfl rfl (by decide) rfl rfl (ie_def D__law_fitting hgd hr__law_fitting (ia_cons (ie_def D__law_always hgd hr__law_always (ia_cons (iv 4) (ia_cons (iv 5) (ia_cons (iv 6) ia_nil))) (by rfl)) ia_nil) (by rfl)) (ie_def D__law_fitting hgd hr__law_fitting (ia_cons (ie_def D__law_more hgd hr__law_more (ia_cons (iv 4) (ia_cons (iv 5) (ia_cons (iv 6) ia_nil))) (by rfl)) ia_nil) (by rfl)) (by rfl))
      (iss_cons (is_if (it_cmp (ow_ne hr.units) (ie_num (il_lc (own := [("_law_pair", 15)]) (t := (.nm 15)) rfl SC.nd (ii_seq (iv 9)) (blkOk_by (own := [("_law_pair", 15)]) (N := nLaw) (sc := defScope sLaw) (by decide +kernel)) (fun _ _ _ _ _ => (igm SC.nd (i := 15))) (fun _ _ _ _ _ => its_one (it_cmp ow_isnt (ie_def D_are_same hgd hr_are_same (ia_cons (ie_ix hu1 (iv 15) ie_int (fun _ _ => rfl)) (ia_cons (ie_ix hu1 (iv 15) ie_int (fun _ _ => rfl)) ia_nil)) (by rfl)) ie_bl (nomark _))) (fun _ _ _ _ _ => (iv 15)) (by decide))) (ie_lst ia_nil) (nomark _)) (iss_one (is_ret ie_bl)) iss_nil)
      (iss_cons (is_setLc (i := 11) (own := [("_law_here", 12), ("_law_there", 13)]) (t := (.tp [(.nm 12), (.nm 13)])) rfl SC.nd rfl rfl (sw_true rfl rfl rfl (by decide +kernel)) (ii_seq (ie_op ow_add (iv 9) (iv 10))) (blkOk_by (own := [("_law_here", 12), ("_law_there", 13)]) (N := nLaw) (sc := defScope sLaw) (by decide +kernel)) (fun _ _ _ _ _ => (ig_tp rfl (igs_cons (igm SC.nd (i := 12)) (igs_cons (igm SC.nd (i := 13)) igs_nil)))) (fun _ _ _ _ _ => its_nil) (fun _ _ _ _ _ => (ie_tup (ia_cons (ie_tup (ia_cons (iv 7) (ia_cons (iv 12) (ia_cons (iv 4) ia_nil)))) (ia_cons (ie_tup (ia_cons (iv 7) (ia_cons (iv 13) (ia_cons (iv 4) ia_nil)))) ia_nil)))) (by decide))
      (iss_cons (is_set (i := 11) SC.nd rfl (.inl rfl) (ie_op ow_add (iv 11) (ie_num (il_lc (own := [("_law_here", 12), ("_law_there", 13)]) (t := (.tp [(.nm 12), (.nm 13)])) rfl SC.nd (ii_seq (iv 10)) (blkOk_by (own := [("_law_here", 12), ("_law_there", 13)]) (N := nLaw) (sc := defScope sLaw) (by decide +kernel)) (fun _ _ _ _ _ => (ig_tp rfl (igs_cons (igm SC.nd (i := 12)) (igs_cons (igm SC.nd (i := 13)) igs_nil)))) (fun _ _ _ _ _ => its_nil) (fun _ _ _ _ _ => (ie_tup (ia_cons (ie_tup (ia_cons (iv 7) (ia_cons (iv 6) (ia_cons (iv 12) ia_nil)))) (ia_cons (ie_tup (ia_cons (iv 7) (ia_cons (iv 6) (ia_cons (iv 13) ia_nil)))) ia_nil)))) (by decide)))))
      (iss_cons (is_for (t := (.tp [(.nm 12), (.nm 13)])) PassesOwn.never rfl (ii_seq (ie_op ow_add (ie_op ow_add (iv 9) (iv 10)) (ie_def D__law_fitting hgd hr__law_fitting (ia_cons (iv 11) ia_nil) (by rfl)))) (ig_tp rfl (igs_cons (igm SC.nd (i := 12)) (igs_cons (igm SC.nd (i := 13)) igs_nil))) (iss_one (is_if (it_not (it_val (ie_def D__law_pair_right hgd hr__law_pair_right (ia_cons (iv 3) (ia_cons (iv 12) (ia_cons (iv 13) (ia_cons (iv 8) ia_nil)))) (by rfl)))) (iss_one (is_ret ie_bl)) iss_nil)))
      (iss_one (is_if (it_cmp ow_gt (ie_callB cw_len (by rfl) G.len (by decide +kernel) (ia_cons (iv 3) ia_nil)) ie_int (nomark _)) (iss_one (is_for (t := (.tp [(.nm 12), (.nm 13)])) PassesOwn.never rfl (ii_seq (ie_def D__law_never hgd hr__law_never (ia_cons (ie_tup (ia_cons ie_str (ia_cons (ie_ix hu1 (iv 3) ie_int (fun _ _ => rfl)) ia_nil))) (ia_cons (ie_tup (ia_cons ie_str (ia_cons (ie_ix hu1 (iv 3) ie_int (fun _ _ => rfl)) ia_nil))) ia_nil)) (by rfl))) (ig_tp rfl (igs_cons (igm SC.nd (i := 12)) (igs_cons (igm SC.nd (i := 13)) igs_nil))) (iss_one (is_if (it_cmp ow_isnt (ie_def D__law_told hgd hr__law_told (ia_cons (iv 12) (ia_cons (iv 13) ia_nil)) (by rfl)) ie_bl (nomark _)) (iss_one (is_ret ie_bl)) iss_nil)))) iss_nil))))))))))))
      (iss_one (is_ret ie_bl))), fun S E dk hE => ?_⟩
      refine ⟨2, rfl, by decide, by decide, forW_by (fun t τ S' => DkW S' 0 1 ∧ ∃ x2 x3 x4 x5 x6 x7 x8 x9 x10 x11 x12 x13 x14 x15, τ = [none, some (.ref 0), x2, x3, x4, x5, x6, x7, x8, x9, x10, x11, x12, x13, x14, x15])
        ⟨dk, none, none, none, none, none, none, none, none, none, none, none, none, none, none, rfl⟩ (fun _ _ _ _ _ => True.intro) ?_ (fun τ S' _ => hE S')⟩
      rintro t x τ S0 hx ⟨dk0, x2, x3, x4, x5, x6, x7, x8, x9, x10, x11, x12, x13, x14, x15, rfl⟩
      refine ⟨_, rfl, fun Fn hF => ?_⟩
      have li := dk0.lt
      -- names
      refine ⟨_, rfl, 0, 1, 4, rfl, dk0, by decide, by decide, fun ns0 S1 nam ln1 d1 sv1 => ?_⟩
      refine ⟨_, rfl, 0, 1, 4, rfl, d1.app _, by decide, by decide, fun r S2 r0 r1' d2 sv2 => ⟨_, rfl, ?_⟩⟩
      have e2 : S2[S0.length]? = some (.lst (ns0.map W.str)) := by
        rw [sv2.at_ _ (nin2 (by omega)), ← sv1.len]
        exact get_new
      refine ⟨_, e2, ?_⟩
      rw [cut_take (by omega)]
      have hns : SA.Nms (ns0.take (1 + r).toNat) ∧ (ns0.take (1 + r).toNat).Nodup ∧ ns0.take (1 + r).toNat ≠ [] ∧ (ns0.take (1 + r).toNat).length ≤ 8 := by
        refine ⟨fun x hx => K15.Lw.nms nam.lw x (List.mem_of_mem_take hx), nam.nd.sublist (List.take_sublist _ _), fun z => ?_, by rw [List.length_take]; omega⟩
        have l := congrArg List.length z
        rw [List.length_take, List.length_nil] at l
        have := nam.ne
        cases ns0 with
        | nil => exact this rfl
        | cons a b => rw [List.length_cons] at l; omega
      generalize ns0.take (1 + r).toNat = ns at hns
      obtain ⟨hn, hnd, hne, hln⟩ := hns
      have l2 := d2.lt
      have gn : (S2 ++ [O.lst (ns.map W.str)])[S2.length]? = some (.lst (ns.map W.str)) := get_new
      have d3 := d2.app [O.lst (ns.map W.str)]
      have b0 : S2.length ≠ 0 := by omega
      have b1 : S2.length ≠ 1 := by omega
      revert gn d3 b0 b1
      generalize S2.length = N0
      generalize S2 ++ [O.lst (ns.map W.str)] = S3
      intro gn d3 b0 b1
      have nN : N0 ∉ [0, 1] := by simp [b0, b1]
      -- terms
      refine ⟨3, rfl, by decide, by decide, lcW_by (fun k acc S' => Gr [0, 1] S3 S' ∧ DkW S' 0 1 ∧ ∃ ts : List SU.Trm, acc = ts.map encT ∧ ts.length = k ∧ ∀ t ∈ ts, TG ns 2 t) ⟨Gr.refl _ _, d3, [], rfl, rfl, fun _ z => nomatch z⟩ (fun _ _ _ _ _ => True.intro)
        (fun k acc S' hk ⟨_, _, ts, e, l, _⟩ => by rw [e, List.length_map, l]; exact PL.sl0 (Nat.le_trans (Nat.le_of_lt hk) (by decide))) ?_ ?_⟩
      · rintro k x acc S4 hx ⟨g4, d4, ts, rfl, lt, ht⟩
        refine ⟨_, rfl, fun F hF => lcYes ?_⟩
        refine ⟨_, rfl, _, rfl, _, rfl, 0, 1, 3, rfl, d4, by decide, by decide, fun r5 S5 _ _ d5 sv5 => ⟨PL.sl1 (by show 1 ≤ 10000; decide), ?_⟩⟩
        have g5 := g4.trans sv5.gr
        have l5 := d5.lt
        refine ⟨0, 1, N0, S5.length, ns, rfl, by decide, d5.app _, get_app (g5.get gn nN), hne, hln, ⟨_, get_new⟩, b0, b1, ?_, by omega, by omega, fun t S6 dp inn d6 _ sv6 => hF _ _ ⟨Gr.new (g5.push _) sv6.gr fun k hk => ?_, d6, ts ++ [t], by rw [List.map_append]; rfl, by simp [lt], fun u hu => ?_⟩⟩
        · have := (List.getElem?_eq_some_iff.mp (g5.get gn nN)).1
          omega
        · simp only [List.mem_cons, List.not_mem_nil, or_false] at hk ⊢
          have := g5.len
          omega
        · rcases List.mem_append.mp hu with y | y
          · exact ht u y
          · rw [List.mem_singleton.mp y]; exact ⟨inn, dp⟩
      rintro acc S4 ⟨g4, d4, ts, rfl, lt, hts⟩
      have lt3 : ts.length = 3 := lt
      match ts, lt3, hts with
      | [t, u, v], _, hts =>
      have gt := hts t (by simp)
      have gu := hts u (by simp)
      have gv := hts v (by simp)
      have n4 := g4.get gn nN
      refine ⟨_, setRef get_new rfl, ?_⟩
      have d5 := d4.app [O.lst ([t, u, v].map encT)]
      have n5 := get_app (G := [O.lst ([t, u, v].map encT)]) n4
      revert d5 n5
      generalize S4 ++ [O.lst ([t, u, v].map encT)] = S5
      intro d5 n5
      -- around
      have l5 := d5.lt
      refine ⟨_, rfl, PL.sl1 (by show 6 ≤ 10000; decide), 0, 1, S5.length, _, rfl, d5.app _, get_new, by omega, by omega, by simp, by decide, fun x S6 hx d6 sv6 => ?_⟩
      obtain ⟨wd, hwd, rfl⟩ := six_mem hx
      have n6 := sv6.gr.get (get_app n5) nN
      -- worths
      refine ⟨3, rfl, by decide, by decide, lcW_by (fun k acc S' => Gr [0, 1] S6 S' ∧ DkW S' 0 1 ∧ ∃ ms : List Nat, acc = ms.map W.ref ∧ ms.length = k ∧ ∀ m ∈ ms, WorW S' ns m ∧ S6.length ≤ m) ⟨Gr.refl _ _, d6, [], rfl, rfl, fun _ z => nomatch z⟩ (fun _ _ _ _ _ => True.intro)
        (fun k acc S' hk ⟨_, _, ts, e, l, _⟩ => by rw [e, List.length_map, l]; exact PL.sl0 (Nat.le_trans (Nat.le_of_lt hk) (by decide))) ?_ ?_⟩
      · rintro k x acc S7 hx ⟨g7, d7, ms, rfl, lm, hm⟩
        refine ⟨_, rfl, fun F hF => lcYes ?_⟩
        refine ⟨_, rfl, _, rfl, 0, 1, N0, ns, rfl, d7, g7.get n6 nN, b0, b1, hln, fun m S8 g8 d8 lm8 wo => hF _ _ ⟨g7.trans g8, d8, ms ++ [m], by rw [List.map_append]; rfl, by simp [lm], fun z hz => ?_⟩⟩
        have l6 := d6.lt
        rcases List.mem_append.mp hz with y | y
        · obtain ⟨h1, h2⟩ := hm z y
          exact ⟨h1.gr g8 (nin2 (by omega)), h2⟩
        · rw [List.mem_singleton.mp y]; exact ⟨wo, Nat.le_trans g7.len lm8⟩
      rintro acc S7 ⟨g7, d7, ms, rfl, lm, hms⟩
      have lm3 : ms.length = 3 := lm
      have n7 := g7.get n6 nN
      have m8 : (S7 ++ [O.lst (ms.map W.ref)])[S7.length]? = some (.lst (ms.map W.ref)) := get_new
      have d8 := d7.app [O.lst (ms.map W.ref)]
      have n8 := get_app (G := [O.lst (ms.map W.ref)]) n7
      have w8 : ∀ m ∈ ms, WorW (S7 ++ [O.lst (ms.map W.ref)]) ns m := fun m hm => (hms m hm).1.gr (Gr.app [] _ _) (by simp)
      revert m8 d8 n8 w8
      generalize S7 ++ [O.lst (ms.map W.ref)] = S8
      generalize S7.length = M0
      intro m8 d8 n8 w8
      -- the pairs
      have gdt := SA.Trm.good hn gt.1
      have gdu := SA.Trm.good hn gu.1
      have gdv := SA.Trm.good hn gv.1
      have al := alw_in gt gu gv
      have mo := mor_in gt gu gv
      refine ⟨_, rfl, _, rfl, _, rfl, t, u, v, rfl, gdt, gdu, gdv, S8.length, SU.alwaysT t u v, rfl, get_new, by show 19 ≤ 200; decide, fun p hp => ⟨Nat.le_trans (al p hp).1.2 (by decide), Nat.le_trans (al p hp).2.2 (by decide)⟩, ?_⟩
      refine ⟨_, rfl, _, rfl, _, rfl, t, u, v, rfl, gdt, gdu, gdv, _, K15.moreT t u v, rfl, get_new, by show 13 ≤ 200; decide, fun p hp => ⟨Nat.le_trans (mo p hp).1.2 (by decide), Nat.le_trans (mo p hp).2.2 (by decide)⟩, ?_⟩
      have hLA : ∀ p ∈ (SU.alwaysT t u v).filter fitB, PGd ns 4 p ∧ SU.sumL p.1 = SU.sumL p.2 := fun p hp => ⟨al p ((List.mem_filter.mp hp).1), SU.always gdt gdu gdv p ((List.mem_filter.mp hp).1)⟩
      have hLM : ∀ p ∈ (K15.moreT t u v).filter fitB, PGd ns 4 p := fun p hp => mo p ((List.mem_filter.mp hp).1)
      have cLA : ((SU.alwaysT t u v).filter fitB).length ≤ 19 := List.length_filter_le _ _
      have cLM : ((K15.moreT t u v).filter fitB).length ≤ 13 := List.length_filter_le _ _
      generalize (SU.alwaysT t u v).filter fitB = LA at hLA cLA ⊢
      generalize (K15.moreT t u v).filter fitB = LM at hLM cLM ⊢
      generalize SU.alwaysT t u v = LA0
      generalize K15.moreT t u v = LM0
      have a9 : ((((S8 ++ [O.lst (LA0.map encP)]) ++ [O.lst (LA.map encP)]) ++ [O.lst (LM0.map encP)]) ++ [O.lst (LM.map encP)])[(S8 ++ [O.lst (LA0.map encP)]).length]? = some (.lst (LA.map encP)) := get_app (get_app get_new)
      have e9 : ((((S8 ++ [O.lst (LA0.map encP)]) ++ [O.lst (LA.map encP)]) ++ [O.lst (LM0.map encP)]) ++ [O.lst (LM.map encP)])[(((S8 ++ [O.lst (LA0.map encP)]) ++ [O.lst (LA.map encP)]) ++ [O.lst (LM0.map encP)]).length]? = some (.lst (LM.map encP)) := get_new
      have m9 := get_app (G := [O.lst (LM.map encP)]) (get_app (G := [O.lst (LM0.map encP)]) (get_app (G := [O.lst (LA.map encP)]) (get_app (G := [O.lst (LA0.map encP)]) m8)))
      have n9 := get_app (G := [O.lst (LM.map encP)]) (get_app (G := [O.lst (LM0.map encP)]) (get_app (G := [O.lst (LA.map encP)]) (get_app (G := [O.lst (LA0.map encP)]) n8)))
      have d9 := (((d8.app [O.lst (LA0.map encP)]).app [O.lst (LA.map encP)]).app [O.lst (LM0.map encP)]).app [O.lst (LM.map encP)]
      have w9 : ∀ m ∈ ms, WorW ((((S8 ++ [O.lst (LA0.map encP)]) ++ [O.lst (LA.map encP)]) ++ [O.lst (LM0.map encP)]) ++ [O.lst (LM.map encP)]) ns m := fun m hm => (w8 m hm).gr ((((Gr.app [] _ _).push _).push _).push _) (by simp)
      revert a9 e9 m9 n9 d9 w9
      generalize (((S8 ++ [O.lst (LA0.map encP)]) ++ [O.lst (LA.map encP)]) ++ [O.lst (LM0.map encP)]).length = B0
      generalize (S8 ++ [O.lst (LA0.map encP)]).length = A0
      generalize (((S8 ++ [O.lst (LA0.map encP)]) ++ [O.lst (LA.map encP)]) ++ [O.lst (LM0.map encP)]) ++ [O.lst (LM.map encP)] = S9
      intro a9 e9 m9 n9 d9 w9
      have hAM : ∀ p ∈ LA ++ LM, PGd ns 4 p := fun p hp => (List.mem_append.mp hp).elim (fun h => (hLA p h).1) (hLM p)
      -- all of those that always are so
      refine ⟨_, rfl, _, a9, lcW_by (fun k acc S' => S' = S9 ∧ acc = []) ⟨rfl, rfl⟩ (fun _ _ _ _ ⟨e, _⟩ => by rw [e]; exact a9) (fun _ _ _ _ ⟨_, e⟩ => by rw [e]; exact PL.sl0 (by decide)) ?_ ?_⟩
      · rintro k x acc S' hx ⟨rfl, rfl⟩
        rw [List.getElem?_map, Option.map_eq_some_iff] at hx
        obtain ⟨p, hp, rfl⟩ := hx
        obtain ⟨⟨g1, g2⟩, es⟩ := hLA p (List.mem_of_getElem? hp)
        refine ⟨_, rfl, fun F hF => ?_⟩
        refine ⟨_, rfl, 0, encT p.1, rfl, rfl, _, rfl, 1, encT p.2, rfl, rfl, p.1, p.2, rfl, Nat.le_trans g1.2 (by decide), Nat.le_trans g2.2 (by decide), SA.Trm.good hn g1.1, SA.Trm.good hn g2.1, ?_⟩
        rw [decide_eq_true es]
        exact ⟨false, rfl, (if_neg Bool.false_ne_true).mpr (hF _ _ ⟨rfl, rfl⟩)⟩
      rintro acc S' ⟨rfl, rfl⟩
      refine ⟨PL.sl1 (by decide), ?_⟩
      refine ⟨true, .inr ⟨.list [], .list [], .lst (get_app get_new) .nil, .lst get_new .nil, rfl, rfl, rfl⟩, true, rfl, false, rfl, (if_neg Bool.false_ne_true).mpr ?_⟩
      have a10 := get_app (G := [O.lst []]) (get_app (G := [O.lst []]) a9)
      have e10 := get_app (G := [O.lst []]) (get_app (G := [O.lst []]) e9)
      have n10 := get_app (G := [O.lst []]) (get_app (G := [O.lst []]) n9)
      have m10 := get_app (G := [O.lst []]) (get_app (G := [O.lst []]) m9)
      have d10 := (d9.app [O.lst []]).app [O.lst []]
      have w10 : ∀ m ∈ ms, WorW ((S' ++ [O.lst []]) ++ [O.lst []]) ns m := fun m hm => (w9 m hm).gr ((Gr.app [] _ _).push _) (by simp)
      revert a10 e10 m10 n10 d10 w10
      generalize (S' ++ [O.lst []]) ++ [O.lst []] = S10
      intro a10 e10 m10 n10 d10 w10
      -- wider
      have eAM : LA.map encP ++ LM.map encP = (LA ++ LM).map encP := by rw [List.map_append]
      refine ⟨_, rfl, _, rfl, _, _, a10, e10, PL.sl1 (by rw [List.length_map, List.length_map]; omega), ?_⟩
      rw [eAM]
      refine ⟨_, get_new, lcW_by (fun k acc S' => S' = S10 ++ [O.lst ((LA ++ LM).map encP)] ∧ acc = (((LA ++ LM).take k).map (widT wd t)).map encP) ⟨rfl, rfl⟩ (fun _ _ _ _ ⟨e, _⟩ => by rw [e]; exact get_new) (fun k acc _ hk ⟨_, e⟩ => ?_) ?_ ?_⟩
      · rw [e, List.length_map, List.length_map, List.length_take]
        rw [List.length_map, List.length_append] at hk
        exact PL.sl0 (by rw [List.length_append]; omega)
      · rintro k x acc S' hx ⟨rfl, rfl⟩
        rw [List.getElem?_map, Option.map_eq_some_iff] at hx
        obtain ⟨p, hp, rfl⟩ := hx
        refine ⟨_, rfl, fun F hF => lcYes ?_⟩
        refine ⟨_, rfl, _, rfl, _, rfl, PL.sl1 (by show 3 ≤ 10000; decide), _, rfl, _, rfl, _, rfl, PL.sl1 (by show 3 ≤ 10000; decide), PL.sl1 (by show 2 ≤ 10000; decide), hF _ _ ⟨rfl, ?_⟩⟩
        rw [List.take_add_one, hp, List.map_append, List.map_append]
        rfl
      rintro acc S' ⟨rfl, rfl⟩
      rw [List.length_map, List.take_length]
      have W0 : ((S10 ++ [O.lst ((LA ++ LM).map encP)]) ++ [O.lst (((LA ++ LM).map (widT wd t)).map encP)])[(S10 ++ [O.lst ((LA ++ LM).map encP)]).length]? = some (.lst (((LA ++ LM).map (widT wd t)).map encP)) := get_new
      have a11 := get_app (G := [O.lst (((LA ++ LM).map (widT wd t)).map encP)]) (get_app (G := [O.lst ((LA ++ LM).map encP)]) a10)
      have e11 := get_app (G := [O.lst (((LA ++ LM).map (widT wd t)).map encP)]) (get_app (G := [O.lst ((LA ++ LM).map encP)]) e10)
      have n11 := get_app (G := [O.lst (((LA ++ LM).map (widT wd t)).map encP)]) (get_app (G := [O.lst ((LA ++ LM).map encP)]) n10)
      have m11 := get_app (G := [O.lst (((LA ++ LM).map (widT wd t)).map encP)]) (get_app (G := [O.lst ((LA ++ LM).map encP)]) m10)
      have d11 := (d10.app [O.lst ((LA ++ LM).map encP)]).app [O.lst (((LA ++ LM).map (widT wd t)).map encP)]
      have w11 : ∀ m ∈ ms, WorW ((S10 ++ [O.lst ((LA ++ LM).map encP)]) ++ [O.lst (((LA ++ LM).map (widT wd t)).map encP)]) ns m := fun m hm => (w10 m hm).gr ((Gr.app [] _ _).push _) (by simp)
      revert W0 a11 e11 n11 m11 d11 w11
      generalize (S10 ++ [O.lst ((LA ++ LM).map encP)]).length = W1
      generalize (S10 ++ [O.lst ((LA ++ LM).map encP)]) ++ [O.lst (((LA ++ LM).map (widT wd t)).map encP)] = S11
      intro W0 a11 e11 n11 m11 d11 w11
      refine ⟨_, rfl, _, rfl, _, e11, lcW_by (fun k acc S' => S' = S11 ∧ acc = ((LM.take k).map (widV wd v)).map encP) ⟨rfl, rfl⟩ (fun _ _ _ _ ⟨e, _⟩ => by rw [e]; exact e11) (fun k acc _ hk ⟨_, e⟩ => ?_) ?_ ?_⟩
      · rw [e, List.length_map, List.length_map, List.length_take]
        rw [List.length_map] at hk
        exact PL.sl0 (by omega)
      · rintro k x acc S' hx ⟨rfl, rfl⟩
        rw [List.getElem?_map, Option.map_eq_some_iff] at hx
        obtain ⟨p, hp, rfl⟩ := hx
        refine ⟨_, rfl, fun F hF => lcYes ?_⟩
        refine ⟨_, rfl, _, rfl, _, rfl, PL.sl1 (by show 3 ≤ 10000; decide), _, rfl, _, rfl, _, rfl, PL.sl1 (by show 3 ≤ 10000; decide), PL.sl1 (by show 2 ≤ 10000; decide), hF _ _ ⟨rfl, ?_⟩⟩
        rw [List.take_add_one, hp, List.map_append, List.map_append]
        rfl
      rintro acc S' ⟨rfl, rfl⟩
      rw [List.length_map, List.take_length]
      refine ⟨_, _, get_app W0, get_new, PL.sl1 (by simp only [List.length_map, List.length_append]; omega), ?_⟩
      have eWD : ((LA ++ LM).map (widT wd t)).map encP ++ (LM.map (widV wd v)).map encP = ((LA ++ LM).map (widT wd t) ++ LM.map (widV wd v)).map encP := by rw [List.map_append (f := encP)]
      rw [eWD]
      have hWD : ∀ p ∈ (LA ++ LM).map (widT wd t) ++ LM.map (widV wd v), PGd ns 5 p := fun p hp => by
        rcases List.mem_append.mp hp with h | h
        · obtain ⟨p', h', rfl⟩ := List.mem_map.mp h
          exact ⟨tg_op hwd (hAM p' h').1 (gt.up (by decide)), tg_op hwd (hAM p' h').2 (gt.up (by decide))⟩
        · obtain ⟨p', h', rfl⟩ := List.mem_map.mp h
          exact ⟨tg_op hwd (gv.up (by decide)) (hLM p' h').1, tg_op hwd (gv.up (by decide)) (hLM p' h').2⟩
      have cWD : ((LA ++ LM).map (widT wd t) ++ LM.map (widV wd v)).length ≤ 45 := by simp only [List.length_map, List.length_append]; omega
      generalize (LA ++ LM).map (widT wd t) ++ LM.map (widV wd v) = WD at hWD cWD ⊢
      have V0 : ((S' ++ [O.lst ((LM.map (widV wd v)).map encP)]) ++ [O.lst (WD.map encP)])[(S' ++ [O.lst ((LM.map (widV wd v)).map encP)]).length]? = some (.lst (WD.map encP)) := get_new
      have a12 := get_app (G := [O.lst (WD.map encP)]) (get_app (G := [O.lst ((LM.map (widV wd v)).map encP)]) a11)
      have e12 := get_app (G := [O.lst (WD.map encP)]) (get_app (G := [O.lst ((LM.map (widV wd v)).map encP)]) e11)
      have n12 := get_app (G := [O.lst (WD.map encP)]) (get_app (G := [O.lst ((LM.map (widV wd v)).map encP)]) n11)
      have m12 := get_app (G := [O.lst (WD.map encP)]) (get_app (G := [O.lst ((LM.map (widV wd v)).map encP)]) m11)
      have d12 := (d11.app [O.lst ((LM.map (widV wd v)).map encP)]).app [O.lst (WD.map encP)]
      have w12 : ∀ m ∈ ms, WorW ((S' ++ [O.lst ((LM.map (widV wd v)).map encP)]) ++ [O.lst (WD.map encP)]) ns m := fun m hm => (w11 m hm).gr ((Gr.app [] _ _).push _) (by simp)
      revert V0 a12 e12 n12 m12 d12 w12
      generalize (S' ++ [O.lst ((LM.map (widV wd v)).map encP)]).length = V1
      generalize (S' ++ [O.lst ((LM.map (widV wd v)).map encP)]) ++ [O.lst (WD.map encP)] = S12
      intro V0 a12 e12 n12 m12 d12 w12
      -- each pair
      refine ⟨_, rfl, _, rfl, _, _, a12, e12, PL.sl1 (by rw [List.length_map, List.length_map]; omega), ?_⟩
      rw [eAM]
      refine ⟨_, rfl, V1, WD, rfl, get_app V0, by omega, fun p hp => ⟨Nat.le_trans (hWD p hp).1.2 (by decide), Nat.le_trans (hWD p hp).2.2 (by decide)⟩, ?_⟩
      have cF : (WD.filter fitB).length ≤ 45 := Nat.le_trans (List.length_filter_le _ _) cWD
      have hF6 : ∀ p ∈ (LA ++ LM) ++ WD.filter fitB, PGd ns 6 p := fun p hp => (List.mem_append.mp hp).elim (fun h => (hAM p h).up (by decide)) (fun h => (hWD p (List.mem_filter.mp h).1).up (by decide))
      generalize WD.filter fitB = WF at cF hF6 ⊢
      refine ⟨_, _, get_app get_new, get_new, PL.sl1 (by rw [List.length_map, List.length_map, List.length_append]; omega), ?_⟩
      rw [← List.map_append]
      generalize (LA ++ LM) ++ WF = LL at hF6 ⊢
      generalize ((LA ++ LM).map encP) = q1
      generalize (WF.map encP) = q2
      have n13 := get_app (G := [O.lst (LL.map encP)]) (get_app (G := [O.lst q2]) (get_app (G := [O.lst q1]) n12))
      have m13 := get_app (G := [O.lst (LL.map encP)]) (get_app (G := [O.lst q2]) (get_app (G := [O.lst q1]) m12))
      have d13 := ((d12.app [O.lst q1]).app [O.lst q2]).app [O.lst (LL.map encP)]
      have w13 : ∀ m ∈ ms, WorW (((S12 ++ [O.lst q1]) ++ [O.lst q2]) ++ [O.lst (LL.map encP)]) ns m := fun m hm => (w12 m hm).gr (((Gr.app [] _ _).push _).push _) (by simp)
      refine ⟨_, get_new, ?_⟩
      have ll13 : (((S12 ++ [O.lst q1]) ++ [O.lst q2]) ++ [O.lst (LL.map encP)])[((S12 ++ [O.lst q1]) ++ [O.lst q2]).length]? = some (.lst (LL.map encP)) := get_new
      revert ll13 n13 m13 d13 w13
      generalize ((S12 ++ [O.lst q1]) ++ [O.lst q2]).length = L1
      generalize ((S12 ++ [O.lst q1]) ++ [O.lst q2]) ++ [O.lst (LL.map encP)] = S13
      intro m13 n13 d13 w13 ll13
      refine forW_by (fun k τ S' => S' = S13 ∧ ∃ y12 y13, τ = [none, some (.ref 0), _, some (.ref N0), some (encT t), some (encT u), some (encT v), some (.str wd), some (.ref M0), some (.ref A0), some (.ref B0), some (.ref V1), y12, y13, x14, x15]) ⟨rfl, _, _, rfl⟩ (fun _ _ _ _ ⟨e, _⟩ => by rw [e]; exact ll13) ?_ ?_
      · rintro k x τ S' hx ⟨rfl, y12, y13, rfl⟩
        rw [List.getElem?_map, Option.map_eq_some_iff] at hx
        obtain ⟨p, hp, rfl⟩ := hx
        obtain ⟨g1, g2⟩ := hF6 p (List.mem_of_getElem? hp)
        refine ⟨_, rfl, fun F hF => ?_⟩
        exact ⟨_, rfl, _, rfl, _, rfl, _, rfl, N0, M0, ns, p.1, p.2, ms, rfl, n13, hln, hn, g1.1, g2.1, g1.2, g2.2, m13, by omega, w13, true, rfl, (if_neg Bool.false_ne_true).mpr (hF _ _ ⟨rfl, _, _, rfl⟩)⟩
      rintro τ S' ⟨rfl, y12, y13, rfl⟩
      -- never
      refine ⟨_, rfl, ?_⟩
      dsimp only [mNil]
      refine lenL n13 ⟨_, rfl, ifB (fun c => ?_) (fun _ => hF _ _ ⟨d13, _, _, _, _, _, _, _, _, _, _, _, _, _, _, rfl⟩)⟩
      have c2 : 1 < ns.length := by
        have := of_decide_eq_true c
        rw [List.length_map] at this
        omega
      match ns, c2, n13, hn, hnd with
      | a :: b :: rs, _, n13, hn, hnd =>
      have hab : a ≠ b := fun e => by
        subst e
        exact (List.nodup_cons.mp hnd).1 (List.mem_cons_self ..)
      refine ⟨_, rfl, ?_⟩
      dsimp only [mC]
      refine ixL n13 (atI_nat (j := 0) rfl) ?_
      refine ⟨PL.sl1 (by show 2 ≤ 10000; decide), _, rfl, ?_⟩
      dsimp only [mC]
      refine ixL n13 (atI_nat (j := 1) rfl) ?_
      refine ⟨PL.sl1 (by show 2 ≤ 10000; decide), .nam a, .nam b, rfl, True.intro, True.intro, _, get_new, ?_⟩
      have nv := SU.never (hn a (by simp)).1 (hn b (by simp)).1 hab
      have nin := nev_in (ns := a :: b :: rs) (x := a) (y := b) (by simp) (by simp)
      have d14 := d13.app [O.lst ((SU.neverT (.nam a) (.nam b)).map encP)]
      have l14 : (S' ++ [O.lst ((SU.neverT (.nam a) (.nam b)).map encP)])[S'.length]? = some (.lst ((SU.neverT (.nam a) (.nam b)).map encP)) := get_new
      revert nv nin d14 l14
      generalize SU.neverT (.nam a) (.nam b) = LN
      generalize S' ++ [O.lst (LN.map encP)] = S14
      intro nv nin d14 l14
      refine forW_by (fun k τ S' => S' = S14 ∧ ∃ y12 y13, τ = [none, some (.ref 0), _, some (.ref N0), some (encT t), some (encT u), some (encT v), some (.str wd), some (.ref M0), some (.ref A0), some (.ref B0), some (.ref V1), y12, y13, x14, x15]) ⟨rfl, _, _, rfl⟩ (fun _ _ _ _ ⟨e, _⟩ => by rw [e]; exact l14) ?_ ?_
      · rintro k x τ S2 hx ⟨rfl, y12, y13, rfl⟩
        rw [List.getElem?_map, Option.map_eq_some_iff] at hx
        obtain ⟨p, hp, rfl⟩ := hx
        have pm := List.mem_of_getElem? hp
        obtain ⟨g1, g2⟩ := nin p pm
        refine ⟨_, rfl, fun F hF => ?_⟩
        refine ⟨_, rfl, _, rfl, p.1, p.2, rfl, Nat.le_trans g1.2 (by decide), Nat.le_trans g2.2 (by decide), SA.Trm.good hn g1.1, SA.Trm.good hn g2.1, ?_⟩
        rw [decide_eq_false (nv p pm)]
        exact ⟨false, rfl, (if_neg Bool.false_ne_true).mpr (hF _ _ ⟨rfl, _, _, rfl⟩)⟩
      · rintro τ S2 ⟨rfl, y12, y13, rfl⟩
        exact hF _ _ ⟨d14, _, _, _, _, _, _, _, _, _, _, _, _, _, _, rfl⟩
    obtain ⟨m, hm, hq⟩ := rest
    refine ⟨_, pss_cons (ps_set (i := 1) scLaw.nd rfl (.inr rfl) (pe_call G1 r1 (by rfl) D1.at_ D1.fn.kp D1.b .nil pass0 (pa_cons (pv 0) pa_nil))) hm, ?_⟩
    refine ⟨_, rfl, b, ns, rfl, hb, hl, fun a c H1 s1 na nc dk1 => ?_⟩
    obtain ⟨S, rp, dw⟩ := deck_w (K := K) dk1 (tb.ext s1)
    refine ⟨[a, c], [none, some (.ref 0), none, none, none, none, none, none, none, none, none, none, none, none, none, none], S, ⟨fun _ _ => False, fun w _ => w = .bl true, noBr, noBr⟩, rp, ⟨rfl, fun i x e => ?_⟩, hq S _ dw (fun _ => rfl), ⟨fun _ _ _ _ _ z => z.elim, fun x S' v ρ' H' e st r' hw => ?_, fun _ _ _ _ _ z => z.elim, fun _ _ _ _ _ z => z.elim⟩⟩
    · match i, e with
      | 0, e => cases e
      | 1, e => cases e; exact ⟨_, rfl, .ref rfl⟩
      | i + 2, e =>
        have e2 : (List.replicate 14 (none : Option W))[i]? = some (some x) := e
        rw [List.getElem?_replicate] at e2
        split at e2 <;> cases e2
    · subst e
      cases hw
      exact q H'
end
end Q16
set_option Elab.async false
set_option linter.all false
set_option maxRecDepth 100000
set_option maxHeartbeats 4000000
/-! ## the law's end: one table of code objects, no repr under way -/
namespace KG
open PySem PySem.Spec PyProof.Rows L2 LamX
/-- the heap that is told of at the entry: the table, the script perhaps -/
def entryH (PT a : Addr) (u : Option HO) : Hp := fun b => if b = PT then some (.tbl #[]) else if b = a then u else none
abbrev tab0 : Obj := { cls := .none, data := .fields #[] }
theorem end_core {P : Program} {w : World} {K : PySem.W.Frag} {mg mb : Str → Option Value} {k : Nat} {fa a c PT : Addr} {fd : FuncData} {x : Str} {sp : Sp} {s : Shared} {vs : List Value} {u : Option HO}
    (inK : K.In s.heap) (gl : s.heap.Ns mainGlobals mg) (bl : s.heap.Ns builtinsNs mb) (bb : ∀ x : Str, x ≠ "__name__" → mb x = bootBuiltins x) (nl : s.heap.NoLimit) (ng : s.gens = #[])
    (tab : s.heap.get? PT = some tab0) (noK : K.lookup PT = none) (cd : PySem.W.CodeHd s.heap c PT)
    (bm : ∃ (bm : Addr) (ob : Obj), mg "__builtins__" = some (.ref bm) ∧ bm ≠ builtinsNs ∧ s.heap.get? bm = some ob ∧ ob.cls = .type "module" ∧ ob.dict = some builtinsNs ∧ ob.data = .plain)
    (scr : s.heap.get? a = some { cls := .type "list", data := .seq vs.toArray }) (room : Room k callerA)
    (F : ∀ base : Heap, K.In base → base.Ns mainGlobals mg → TabB base mg c PT → FnG P w K mg base k fa fd [x] sp) (bnd : ∀ (s : Shared) (u : Value), BindsTo s fd ⟨[u], []⟩ [(x, u)])
    (hsp : sp [.ref a] (entryH PT a u) (fun v _ => v = .bl true) E0) (hok : HOk P w (entryH PT a u) s.heap) (hu : u = none ∨ (K.lookup a = none ∧ ∃ o xs, u = some (.frz o (.lst xs)))) :
    codeAny (model P w) callerA (.call (.ref fa) ⟨[.ref a], []⟩) (fun r s' => r = .ok (.ret (.bool true)) ∧ OldK s.heap s'.heap ∧ s'.os = s.os ∧ AllBare s'.gens) s := by
  have aP : a ≠ PT := fun z => by
    rw [z, tab] at scr
    cases scr
  -- what is neither a list nor the table is not told of
  have free : ∀ {b : Addr} {o : Obj}, s.heap.get? b = some o → (∀ xs n, o.data ≠ .seq xs n) → o.data ≠ .fields #[] → entryH PT a u b = none := by
    intro b o e h1 h2
    unfold entryH
    by_cases e1 : b = PT
    · rw [e1, tab] at e
      cases e
      exact absurd rfl h2
    · rw [if_neg e1]
      by_cases e2 : b = a
      · rw [e2, scr] at e
        cases e
        exact absurd rfl (h1 _ _)
      · rw [if_neg e2]
  have there : ∀ {b : Addr} {o : Obj}, s.heap.get? b = some o → entryH PT a u b = none → (hidT s.heap (entryH PT a u)).get? b = some o := fun e n => hidT_get e n
  have names : ∀ {b : Addr} {m : Str → Option Value}, s.heap.Ns b m → (hidT s.heap (entryH PT a u)).Ns b m := by
    rintro b m ⟨o, es, ep, e, d, r⟩
    exact ⟨o, es, ep, there e (free e (fun _ _ z => by rw [d] at z; cases z) (fun z => by rw [d] at z; cases z)), d, r⟩
  have baseK : K.In (hidT s.heap (entryH PT a u)) := by
    intro b o e
    refine there (inK b o e) ?_
    unfold entryH
    by_cases e1 : b = PT
    · rw [e1, noK] at e
      cases e
    · rw [if_neg e1]
      by_cases e2 : b = a
      · rw [if_pos e2]
        rcases hu with hu | ⟨hu, _⟩
        · exact hu
        · rw [e2, hu] at e
          cases e
      · rw [if_neg e2]
  have limit : (hidT s.heap (entryH PT a u)).NoLimit := by
    obtain ⟨mc, h1, h2⟩ := nl
    exact ⟨mc, names h1, h2⟩
  have gP : mainGlobals ≠ PT := fun z => by
    obtain ⟨o, es, ep, e, hd, _⟩ := gl
    rw [z, tab] at e
    cases e
    cases hd
  have TB : TabB (hidT s.heap (entryH PT a u)) mg c PT := by
    refine ⟨?_, ?_, gP⟩
    · obtain ⟨o, us, file, tf, flags, tg, inF, text, tt, e1, q1, q2, q3, q4, q5, q6, q7, q8, hne⟩ := cd
      refine ⟨o, us, file, tf, flags, tg, inF, text, tt, there e1 (free e1 (fun _ _ z => by rw [q2] at z; cases z) (fun z => ?_)), q1, q2, q3, q4, q5, q6, q7, q8, hne⟩
      rw [q2] at z
      cases z
      simp at q3
    · obtain ⟨m0, ob, b1, b2, b3, b4, b5, b6⟩ := bm
      refine ⟨m0, ob, b1, b2, fun z => ?_, fun z => ?_, there b3 (free b3 (fun _ _ z => by rw [b6] at z; cases z) (fun z => by rw [b6] at z; cases z)), b4, b5, b6⟩
      · obtain ⟨o, es, ep, e, hd, _⟩ := gl
        rw [z, e] at b3
        cases b3
        rw [hd] at b6
        cases b6
      · rw [z, tab] at b3
        cases b3
        cases b6
  have e0 : Env0 P w K mg (hidT s.heap (entryH PT a u)) callerA [] s (entryH PT a u) := by
    refine ⟨rfl, ⟨baseK, names gl, ⟨mb, names bl, bb⟩, limit⟩, fun b o e => of_hidT e, Nat.le_of_eq (hidT_size _ _), trivial, ?_, hok, .of_eq ng⟩
    intro b z
    cases z
  refine codeAny_mono ((F _ baseK (names gl) TB).go callerA [] s _ ⟨[.ref a], []⟩ [.ref a] [.ref a] _ rfl room e0 (bnd s (.ref a)) (.cons rfl .nil) hsp) ?_
  intro r s' h
  match r, h with
  | .ok (.ret _), ⟨v, H', os, bare, un, hok', rv, q⟩ =>
    have q' : v = .bl true := q
    subst q'
    cases rv
    have kept : ∀ b o, b ≠ PT → s.heap.get? b = some o → s'.heap.get? b = some o := by
      intro b o nb e
      by_cases e2 : b = a
      · rcases hu with hu | ⟨_, o0, xs, hu⟩
        · refine un.keep b o e ?_ (fun z => nomatch z) (fun z => nomatch z)
          unfold entryH
          rw [if_neg nb, if_pos e2, hu]
        · have z : entryH PT a u b = some (.frz o0 (.lst xs)) := by
            unfold entryH
            rw [if_neg nb, if_pos e2, hu]
          have z2 := un.frzs b o0 _ z
          obtain ⟨g1, _⟩ := hok b _ z
          obtain ⟨g2, _⟩ := hok' b _ z2
          rw [e] at g1
          cases g1
          exact g2
      · refine un.keep b o e ?_ (fun z => nomatch z) (fun z => nomatch z)
        unfold entryH
        rw [if_neg nb, if_neg e2]
    obtain ⟨more, zt⟩ := un.tbls PT #[] (by unfold entryH; rw [if_pos rfl])
    have grown : s'.heap.get? PT = some { cls := .none, data := .fields (#[] ++ more) } := hok' PT _ zt
    refine ⟨rfl, ⟨fun b o e => ?_, fun b o e => ?_⟩, os, bare⟩
    · by_cases hb : b = PT
      · rw [hb] at e ⊢
        rw [tab] at e
        cases e
        exact .inr (.inl ⟨(cd.tab tab).isCodeTable, rfl, #[], more, rfl, grown⟩)
      · exact .inl (kept b o hb e)
    · by_cases hb : b = PT
      · rw [hb]
        exact ⟨_, grown⟩
      · exact ⟨o, kept b o hb e⟩
  | .error _, h => exact h.elim
theorem end_one {P : Program} {w : World} {K : PySem.W.Frag} {mg mb : Str → Option Value} {k : Nat} {fa a c PT : Addr} {fd : FuncData} {x : Str} {sp : Sp} {s : Shared} {vs : List Value} {ns : List Int}
    (inK : K.In s.heap) (gl : s.heap.Ns mainGlobals mg) (bl : s.heap.Ns builtinsNs mb) (bb : ∀ x : Str, x ≠ "__name__" → mb x = bootBuiltins x) (nl : s.heap.NoLimit) (ng : s.gens = #[])
    (tab : s.heap.get? PT = some tab0) (noK : K.lookup PT = none) (cd : PySem.W.CodeHd s.heap c PT)
    (bm : ∃ (bm : Addr) (ob : Obj), mg "__builtins__" = some (.ref bm) ∧ bm ≠ builtinsNs ∧ s.heap.get? bm = some ob ∧ ob.cls = .type "module" ∧ ob.dict = some builtinsNs ∧ ob.data = .plain)
    (scr : s.heap.get? a = some { cls := .type "list", data := .seq vs.toArray }) (hi : IntsAre vs ns) (hl : ns.length ≤ sizeLine) (room : Room k callerA)
    (F : ∀ base : Heap, K.In base → base.Ns mainGlobals mg → TabB base mg c PT → FnG P w K mg base k fa fd [x] sp) (bnd : ∀ (s : Shared) (u : Value), BindsTo s fd ⟨[u], []⟩ [(x, u)])
    (hsp : ∀ H : Hp, H PT = some (.tbl #[]) → SqL K H a (ns.map V.int) → sp [.ref a] H (fun v _ => v = .bl true) E0) :
    codeAny (model P w) callerA (.call (.ref fa) ⟨[.ref a], []⟩) (fun r s' => r = .ok (.ret (.bool true)) ∧ OldK s.heap s'.heap ∧ s'.os = s.os ∧ AllBare s'.gens) s := by
  have rv := vals_ints hi
  have ln := hi.length
  have tP : ∀ u : Option HO, entryH PT a u PT = some (.tbl #[]) := fun u => by
    unfold entryH
    rw [if_pos rfl]
  have aP : a ≠ PT := fun z => by
    rw [z, tab] at scr
    cases scr
  have aH : ∀ u : Option HO, entryH PT a u a = u := fun u => by
    unfold entryH
    rw [if_neg aP, if_pos rfl]
  have others : ∀ (u : Option HO) (b : Addr) (o : HO), entryH PT a u b = some o → b = PT ∧ o = .tbl #[] ∨ b = a ∧ u = some o := by
    intro u b o z
    unfold entryH at z
    by_cases e1 : b = PT
    · rw [if_pos e1] at z
      exact .inl ⟨e1, (Option.some.inj z).symm⟩
    · rw [if_neg e1] at z
      by_cases e2 : b = a
      · rw [if_pos e2] at z
        exact .inr ⟨e2, z⟩
      · rw [if_neg e2] at z
        cases z
  cases hk : K.lookup a with
  | some o =>
    have e := inK a o hk
    rw [scr] at e
    cases e
    refine end_core (u := none) inK gl bl bb nl ng tab noK cd bm scr room F bnd (hsp _ (tP _) (.inr ⟨_, vs.toArray, _, hk, rfl, rfl, rfl, by rw [List.size_toArray, ln]; exact hl, by simpa using rv⟩)) ?_ (.inl rfl)
    intro b o z
    rcases others _ b o z with ⟨rfl, rfl⟩ | ⟨_, z⟩
    · exact tab
    · cases z
  | none =>
    refine end_core (u := some (.frz { cls := .type "list", data := .seq vs.toArray } (.lst (ns.map V.int)))) inK gl bl bb nl ng tab noK cd bm scr room F bnd (hsp _ (tP _) (.inl (.inr ⟨_, aH _⟩))) ?_ (.inr ⟨hk, _, _, rfl⟩)
    intro b o z
    rcases others _ b o z with ⟨rfl, rfl⟩ | ⟨eb, z3⟩
    · exact tab
    · cases z3
      rw [eb]
      exact ⟨scr, by rw [List.length_map]; exact hl, vs, _, rv, scr⟩
/-- what is known of the law at the head's heap -/
def LawG (l : PySem.W.OpenLaw) (w : World) (K : PySem.W.Frag) (k n : Nat) (x : Str) (mg : Str → Option Value) (fa : Addr) (h : Heap) : Prop :=
  ∃ (fd : FuncData) (c PT : Addr) (sp : Sp), h.get? PT = some tab0 ∧ K.lookup PT = none ∧ PySem.W.CodeHd h c PT ∧ (∀ (s : Shared) (u : Value), BindsTo s fd ⟨[u], []⟩ [(x, u)]) ∧
    (∀ (H : Hp) (a : Addr) (ns : List Int), ns.length ≤ n → H PT = some (.tbl #[]) → SqL K H a (ns.map V.int) → sp [.ref a] H (fun v _ => v = .bl true) E0) ∧
    ∀ base : Heap, K.In base → base.Ns mainGlobals mg → TabB base mg c PT → FnG l.prog w K mg base k fa fd [x] sp
theorem walkG {l : PySem.W.OpenLaw} {n k : Nat} {q : Program} {loose : List Str} {XP : (Str → Option Value) → Heap → Prop} {YP : World → Heap → Prop} {d : DefRec} {K : Params → PySem.W.Frag} {x : Str}
    (hn : l.most = some n) (hn2 : n ≤ sizeLine) (hdf : d.params.defaults = []) (room : Room k callerA) (hY : ∀ (w : World) (h : Heap), YP w h → (K w.params).In h)
    (F : ∀ (w : World) (s₀ : Shared) (mg mb : Str → Option Value) (fa : Addr) (h : Heap), PySem.W.Ground q loose [] XP w s₀ mg mb h → (K w.params).In h → mg d.name = some (.ref fa) → LawG l w (K w.params) k n x mg fa h) :
    PySem.W.WalkO q loose XP YP l.row.toRowW d [] (fun f vs => PySem.call f vs) := by
  refine Att.attach_call hn hdf ?_
  intro w s₀ s₁ mg mb fa o pm cd doc a vs ns G Y ho hd hcd hmg hobj hints hlen hg
  have inK := hY w _ Y
  obtain ⟨fd, c, PT, sp, tab, noK, code, bnd, hsp, hF⟩ := F w s₀ mg mb fa _ G inK hmg
  exact end_one inK G.T.g G.T.b G.T.builtins G.T.nolimit hg tab noK code G.T.bmain hobj hints (Nat.le_trans hlen hn2) room hF bnd (fun H => hsp H a ns hlen)
end KG
set_option Elab.async false
set_option linter.all false
set_option maxRecDepth 100000
set_option maxHeartbeats 4000000
namespace K15
open PySem PySem.Spec PyProof.Rows L2 KG KL LamX NdefX NR SU SA RI Q16
structure DefIn (K : PySem.W.Frag) (x : Str) (st : Stmt) : Prop where
  ex : ∃ (f : Addr) (oc : Value) (od : Option Addr) (kV dc pm : Value) (an : Option Addr) (cd ct : Value) (sl : Array (Option Value)), PySem.W.nsIn K mainGlobals x = some (some (.ref f)) ∧
    K.lookup f = some ⟨oc, od, .func (PySem.W.fnOf x x (defArgs st) (defBody st) (defScope st) .none kV dc pm an cd ct), sl⟩ ∧ PySem.W.codeIn K cd x = true ∧ PySem.W.keepIn K (.ref f) = true
structure DefInC (K : PySem.W.Frag) (x : Str) (st : Stmt) (c : Addr) : Prop where
  ex : ∃ (f : Addr) (oc : Value) (od : Option Addr) (kV dc pm : Value) (an : Option Addr) (ct : Value) (sl : Array (Option Value)), PySem.W.nsIn K mainGlobals x = some (some (.ref f)) ∧
    K.lookup f = some ⟨oc, od, .func (PySem.W.fnOf x x (defArgs st) (defBody st) (defScope st) .none kV dc pm an (.ref c) ct), sl⟩ ∧ PySem.W.codeIn K (.ref c) x = true ∧ PySem.W.keepIn K (.ref f) = true
structure MthIn (K : PySem.W.Frag) (C : Addr) (x q : Str) (st : Stmt) : Prop where
  ex : ∃ (f : Addr) (oc : Value) (od : Option Addr) (kV dc pm : Value) (an : Option Addr) (cd ct : Value) (sl : Array (Option Value)), PySem.W.findIn K (.ref C) x = some (some (.ref f)) ∧ PySem.W.isFn K (.ref f) = true ∧
    K.lookup f = some ⟨oc, od, .func (PySem.W.fnOf x q (defArgs st) (defBody st) (defScope st) .none kV dc pm an cd ct), sl⟩ ∧ PySem.W.codeIn K cd q = true ∧ PySem.W.keepIn K (.ref f) = true
theorem DefIn.of {K : PySem.W.Frag} {x : Str} {st : Stmt} {f : Addr} {oc : Value} {od : Option Addr} {kV dc pm : Value} {an : Option Addr} {cd ct : Value} {sl : Array (Option Value)} (h1 : PySem.W.nsIn K mainGlobals x = some (some (.ref f)))
    (h2 : K.lookup f = some ⟨oc, od, .func (PySem.W.fnOf x x (defArgs st) (defBody st) (defScope st) .none kV dc pm an cd ct), sl⟩) (h3 : PySem.W.codeIn K cd x = true) (h4 : PySem.W.keepIn K (.ref f) = true) : DefIn K x st :=
  ⟨⟨f, oc, od, kV, dc, pm, an, cd, ct, sl, h1, h2, h3, h4⟩⟩
theorem DefInC.of {K : PySem.W.Frag} {x : Str} {st : Stmt} {c f : Addr} {oc : Value} {od : Option Addr} {kV dc pm : Value} {an : Option Addr} {ct : Value} {sl : Array (Option Value)} (h1 : PySem.W.nsIn K mainGlobals x = some (some (.ref f)))
    (h2 : K.lookup f = some ⟨oc, od, .func (PySem.W.fnOf x x (defArgs st) (defBody st) (defScope st) .none kV dc pm an (.ref c) ct), sl⟩) (h3 : PySem.W.codeIn K (.ref c) x = true) (h4 : PySem.W.keepIn K (.ref f) = true) : DefInC K x st c :=
  ⟨⟨f, oc, od, kV, dc, pm, an, ct, sl, h1, h2, h3, h4⟩⟩
theorem MthIn.of {K : PySem.W.Frag} {C : Addr} {x q : Str} {st : Stmt} {f : Addr} {oc : Value} {od : Option Addr} {kV dc pm : Value} {an : Option Addr} {cd ct : Value} {sl : Array (Option Value)} (h1 : PySem.W.findIn K (.ref C) x = some (some (.ref f))) (h5 : PySem.W.isFn K (.ref f) = true)
    (h2 : K.lookup f = some ⟨oc, od, .func (PySem.W.fnOf x q (defArgs st) (defBody st) (defScope st) .none kV dc pm an cd ct), sl⟩) (h3 : PySem.W.codeIn K cd q = true) (h4 : PySem.W.keepIn K (.ref f) = true) : MthIn K C x q st :=
  ⟨⟨f, oc, od, kV, dc, pm, an, cd, ct, sl, h1, h5, h2, h3, h4⟩⟩
def BindsAll (x q : Str) (st : Stmt) (ps : List Str) : Prop := ∀ (kV doc pm : Value) (an : Option Addr) (cdv ct : Value) (us : List Value), us.length = ps.length →
  bindArgs (PySem.W.fnOf x q (defArgs st) (defBody st) (defScope st) .none kV doc pm an cdv ct) ⟨us, []⟩ = pure (ps.zip us)
theorem DefIn.def_ {K : PySem.W.Frag} {h : Heap} {mg : Str → Option Value} {x : Str} {st : Stmt} {ps : List Str} (X : K.In h) (G : h.Ns mainGlobals mg) (hb : BindsAll x x st ps) (d : DefIn K x st) : ∃ f fd, Def K mg x st ps f fd := by
  obtain ⟨f, oc, od, kV, dc, pm, an, cd, ct, sl, h1, h2, h3, h4⟩ := d.ex
  have F := fun_mk (st := st) h2 h3 h4
  exact ⟨f, _, F, PySem.W.mg_of X G h1, F.binds hb⟩
theorem MthIn.mdef {K : PySem.W.Frag} {C : Addr} {x q : Str} {st : Stmt} {ps : List Str} (hb : BindsAll x q st ps) (d : MthIn K C x q st) : ∃ f fd, MDef K C x q st ps f fd := by
  obtain ⟨f, oc, od, kV, dc, pm, an, cd, ct, sl, h1, h5, h2, h3, h4⟩ := d.ex
  have F := fun_mk (st := st) h2 h3 h4
  exact ⟨f, _, F, ⟨h1, h5, h4⟩, F.binds hb⟩
theorem defc {K : PySem.W.Frag} {h : Heap} {mg : Str → Option Value} {x y z : Str} {st : Stmt} {c : Addr} (X : K.In h) (G : h.Ns mainGlobals mg) (hb : BindsAll x x st [y, z])
    (hk : ∀ (kV doc pm : Value) (an : Option Addr) (cdv ct : Value) (u v : Value), bindArgs (PySem.W.fnOf x x (defArgs st) (defBody st) (defScope st) .none kV doc pm an cdv ct) ⟨[], [(z, u), (y, v)]⟩ = pure [(y, v), (z, u)]) (d : DefInC K x st c) :
    ∃ f fd, DefC K mg x st [y, z] f c fd ∧ KwOnly K fd [y, z] [z, y] (fun {_} l => l.reverse) := by
  obtain ⟨f, oc, od, kV, dc, pm, an, ct, sl, h1, h2, h3, h4⟩ := d.ex
  have F := fun_mk (st := st) h2 h3 h4
  refine ⟨f, _, ⟨⟨oc, od, kV, dc, pm, an, ct, sl, rfl, h2, h3⟩, h4, PySem.W.mg_of X G h1, F.binds hb⟩, ⟨fun s ws _ hl => ?_, fun r hl => ?_⟩⟩
  · match ws, hl with
    | [u, v], _ => exact .of_eq (hk _ _ _ _ _ _ u v)
  · rename_i zs ws
    match zs, ws, r with
    | [_, _], _, .cons r1 (.cons r2 .nil) => exact .cons r2 (.cons r1 .nil)
    | [], _, _ => exact absurd hl (fun z => by simp at z)
    | [_], _, _ => exact absurd hl (fun z => by simp at z)
    | _ :: _ :: _ :: _, _, _ => exact absurd hl (fun z => by simp at z)
theorem bi_sJoined : BindsAll "joined" "joined" sJoined ["rows"] := fun _ _ _ _ _ _ us hl => match us, hl with | [_], _ => rfl
theorem bi_sIsCell : BindsAll "is_cell" "is_cell" sIsCell ["worth"] := fun _ _ _ _ _ _ us hl => match us, hl with | [_], _ => rfl
theorem bi_sScaled : BindsAll "scaled" "scaled" sScaled ["one", "many"] := fun _ _ _ _ _ _ us hl => match us, hl with | [_, _], _ => rfl
theorem bi_sAdded : BindsAll "added" "added" sAdded ["one", "other"] := fun _ _ _ _ _ _ us hl => match us, hl with | [_, _], _ => rfl
theorem bi_sSumOf : BindsAll "sum_of" "sum_of" sSumOf ["sums", "term", "told"] := fun _ _ _ _ _ _ us hl => match us, hl with | [_, _, _], _ => rfl
theorem bi_sAreSame : BindsAll "are_same" "are_same" sAreSame ["one", "other"] := fun _ _ _ _ _ _ us hl => match us, hl with | [_, _], _ => rfl
theorem bi_sDeck : BindsAll "_law_deck" "_law_deck" sDeck ["_law_script"] := fun _ _ _ _ _ _ us hl => match us, hl with | [_], _ => rfl
theorem bi_sDraw : BindsAll "_law_draw" "_law_draw" sDraw ["_law_deck_here", "_law_many"] := fun _ _ _ _ _ _ us hl => match us, hl with | [_, _], _ => rfl
theorem bi_sPick : BindsAll "_law_pick" "_law_pick" sPick ["_law_deck_here", "_law_some"] := fun _ _ _ _ _ _ us hl => match us, hl with | [_, _], _ => rfl
theorem bi_sNames : BindsAll "_law_names" "_law_names" sNames ["_law_deck_here", "_law_many"] := fun _ _ _ _ _ _ us hl => match us, hl with | [_, _], _ => rfl
theorem bi_sLAdd : BindsAll "_law_added" "_law_added" sLAdd ["_law_here", "_law_there", "_law_by"] := fun _ _ _ _ _ _ us hl => match us, hl with | [_, _, _], _ => rfl
theorem bi_sLTwo : BindsAll "_law_of_two" "_law_of_two" sLTwo ["_law_word", "_law_here", "_law_there"] := fun _ _ _ _ _ _ us hl => match us, hl with | [_, _, _], _ => rfl
theorem bi_sLTimes : BindsAll "_law_times" "_law_times" sLTimes ["_law_here", "_law_there"] := fun _ _ _ _ _ _ us hl => match us, hl with | [_, _], _ => rfl
theorem bi_sLSame : BindsAll "_law_same" "_law_same" sLSame ["_law_here", "_law_there"] := fun _ _ _ _ _ _ us hl => match us, hl with | [_, _], _ => rfl
theorem bi_sLJoin : BindsAll "_law_joined" "_law_joined" sLJoin ["_law_word", "_law_here", "_law_there"] := fun _ _ _ _ _ _ us hl => match us, hl with | [_, _, _], _ => rfl
theorem bi_sReck : BindsAll "_law_reckoned" "_law_reckoned" sReck ["_law_term_here", "_law_names_here"] := fun _ _ _ _ _ _ us hl => match us, hl with | [_, _], _ => rfl
theorem bi_sLLeaf : BindsAll "_law_leaf" "_law_leaf" sLLeaf ["_law_deck_here", "_law_names_here"] := fun _ _ _ _ _ _ us hl => match us, hl with | [_, _], _ => rfl
theorem bi_sTerm : BindsAll "_law_term" "_law_term" sTerm ["_law_deck_here", "_law_names_here", "_law_deep", "_law_left"] := fun _ _ _ _ _ _ us hl => match us, hl with | [_, _, _, _], _ => rfl
theorem bi_sNumb : BindsAll "_law_number" "_law_number" sNumb ["_law_term_here", "_law_worths_here"] := fun _ _ _ _ _ _ us hl => match us, hl with | [_, _], _ => rfl
theorem bi_sAlw : BindsAll "_law_always" "_law_always" sAlw ["_law_t", "_law_u", "_law_v"] := fun _ _ _ _ _ _ us hl => match us, hl with | [_, _, _], _ => rfl
theorem bi_sNev : BindsAll "_law_never" "_law_never" sNev ["_law_x", "_law_y"] := fun _ _ _ _ _ _ us hl => match us, hl with | [_, _], _ => rfl
theorem bi_sMor : BindsAll "_law_more" "_law_more" sMor ["_law_t", "_law_u", "_law_v"] := fun _ _ _ _ _ _ us hl => match us, hl with | [_, _, _], _ => rfl
theorem bi_sSize : BindsAll "_law_size" "_law_size" sSize ["_law_term_here"] := fun _ _ _ _ _ _ us hl => match us, hl with | [_], _ => rfl
theorem bi_sFit : BindsAll "_law_fitting" "_law_fitting" sFit ["_law_pairs"] := fun _ _ _ _ _ _ us hl => match us, hl with | [_], _ => rfl
theorem bi_sTold : BindsAll "_law_told" "_law_told" sTold ["_law_here", "_law_there"] := fun _ _ _ _ _ _ us hl => match us, hl with | [_, _], _ => rfl
theorem bi_sPair : BindsAll "_law_pair_right" "_law_pair_right" sPair ["_law_names_here", "_law_here", "_law_there", "_law_worths_here"] := fun _ _ _ _ _ _ us hl => match us, hl with | [_, _, _, _], _ => rfl
theorem bi_sWor : BindsAll "_law_worths" "_law_worths" sWor ["_law_deck_here", "_law_names_here"] := fun _ _ _ _ _ _ us hl => match us, hl with | [_, _], _ => rfl
theorem bi_sLaw : BindsAll "law" "law" sLaw ["_law_script"] := fun _ _ _ _ _ _ us hl => match us, hl with | [_], _ => rfl
theorem bm_sInit : BindsAll "__init__" "Sums.__init__" sInit ["self"] := fun _ _ _ _ _ _ us hl => match us, hl with | [_], _ => rfl
theorem bm_sSingle : BindsAll "single" "Sums.single" sSingle ["self", "key", "parts"] := fun _ _ _ _ _ _ us hl => match us, hl with | [_, _, _], _ => rfl
theorem bm_sOfTwo : BindsAll "of_two" "Sums.of_two" sOfTwo ["self", "word", "one", "other"] := fun _ _ _ _ _ _ us hl => match us, hl with | [_, _, _, _], _ => rfl
theorem bm_sLeaf : BindsAll "leaf" "Sums.leaf" sLeaf ["self", "key"] := fun _ _ _ _ _ _ us hl => match us, hl with | [_, _], _ => rfl
theorem bm_sParts : BindsAll "parts_of" "Sums.parts_of" sParts ["self", "worth"] := fun _ _ _ _ _ _ us hl => match us, hl with | [_, _], _ => rfl
theorem bm_sNumber : BindsAll "number" "Sums.number" sNumber ["self", "many"] := fun _ _ _ _ _ _ us hl => match us, hl with | [_, _], _ => rfl
theorem bm_sPlus : BindsAll "plus" "Sums.plus" sPlus ["self", "one", "other"] := fun _ _ _ _ _ _ us hl => match us, hl with | [_, _, _], _ => rfl
theorem bm_sLess : BindsAll "less" "Sums.less" sLess ["self", "one", "other"] := fun _ _ _ _ _ _ us hl => match us, hl with | [_, _, _], _ => rfl
theorem bm_sTimes : BindsAll "times" "Sums.times" sTimes ["self", "one", "other"] := fun _ _ _ _ _ _ us hl => match us, hl with | [_, _, _], _ => rfl
theorem bm_sOver : BindsAll "over" "Sums.over" sOver ["self", "one", "other"] := fun _ _ _ _ _ _ us hl => match us, hl with | [_, _, _], _ => rfl
theorem bm_sBelow : BindsAll "below" "Sums.below" sBelow ["self", "one", "other"] := fun _ _ _ _ _ _ us hl => match us, hl with | [_, _, _], _ => rfl
theorem bm_sNought : BindsAll "nought" "Sums.nought" sNought ["self", "one"] := fun _ _ _ _ _ _ us hl => match us, hl with | [_, _], _ => rfl
theorem bm_sSame : BindsAll "same" "Sums.same" sSame ["self", "one", "other"] := fun _ _ _ _ _ _ us hl => match us, hl with | [_, _, _], _ => rfl
theorem bm_sByWord : BindsAll "by_word" "Sums.by_word" sByWord ["self", "word", "one", "other"] := fun _ _ _ _ _ _ us hl => match us, hl with | [_, _, _, _], _ => rfl
theorem all_mk {l : PySem.W.OpenLaw} {w : World} {K : PySem.W.Frag} {q : Program} {loose : List Str} {XP : (Str → Option Value) → Heap → Prop} {s₀ : Shared} {h : Heap} {mg mb : Str → Option Value} {fa pW pN pE cI PT C : Addr} {dI : DefRec} {t_ROUND t_NUM t_CELL w1 w2 w3 w4 w5 w6 tN : Tok} {dW dN odC : Option Addr} {nW nN nE : Nat} {sW sN sE slC : Array (Option Value)} {oC : Value} {vC : Array Value}
    (GG : PySem.W.Ground q loose [] XP w s₀ mg mb h) (X : K.In h) (hfa : mg "law" = some (.ref fa)) (rI : (recsOf q).find? (fun e => e.name == ("are_same" : Str)) = some dI)
    (d0 : DefIn K "joined" sJoined)
    (d1 : DefIn K "is_cell" sIsCell)
    (d2 : DefIn K "scaled" sScaled)
    (d3 : DefIn K "added" sAdded)
    (d4 : DefIn K "sum_of" sSumOf)
    (d5 : DefInC K "are_same" sAreSame cI)
    (d6 : DefIn K "_law_deck" sDeck)
    (d7 : DefIn K "_law_draw" sDraw)
    (d8 : DefIn K "_law_pick" sPick)
    (d9 : DefIn K "_law_names" sNames)
    (d10 : DefIn K "_law_added" sLAdd)
    (d11 : DefIn K "_law_of_two" sLTwo)
    (d12 : DefIn K "_law_times" sLTimes)
    (d13 : DefIn K "_law_same" sLSame)
    (d14 : DefIn K "_law_joined" sLJoin)
    (d15 : DefIn K "_law_reckoned" sReck)
    (d16 : DefIn K "_law_leaf" sLLeaf)
    (d17 : DefIn K "_law_term" sTerm)
    (d18 : DefIn K "_law_number" sNumb)
    (d19 : DefIn K "_law_always" sAlw)
    (d20 : DefIn K "_law_never" sNev)
    (d21 : DefIn K "_law_more" sMor)
    (d22 : DefIn K "_law_size" sSize)
    (d23 : DefIn K "_law_fitting" sFit)
    (d24 : DefIn K "_law_told" sTold)
    (d25 : DefIn K "_law_pair_right" sPair)
    (d26 : DefIn K "_law_worths" sWor)
    (d27 : DefIn K "law" sLaw)
    (gC : PySem.W.nsIn K mainGlobals "Sums" = some (some (.ref C)))
    (m0 : MthIn K C "__init__" "Sums.__init__" sInit)
    (m1 : MthIn K C "single" "Sums.single" sSingle)
    (m2 : MthIn K C "of_two" "Sums.of_two" sOfTwo)
    (m3 : MthIn K C "leaf" "Sums.leaf" sLeaf)
    (m4 : MthIn K C "parts_of" "Sums.parts_of" sParts)
    (m5 : MthIn K C "number" "Sums.number" sNumber)
    (m6 : MthIn K C "plus" "Sums.plus" sPlus)
    (m7 : MthIn K C "less" "Sums.less" sLess)
    (m8 : MthIn K C "times" "Sums.times" sTimes)
    (m9 : MthIn K C "over" "Sums.over" sOver)
    (m10 : MthIn K C "below" "Sums.below" sBelow)
    (m11 : MthIn K C "nought" "Sums.nought" sNought)
    (m12 : MthIn K C "same" "Sums.same" sSame)
    (m13 : MthIn K C "by_word" "Sums.by_word" sByWord)
    (pg : PySem.W.plainGet K C Str.empty = true)
    (hd : PySem.W.hasDictIn K C = true)
    (po : PySem.W.plainOver K C = true)
    (sa : PySem.W.findIn K (.ref C) "__setattr__" = some (some (.builtin "object.__setattr__")))
    (mk : PySem.W.makesIn K C = true)
    (kc : PySem.W.keepIn K (.ref C) = true)
    (n_atom_numbers : PySem.W.findIn K (.ref C) "atom_numbers" = some none)
    (n_atom_rows : PySem.W.findIn K (.ref C) "atom_rows" = some none)
    (n_cell_numbers : PySem.W.findIn K (.ref C) "cell_numbers" = some none)
    (n_cell_rows : PySem.W.findIn K (.ref C) "cell_rows" = some none)
    (z_sum : PySem.W.nsIn K mainGlobals "sum" = some none)
    (z_bool : PySem.W.nsIn K mainGlobals "bool" = some none)
    (z_isinstance : PySem.W.nsIn K mainGlobals "isinstance" = some none)
    (z_int : PySem.W.nsIn K mainGlobals "int" = some none)
    (z_len : PySem.W.nsIn K mainGlobals "len" = some none)
    (z_list : PySem.W.nsIn K mainGlobals "list" = some none)
    (z_tuple : PySem.W.nsIn K mainGlobals "tuple" = some none)
    (z_dict : PySem.W.nsIn K mainGlobals "dict" = some none)
    (z_range : PySem.W.nsIn K mainGlobals "range" = some none)
    (z_repr : PySem.W.nsIn K mainGlobals "repr" = some none)
    (z_sorted : PySem.W.nsIn K mainGlobals "sorted" = some none)
    (z_min : PySem.W.nsIn K mainGlobals "min" = some none)
    (z_max : PySem.W.nsIn K mainGlobals "max" = some none)
    (z_zip : PySem.W.nsIn K mainGlobals "zip" = some none)
    (g_ROUND : PySem.W.nsIn K mainGlobals "ROUND" = some (some (.int 65536 t_ROUND)))
    (g_NUM : PySem.W.nsIn K mainGlobals "NUM" = some (some (.str "num" t_NUM)))
    (g_CELL : PySem.W.nsIn K mainGlobals "CELL" = some (some (.str "cell" t_CELL)))
    (gW : PySem.W.nsIn K mainGlobals "WORDS" = some (some (.ref pW)))
    (lW : K.lookup pW = some ⟨.type "tuple", dW, .seq #[.str "sum" w1, .str "less" w2, .str "times" w3, .str "over" w4, .str "below" w5, .str "same" w6] nW, sW⟩)
    (gN : PySem.W.nsIn K mainGlobals "NOUGHT" = some (some (.ref pN)))
    (lN : K.lookup pN = some ⟨.type "tuple", dN, .seq #[.int 0 tN, .ref pE] nN, sN⟩)
    (lE : K.lookup pE = some ⟨.type "tuple", none, .seq #[] nE, sE⟩)
    (lC : K.lookup cI = some ⟨oC, odC, .fields vC, slC⟩)
    (vP : (vC[11]? : Option Value) = some (.ref PT))
    (nP : K.lookup PT = none) :
    LawG l w K 15 63 "_law_script" mg fa h := by
  have G := GG.T.g
  have tI : PySem.W.tabIn K "are_same" = some (cI, PT) := by
    obtain ⟨f, oc, od, kV, dc, pm, an, ct, sl, h1, h2, h3, h4⟩ := d5.ex
    unfold PySem.W.tabIn
    rw [h1]
    simp only [h2, lC, vP]
  obtain ⟨hcd, htab⟩ := PySem.W.tab_of GG.T X rI tI
  have GB : Glob K mg pW pN := {
    isi := PySem.W.mg_none_of X G z_isinstance
    int := PySem.W.mg_none_of X G z_int
    len := PySem.W.mg_none_of X G z_len
    list := PySem.W.mg_none_of X G z_list
    tuple := PySem.W.mg_none_of X G z_tuple
    dict := PySem.W.mg_none_of X G z_dict
    range := PySem.W.mg_none_of X G z_range
    repr := PySem.W.mg_none_of X G z_repr
    sorted := PySem.W.mg_none_of X G z_sorted
    min := PySem.W.mg_none_of X G z_min
    max := PySem.W.mg_none_of X G z_max
    zip := PySem.W.mg_none_of X G z_zip
    ROUND := ⟨_, PySem.W.mg_of X G g_ROUND⟩
    NUM := ⟨_, PySem.W.mg_of X G g_NUM⟩
    CELL := ⟨_, PySem.W.mg_of X G g_CELL⟩
    WORDS := PySem.W.mg_of X G gW
    words := fun H => .inr ⟨_, _, _, lW, rfl, rfl, (by show 6 ≤ sizeLine; decide), .cons ⟨_, rfl⟩ (.cons ⟨_, rfl⟩ (.cons ⟨_, rfl⟩ (.cons ⟨_, rfl⟩ (.cons ⟨_, rfl⟩ (.cons ⟨_, rfl⟩ .nil)))))⟩
    NOUGHT := PySem.W.mg_of X G gN
    nought := fun H => ⟨pN, pE, [], rfl, .inr ⟨_, _, _, lN, rfl, rfl, (by show 2 ≤ sizeLine; decide), .cons ⟨_, rfl⟩ (.cons rfl .nil)⟩, .inr ⟨_, _, _, lE, rfl, rfl, rfl, (by show 0 ≤ sizeLine; decide), .nil⟩, .nil⟩ }
  obtain ⟨f0, fd0, D0⟩ := d0.def_ X G bi_sJoined
  obtain ⟨f1, fd1, D1⟩ := d1.def_ X G bi_sIsCell
  obtain ⟨f2, fd2, D2⟩ := d2.def_ X G bi_sScaled
  obtain ⟨f3, fd3, D3⟩ := d3.def_ X G bi_sAdded
  obtain ⟨f4, fd4, D4⟩ := d4.def_ X G bi_sSumOf
  obtain ⟨f6, fd6, D6⟩ := d6.def_ X G bi_sDeck
  obtain ⟨f7, fd7, D7⟩ := d7.def_ X G bi_sDraw
  obtain ⟨f8, fd8, D8⟩ := d8.def_ X G bi_sPick
  obtain ⟨f9, fd9, D9⟩ := d9.def_ X G bi_sNames
  obtain ⟨f10, fd10, D10⟩ := d10.def_ X G bi_sLAdd
  obtain ⟨f11, fd11, D11⟩ := d11.def_ X G bi_sLTwo
  obtain ⟨f12, fd12, D12⟩ := d12.def_ X G bi_sLTimes
  obtain ⟨f13, fd13, D13⟩ := d13.def_ X G bi_sLSame
  obtain ⟨f14, fd14, D14⟩ := d14.def_ X G bi_sLJoin
  obtain ⟨f15, fd15, D15⟩ := d15.def_ X G bi_sReck
  obtain ⟨f16, fd16, D16⟩ := d16.def_ X G bi_sLLeaf
  obtain ⟨f17, fd17, D17⟩ := d17.def_ X G bi_sTerm
  obtain ⟨f18, fd18, D18⟩ := d18.def_ X G bi_sNumb
  obtain ⟨f19, fd19, D19⟩ := d19.def_ X G bi_sAlw
  obtain ⟨f20, fd20, D20⟩ := d20.def_ X G bi_sNev
  obtain ⟨f21, fd21, D21⟩ := d21.def_ X G bi_sMor
  obtain ⟨f22, fd22, D22⟩ := d22.def_ X G bi_sSize
  obtain ⟨f23, fd23, D23⟩ := d23.def_ X G bi_sFit
  obtain ⟨f24, fd24, D24⟩ := d24.def_ X G bi_sTold
  obtain ⟨f25, fd25, D25⟩ := d25.def_ X G bi_sPair
  obtain ⟨f26, fd26, D26⟩ := d26.def_ X G bi_sWor
  obtain ⟨g1, gd1, M1⟩ := m1.mdef bm_sSingle
  obtain ⟨g2, gd2, M2⟩ := m2.mdef bm_sOfTwo
  obtain ⟨g3, gd3, M3⟩ := m3.mdef bm_sLeaf
  obtain ⟨g4, gd4, M4⟩ := m4.mdef bm_sParts
  obtain ⟨g5, gd5, M5⟩ := m5.mdef bm_sNumber
  obtain ⟨g6, gd6, M6⟩ := m6.mdef bm_sPlus
  obtain ⟨g7, gd7, M7⟩ := m7.mdef bm_sLess
  obtain ⟨g8, gd8, M8⟩ := m8.mdef bm_sTimes
  obtain ⟨g9, gd9, M9⟩ := m9.mdef bm_sOver
  obtain ⟨g10, gd10, M10⟩ := m10.mdef bm_sBelow
  obtain ⟨g11, gd11, M11⟩ := m11.mdef bm_sNought
  obtain ⟨g12, gd12, M12⟩ := m12.mdef bm_sSame
  obtain ⟨g13, gd13, M13⟩ := m13.mdef bm_sByWord
  obtain ⟨f5, fd5, D5, KA⟩ := defc X G bi_sAreSame (fun _ _ _ _ _ _ _ _ => rfl) d5
  have T : Txt K mg C := ⟨⟨pg, hd, po, sa⟩, n_atom_numbers, n_atom_rows, n_cell_numbers, n_cell_rows, PySem.W.mg_of X G gC⟩
  obtain ⟨fi, oci, odi, kVi, dci, pmi, ani, cdi, cti, sli, i1, i5, i2, i3, i4⟩ := m0.ex
  have FI := fun_mk (st := sInit) i2 i3 i4
  have bI := FI.binds bm_sInit
  have MK : L2.Mk K C fi := ⟨mk, i1, i5, kc⟩
  obtain ⟨f, oc, od, kV, dc, pm, an, cd, ct, sl, h1, h2, h3, h4⟩ := d27.ex
  have e := hfa.symm.trans (PySem.W.mg_of X G h1)
  cases e
  have F := fun_mk (st := sLaw) h2 h3 h4
  refine ⟨PySem.W.fnOf "law" "law" (defArgs sLaw) (defBody sLaw) (defScope sLaw) .none kV dc pm an cd ct, cI, PT, Q16.spLaw K [(PT, lamQ)], htab, nP, hcd, fun s v => .of_eq rfl, fun H a ns hl ht hS => ⟨a, ns, rfl, hS, hl, fun p hp => ?_, fun _ => rfl⟩, fun base _ _ TB => ?_⟩
  · cases List.mem_singleton.mp hp
    exact TabS.nil ht
  · have DO : SoD K mg C _ _ _ _ _ _ _ _ := ⟨D4, M5, M3, M13⟩
    have W : WdD K mg C _ _ _ _ _ _ _ _ _ _ _ _ _ _ := ⟨D3, D2, ⟨M2, M1, M4, D1, D0⟩⟩
    have MS : MsD K C _ _ _ _ _ _ _ _ _ _ _ _ _ _ := ⟨M6, M7, M8, M9, M10, M11, M12⟩
    have GA := ok_are (P := l.prog) (w := w) (base := base) D5 DO T GB W MS MK FI bI TB
    have LJ : LjD K mg _ _ _ _ _ _ _ _ := ⟨D10, D11, D12, D13⟩
    have GRk := ok_reck (P := l.prog) (w := w) (base := base) D15 GB D14 LJ 6
    have DK : DkD K mg _ _ _ _ := ⟨D7, D8⟩
    have GT : FnOk l.prog w K mg base CX0 6 _ _ pTerm (spTerm K 2) := ok_term (P := l.prog) (w := w) (base := base) D17 GB DK D16 2
    have GB2 : Q16.GB mg := ⟨PySem.W.mg_none_of X G z_sum, PySem.W.mg_none_of X G z_isinstance, PySem.W.mg_none_of X G z_tuple, PySem.W.mg_none_of X G z_max, PySem.W.mg_none_of X G z_bool, PySem.W.mg_none_of X G z_repr, PySem.W.mg_none_of X G z_len, PySem.W.mg_none_of X G z_range, PySem.W.mg_none_of X G z_dict, PySem.W.mg_none_of X G z_list, PySem.W.mg_none_of X G z_zip, PySem.W.mg_none_of X G z_int⟩
    have df : ∀ {x : Str} {st : Stmt} {ps : List Str} {f : Addr} {fd : FuncData}, Def K mg x st ps f fd → PL.Df K mg x st ps := fun D => ⟨⟨_, _, D.fn, D.at_, D.fn.kp, D.b⟩⟩
    have W1 := Q16.dw_draw (T := [(PT, lamQ)]) D7 (ok_draw (k := 0) (P := l.prog) (w := w) (base := base) D7.fn)
    have W2 := Q16.dw_names (T := [(PT, lamQ)]) D9 (ok_names (k := 0) (P := l.prog) (w := w) (base := base) D9.fn GB D7)
    have W3 := Q16.dw_term (T := [(PT, lamQ)]) D17 GT
    have W4 := Q16.dw_pick (T := [(PT, lamQ)]) D8 (ok_pick (k := 0) (P := l.prog) (w := w) (base := base) D8.fn GB.len DK.d.fn DK.d.at_ DK.d.b)
    have W5 := Q16.dw_alw (T := [(PT, lamQ)]) D19 (ok_alw (k := 0) (P := l.prog) (w := w) (base := base) D19.fn)
    have W6 := Q16.dw_mor (T := [(PT, lamQ)]) D21 (ok_mor (k := 0) (P := l.prog) (w := w) (base := base) D21.fn)
    have W7 := Q16.dw_nev (T := [(PT, lamQ)]) D20 (ok_nev (k := 0) (P := l.prog) (w := w) (base := base) D20.fn)
    have W8 := Q16.dw_size (P := l.prog) (w := w) (base := base) (T := [(PT, lamQ)]) (df D22) GB2 6
    have W9 := Q16.dw_fit (df D23) GB2 W8
    have WA := Q16.dw_are (T := [(PT, lamQ)]) D5.at_ D5.kp D5.b GA
    have WB := Q16.dw_told (df D24) GB2 WA
    have WC := Q16.dw_wor (df D26) GB2 W1
    have WD := Q16.dw_pair D25 (Q16.ok_pair D25.fn GB D15 GRk WB D18)
    exact Q16.ok_law F GB2 D6 W1 W2 W3 W4 WC W5 W6 W7 W9 WA WB WD
end K15
set_option Elab.async false
open PySem PySem.W PyProof.Rows
local macro_rules | `(tactic| walk_at "k16 def") => `(tactic| (refine' K15.DefIn.of ?a1 ?a2 ?a3 ?a4; (case a1 => k_is); (case a2 => k_is); (case a3 => k_is); (case a4 => k_is)))
local macro_rules | `(tactic| walk_at "k16 def c") => `(tactic| (refine' K15.DefInC.of ?a1 ?a2 ?a3 ?a4; (case a1 => k_is); (case a2 => k_is); (case a3 => k_is); (case a4 => k_is)))
local macro_rules | `(tactic| walk_at "k16 meth") => `(tactic| (refine' K15.MthIn.of ?a1 ?a5 ?a2 ?a3 ?a4; (case a1 => k_is); (case a5 => k_is); (case a2 => k_is); (case a3 => k_is); (case a4 => k_is)))
set_option maxRecDepth 100000 in
set_option maxHeartbeats 0 in
theorem PySem.Challenge.cw_midferry_k16_nought_one_and_bounds_holds : PySem.Challenge.rw_midferry_k16_nought_one_and_bounds.Holds := by
  w_on; o_law; k_head; (case hw => w_witness2)
  k_fill
  refine KG.walkG (l := PySem.Challenge.rw_midferry_k16_nought_one_and_bounds) (n := 63) (k := 15) (x := "_law_script") rfl (by decide) rfl ⟨rfl, by decide, by decide⟩ (fun w h Y => PySem.W.km_in_of Y) ?F
  case F =>
    intro w s₀ mg mb fa h GG KX hmg
    refine' K15.all_mk GG KX hmg ?rI ?d0 ?d1 ?d2 ?d3 ?d4 ?d5 ?d6 ?d7 ?d8 ?d9 ?d10 ?d11 ?d12 ?d13 ?d14 ?d15 ?d16 ?d17 ?d18 ?d19 ?d20 ?d21 ?d22 ?d23 ?d24 ?d25 ?d26 ?d27 ?gC ?m0 ?m1 ?m2 ?m3 ?m4 ?m5 ?m6 ?m7 ?m8 ?m9 ?m10 ?m11 ?m12 ?m13 ?pg ?hd ?po ?sa ?mk ?kc ?n_atom_numbers ?n_atom_rows ?n_cell_numbers ?n_cell_rows ?z_sum ?z_bool ?z_isinstance ?z_int ?z_len ?z_list ?z_tuple ?z_dict ?z_range ?z_repr ?z_sorted ?z_min ?z_max ?z_zip ?g_ROUND ?g_NUM ?g_CELL ?gW ?lW ?gN ?lN ?lE ?lC ?vP ?nP
    (case rI => rfl)
    (case d0 => walk_at "k16 def")
    (case d1 => walk_at "k16 def")
    (case d2 => walk_at "k16 def")
    (case d3 => walk_at "k16 def")
    (case d4 => walk_at "k16 def")
    (case d5 => walk_at "k16 def c")
    (case d6 => walk_at "k16 def")
    (case d7 => walk_at "k16 def")
    (case d8 => walk_at "k16 def")
    (case d9 => walk_at "k16 def")
    (case d10 => walk_at "k16 def")
    (case d11 => walk_at "k16 def")
    (case d12 => walk_at "k16 def")
    (case d13 => walk_at "k16 def")
    (case d14 => walk_at "k16 def")
    (case d15 => walk_at "k16 def")
    (case d16 => walk_at "k16 def")
    (case d17 => walk_at "k16 def")
    (case d18 => walk_at "k16 def")
    (case d19 => walk_at "k16 def")
    (case d20 => walk_at "k16 def")
    (case d21 => walk_at "k16 def")
    (case d22 => walk_at "k16 def")
    (case d23 => walk_at "k16 def")
    (case d24 => walk_at "k16 def")
    (case d25 => walk_at "k16 def")
    (case d26 => walk_at "k16 def")
    (case d27 => walk_at "k16 def")
    (case gC => k_is)
    (case m0 => walk_at "k16 meth")
    (case m1 => walk_at "k16 meth")
    (case m2 => walk_at "k16 meth")
    (case m3 => walk_at "k16 meth")
    (case m4 => walk_at "k16 meth")
    (case m5 => walk_at "k16 meth")
    (case m6 => walk_at "k16 meth")
    (case m7 => walk_at "k16 meth")
    (case m8 => walk_at "k16 meth")
    (case m9 => walk_at "k16 meth")
    (case m10 => walk_at "k16 meth")
    (case m11 => walk_at "k16 meth")
    (case m12 => walk_at "k16 meth")
    (case m13 => walk_at "k16 meth")
    (case pg => k_is)
    (case hd => k_is)
    (case po => k_is)
    (case sa => k_is)
    (case mk => k_is)
    (case kc => k_is)
    (case n_atom_numbers => k_is)
    (case n_atom_rows => k_is)
    (case n_cell_numbers => k_is)
    (case n_cell_rows => k_is)
    (case z_sum => k_is)
    (case z_bool => k_is)
    (case z_isinstance => k_is)
    (case z_int => k_is)
    (case z_len => k_is)
    (case z_list => k_is)
    (case z_tuple => k_is)
    (case z_dict => k_is)
    (case z_range => k_is)
    (case z_repr => k_is)
    (case z_sorted => k_is)
    (case z_min => k_is)
    (case z_max => k_is)
    (case z_zip => k_is)
    (case g_ROUND => k_is)
    (case g_NUM => k_is)
    (case g_CELL => k_is)
    (case gW => k_is)
    (case lW => k_is)
    (case gN => k_is)
    (case lN => k_is)
    (case lE => k_is)
    (case lC => k_is)
    (case vP => rfl)
    (case nP => first | kernel_rfl | k_is | rfl)
