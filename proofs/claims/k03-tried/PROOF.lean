import PyProof.Rows.All
import Wide.All
import OpenK.AllK
import Wide.FinOn
import HandS.ForMost
import HandS.Evl
import HandS.Style
import HandS.Wide
import HandS.IsInst
import HandS.EndBits
import HandS.Walk
import KE.RegKIsAll
import KE.GoesMore
import KE.KDictKeyed
import HandS.SortRule
import PySem.Challenge.RW_manytimes_k03_tried
set_option Elab.async false
set_option linter.all false
set_option maxRecDepth 100000
set_option maxHeartbeats 4000000
namespace Mt
open PySem PySem.Spec L2 Evl PyProof.Rows

/-! ### plain values as they stand in the heap -/
class Rep (K : PySem.W.Frag) (α : Type) where
  rep : Hp → V → α → Prop
  mono : ∀ {H H' : Hp} {v : V} {a : α}, Ex H H' → rep H v a → rep H' v a
abbrev rep (K : PySem.W.Frag) {α : Type} [Rep K α] (H : Hp) (v : V) (a : α) : Prop := Rep.rep K H v a
theorem rmono {K : PySem.W.Frag} {α : Type} [Rep K α] {H H' : Hp} {v : V} {a : α} (e : Ex H H') (h : rep K H v a) : rep K H' v a := Rep.mono e h
instance repInt {K : PySem.W.Frag} : Rep K Int := ⟨fun _ v a => v = .int a, fun _ h => h⟩
instance repBool {K : PySem.W.Frag} : Rep K Bool := ⟨fun _ v a => v = .bl a, fun _ h => h⟩
instance repUnit {K : PySem.W.Frag} : Rep K Unit := ⟨fun _ v _ => v = .non, fun _ h => h⟩
instance repStr {K : PySem.W.Frag} : Rep K Str := ⟨fun _ v a => v = .str a, fun _ h => h⟩
instance repProd {K : PySem.W.Frag} {α β : Type} [Rep K α] [Rep K β] : Rep K (α × β) where
  rep := fun H v a => ∃ (p : Addr) (x y : V), v = .ref p ∧ H p = some (.tup [x, y]) ∧ rep K H x a.1 ∧ rep K H y a.2
  mono := fun e ⟨p, x, y, h1, h2, h3, h4⟩ => ⟨p, x, y, h1, e p _ h2, rmono e h3, rmono e h4⟩
theorem pmono {K : PySem.W.Frag} {α : Type} [Rep K α] {H H' : Hp} (e : Ex H H') {vs : List V} {xs : List α} (h : Paired (rep K H) vs xs) : Paired (rep K H') vs xs := Paired.mapP h fun _ _ q => rmono e q
instance repList {K : PySem.W.Frag} {α : Type} [Rep K α] : Rep K (List α) where
  rep := fun H v a => ∃ (p : Addr) (vs : List V), v = .ref p ∧ H p = some (.lst vs) ∧ Paired (rep K H) vs a
  mono := fun e ⟨p, vs, h1, h2, h3⟩ => ⟨p, vs, h1, e p _ h2, pmono e h3⟩
/-- values that hold no list, dict or object: they stand whatever is written -/
class RepT (K : PySem.W.Frag) (α : Type) [Rep K α] : Prop where
  stab : ∀ {H : Hp} {l : Addr} {o : HO} {v : V} {a : α}, (∀ xs, H l ≠ some (.tup xs)) → rep K H v a → rep K (upd H l o) v a
instance {K : PySem.W.Frag} : RepT K Int := ⟨fun _ h => h⟩
instance {K : PySem.W.Frag} : RepT K Bool := ⟨fun _ h => h⟩
instance {K : PySem.W.Frag} : RepT K Unit := ⟨fun _ h => h⟩
instance {K : PySem.W.Frag} : RepT K Str := ⟨fun _ h => h⟩
theorem tup_ne {H : Hp} {l p : Addr} {xs : List V} (hn : ∀ xs, H l ≠ some (.tup xs)) (h : H p = some (.tup xs)) : p ≠ l := fun e => hn xs (e ▸ h)
instance {K : PySem.W.Frag} {α β : Type} [Rep K α] [Rep K β] [RepT K α] [RepT K β] : RepT K (α × β) where
  stab := fun hn ⟨p, x, y, h1, h2, h3, h4⟩ => ⟨p, x, y, h1, by rw [upd_ne (tup_ne hn h2)]; exact h2, RepT.stab hn h3, RepT.stab hn h4⟩
theorem not_tup_lst {H : Hp} {l : Addr} {ys : List V} (h : H l = some (.lst ys)) : ∀ xs, H l ≠ some (.tup xs) := fun xs e => by rw [h] at e; cases e
theorem pstab {K : PySem.W.Frag} {α : Type} [Rep K α] [RepT K α] {H : Hp} {l : Addr} {o : HO} (hn : ∀ xs, H l ≠ some (.tup xs)) {vs : List V} {xs : List α} (h : Paired (rep K H) vs xs) : Paired (rep K (upd H l o)) vs xs := Paired.mapP h fun _ _ q => RepT.stab hn q
/-- a tuple whose items are of one kind -/
structure Tu (α : Type) where
  l : List α
instance repTu {K : PySem.W.Frag} {α : Type} [Rep K α] : Rep K (Tu α) where
  rep := fun H v a => ∃ (p : Addr) (vs : List V), v = .ref p ∧ H p = some (.tup vs) ∧ Paired (rep K H) vs a.l
  mono := fun e ⟨p, vs, h1, h2, h3⟩ => ⟨p, vs, h1, e p _ h2, pmono e h3⟩
/-- the script: a list of ints that may be frozen -/
structure Scr where
  l : List Int
instance repScr {K : PySem.W.Frag} : Rep K Scr where
  rep := fun H v a => ∃ p : Addr, v = .ref p ∧ SqL K H p (a.l.map V.int)
  mono := fun e ⟨p, h1, h2⟩ => ⟨p, h1, ex_l e h2⟩
theorem paired_ints {K : PySem.W.Frag} {H : Hp} : ∀ {vs : List V} {ns : List Int}, Paired (rep K H) vs ns → vs = ns.map V.int
  | _, _, .nil => rfl
  | _, _, .cons (b := n) h t => by
    have h : _ = V.int n := h
    rw [List.map_cons, ← paired_ints t, h]
theorem ints_paired {K : PySem.W.Frag} {H : Hp} : ∀ ns : List Int, Paired (rep K H) (ns.map V.int) ns
  | [] => .nil
  | _ :: ns => .cons rfl (ints_paired ns)
theorem paired_bls {K : PySem.W.Frag} {H : Hp} : ∀ {vs : List V} {ns : List Bool}, Paired (rep K H) vs ns → vs = ns.map V.bl
  | _, _, .nil => rfl
  | _, _, .cons (b := n) h t => by
    have h : _ = V.bl n := h
    rw [List.map_cons, ← paired_bls t, h]
theorem paired_get {α β : Type} {F : α → β → Prop} : ∀ {xs : List α} {ys : List β}, Paired F xs ys → ∀ {i : Nat} {y : β}, ys[i]? = some y → ∃ x, xs[i]? = some x ∧ F x y
  | _, _, .nil, _, _, h => by simp at h
  | _, _, .cons r t, 0, y, h => by
    have e := Option.some.inj h
    subst e
    exact ⟨_, rfl, r⟩
  | _, _, .cons r t, i + 1, y, h => by
    obtain ⟨x, h1, h2⟩ := paired_get t (i := i) (y := y) (by simpa using h)
    exact ⟨x, by simpa using h1, h2⟩
theorem paired_get' {α β : Type} {F : α → β → Prop} : ∀ {xs : List α} {ys : List β}, Paired F xs ys → ∀ {i : Nat} {x : α}, xs[i]? = some x → ∃ y, ys[i]? = some y ∧ F x y
  | _, _, .nil, _, _, h => by simp at h
  | _, _, .cons r t, 0, y, h => by
    have e := Option.some.inj h
    subst e
    exact ⟨_, rfl, r⟩
  | _, _, .cons r t, i + 1, y, h => by
    obtain ⟨x, h1, h2⟩ := paired_get' t (i := i) (x := y) (by simpa using h)
    exact ⟨x, by simpa using h1, h2⟩
theorem paired_append {α β : Type} {F : α → β → Prop} : ∀ {xs xs' : List α} {ys ys' : List β}, Paired F xs ys → Paired F xs' ys' → Paired F (xs ++ xs') (ys ++ ys')
  | _, _, _, _, .nil, s => s
  | _, _, _, _, .cons r t, s => .cons r (paired_append t s)
theorem paired_take {α β : Type} {F : α → β → Prop} : ∀ {xs : List α} {ys : List β} (n : Nat), Paired F xs ys → Paired F (xs.take n) (ys.take n)
  | _, _, 0, _ => .nil
  | _, _, _ + 1, .nil => .nil
  | _, _, n + 1, .cons r t => .cons r (paired_take n t)
theorem paired_drop {α β : Type} {F : α → β → Prop} : ∀ {xs : List α} {ys : List β} (n : Nat), Paired F xs ys → Paired F (xs.drop n) (ys.drop n)
  | _, _, 0, h => h
  | _, _, _ + 1, .nil => .nil
  | _, _, n + 1, .cons r t => paired_drop n t
theorem paired_reverse {α β : Type} {F : α → β → Prop} : ∀ {xs : List α} {ys : List β}, Paired F xs ys → Paired F xs.reverse ys.reverse
  | _, _, .nil => .nil
  | _, _, .cons r t => by rw [List.reverse_cons, List.reverse_cons]; exact paired_append (paired_reverse t) (.cons r .nil)
theorem paired_set {α β : Type} {F : α → β → Prop} {x : α} {y : β} (r : F x y) : ∀ {xs : List α} {ys : List β} (i : Nat), Paired F xs ys → Paired F (xs.set i x) (ys.set i y)
  | _, _, _, .nil => .nil
  | _, _, 0, .cons _ t => .cons r t
  | _, _, i + 1, .cons q t => .cons q (paired_set r i t)
theorem paired_rep {α β : Type} {F : α → β → Prop} {xs : List α} {ys : List β} (h : Paired F xs ys) : ∀ k : Nat, Paired F (List.replicate k xs).flatten (List.replicate k ys).flatten
  | 0 => .nil
  | k + 1 => by
    rw [List.replicate_succ, List.replicate_succ, List.flatten_cons, List.flatten_cons]
    exact paired_append h (paired_rep h k)

theorem int_beq (i j : Int) : (i == j) = decide (i = j) := by by_cases h : i = j <;> simp [h]
theorem bool_beq (i j : Bool) : (i == j) = decide (i = j) := by cases i <;> cases j <;> rfl
/-! ### what a reading gives -/
def EvR (K : PySem.W.Frag) {α : Type} [Rep K α] (te : TE) (σ : L2.St) (H : Hp) (a : α) : Prop := ∀ H1, Ex H H1 → ∀ Q : VK, (∀ v H2, Ex H1 H2 → rep K H2 v a → Q v H2) → te σ H1 Q
/-- a list that is new: its own address -/
def EvN (K : PySem.W.Frag) {α : Type} [Rep K α] (te : TE) (σ : L2.St) (H : Hp) (a : List α) : Prop := ∀ H1, Ex H H1 → ∀ Q : VK, (∀ p vs H2, H1 p = none → Ex H1 H2 → H2 p = some (.lst vs) → Paired (rep K H2) vs a → Q (.ref p) H2) → te σ H1 Q
/-- arguments -/
def EvLs (K : PySem.W.Frag) {α : Type} [Rep K α] (ta : TA) (σ : L2.St) (H : Hp) (as : List α) : Prop := ∀ H1, Ex H H1 → ∀ Q : List V → Hp → Prop, (∀ vs H2, Ex H1 H2 → Paired (rep K H2) vs as → Q vs H2) → ta σ H1 Q
section
variable {K : PySem.W.Frag} {σ : L2.St} {H H' : Hp} {ta tb tc te : TE} {t u : TT} {α β γ : Type} [Rep K α] [Rep K β] [Rep K γ] {a : α} {b : β}
theorem EvR.mono (e : Ex H H') (h : EvR K te σ H a) : EvR K te σ H' a := fun H1 e1 Q q => h H1 (e.trans e1) Q q
theorem evr_var {i : Nat} {v : V} (h : σ[i]? = some (some v)) (r : rep K H v a) : EvR K (tVar i) σ H a := fun H1 e Q q => ⟨v, h, q v H1 (Ex.refl _) (rmono e r)⟩
theorem evr_varI {i : Nat} {n : Int} (h : σ[i]? = some (some (.int n))) : EvR K (tVar i) σ H n := evr_var h rfl
theorem evr_c {v : V} (r : ∀ H, rep K H v a) : EvR K (tC v) σ H a := fun H1 _ Q q => q v H1 (Ex.refl _) (r H1)
theorem evr_int (i : Int) : EvR K (tC (.int i)) σ H i := fun H1 _ Q q => q _ H1 (Ex.refl _) rfl
theorem evr_bl (i : Bool) : EvR K (tC (.bl i)) σ H i := fun H1 _ Q q => q _ H1 (Ex.refl _) rfl
theorem evr_non : EvR K (tC .non) σ H () := fun H1 _ Q q => q _ H1 (Ex.refl _) rfl
theorem evr_is {a' : α} (h : EvR K te σ H a) (e : a = a') : EvR K te σ H a' := e ▸ h
theorem EvR.ev {i : Int} (h : EvR K te σ H i) : Ev te σ H (.int i) := fun H1 e Q q => h H1 e Q fun v H2 e2 r => by
  have r : v = V.int i := r
  subst r
  exact q H2 e2
theorem EvR.evb {i : Bool} (h : EvR K te σ H i) : Ev te σ H (.bl i) := fun H1 e Q q => h H1 e Q fun v H2 e2 r => by
  have r : v = V.bl i := r
  subst r
  exact q H2 e2
theorem evr_of {i : Int} (h : Ev te σ H (.int i)) : EvR K te σ H i := fun H1 e Q q => h H1 e Q fun H2 e2 => q _ H2 e2 rfl
theorem evr_ofb {i : Bool} (h : Ev te σ H (.bl i)) : EvR K te σ H i := fun H1 e Q q => h H1 e Q fun H2 e2 => q _ H2 e2 rfl
/-- operators on ints -/
theorem evr_opI {C : Int → Int → Prop} {g : Int → Int → Int} {i j : Int} (ha : EvR K ta σ H i) (hb : EvR K tb σ H j) (hc : C i j) : EvR K (tOp (rI C fun i j => .int (g i j)) ta tb) σ H (g i j) :=
  evr_of (ev_op ha.ev hb.ev (rv_I hc))
theorem evr_op0 {g : Int → Int → Int} {i j : Int} (ha : EvR K ta σ H i) (hb : EvR K tb σ H j) : EvR K (tOp (rI0 fun i j => .int (g i j)) ta tb) σ H (g i j) :=
  evr_of (ev_op ha.ev hb.ev rv_I0)
theorem evr_cmp {g : Int → Int → Bool} {i j : Int} (ha : EvR K ta σ H i) (hb : EvR K tb σ H j) : EvR K (tOp (rI0 fun i j => .bl (g i j)) ta tb) σ H (g i j) :=
  evr_ofb (ev_op ha.ev hb.ev rv_I0)
theorem evr_add {i j : Int} (ha : EvR K ta σ H i) (hb : EvR K tb σ H j) : EvR K (tOp (rI0 fun i j => .int (i + j)) ta tb) σ H (i + j) := evr_op0 (g := fun i j => i + j) ha hb
theorem evr_sub {i j : Int} (ha : EvR K ta σ H i) (hb : EvR K tb σ H j) : EvR K (tOp (rI0 fun i j => .int (i - j)) ta tb) σ H (i - j) := evr_op0 (g := fun i j => i - j) ha hb
theorem evr_mul {C : Int → Int → Prop} {i j : Int} (ha : EvR K ta σ H i) (hb : EvR K tb σ H j) (hc : C i j) : EvR K (tOp (rI C fun i j => .int (i * j)) ta tb) σ H (i * j) := evr_opI (g := fun i j => i * j) ha hb hc
theorem evr_div {C : Int → Int → Prop} {i j : Int} (ha : EvR K ta σ H i) (hb : EvR K tb σ H j) (hc : C i j) : EvR K (tOp (rI C fun i j => .int (i / j)) ta tb) σ H (i / j) := evr_opI (g := fun i j => i / j) ha hb hc
theorem evr_mod {C : Int → Int → Prop} {i j : Int} (ha : EvR K ta σ H i) (hb : EvR K tb σ H j) (hc : C i j) : EvR K (tOp (rI C fun i j => .int (i % j)) ta tb) σ H (i % j) := evr_opI (g := fun i j => i % j) ha hb hc
theorem evr_pow {C : Int → Int → Prop} {i j : Int} (ha : EvR K ta σ H i) (hb : EvR K tb σ H j) (hc : C i j) : EvR K (tOp (rI C fun i j => .int (i ^ j.toNat)) ta tb) σ H (i ^ j.toNat) := evr_opI (g := fun i j => i ^ j.toNat) ha hb hc
theorem evr_neg {i : Int} (ha : EvR K ta σ H i) : EvR K (tUn (rU fun i => .int (-i)) ta) σ H (-i) := evr_of (ev_un ha.ev ru_neg)
theorem evr_lt {i j : Int} (ha : EvR K ta σ H i) (hb : EvR K tb σ H j) : EvR K (tOp (rI0 fun i j => .bl (decide (i < j))) ta tb) σ H (decide (i < j)) := evr_cmp (g := fun i j => decide (i < j)) ha hb
theorem evr_le {i j : Int} (ha : EvR K ta σ H i) (hb : EvR K tb σ H j) : EvR K (tOp (rI0 fun i j => .bl (decide (i ≤ j))) ta tb) σ H (decide (i ≤ j)) := evr_cmp (g := fun i j => decide (i ≤ j)) ha hb
theorem evr_gt {i j : Int} (ha : EvR K ta σ H i) (hb : EvR K tb σ H j) : EvR K (tOp (rI0 fun i j => .bl (decide (j < i))) ta tb) σ H (decide (j < i)) := evr_cmp (g := fun i j => decide (j < i)) ha hb
theorem evr_ge {i j : Int} (ha : EvR K ta σ H i) (hb : EvR K tb σ H j) : EvR K (tOp (rI0 fun i j => .bl (decide (j ≤ i))) ta tb) σ H (decide (j ≤ i)) := evr_cmp (g := fun i j => decide (j ≤ i)) ha hb
theorem evr_eqI {i j : Int} (ha : EvR K ta σ H i) (hb : EvR K tb σ H j) : EvR K (tOp rEq ta tb) σ H (decide (i = j)) := by
  have h := ev_op ha.ev hb.ev (rv_eq (H := H) (x := V.int i) (y := V.int j) rfl)
  rw [dec_int, int_beq] at h
  exact evr_ofb h
theorem evr_neI {i j : Int} (ha : EvR K ta σ H i) (hb : EvR K tb σ H j) : EvR K (tOp rNe ta tb) σ H (!decide (i = j)) := by
  have h := ev_op ha.ev hb.ev (rv_ne (H := H) (x := V.int i) (y := V.int j) rfl)
  rw [dec_int, int_beq] at h
  exact evr_ofb h
theorem evr_eqB {i j : Bool} (ha : EvR K ta σ H i) (hb : EvR K tb σ H j) : EvR K (tOp rEq ta tb) σ H (decide (i = j)) := by
  have h := ev_op ha.evb hb.evb (rv_eq (H := H) (x := V.bl i) (y := V.bl j) rfl)
  rw [dec_bl, bool_beq] at h
  exact evr_ofb h
theorem evr_neB {i j : Bool} (ha : EvR K ta σ H i) (hb : EvR K tb σ H j) : EvR K (tOp rNe ta tb) σ H (!decide (i = j)) := by
  have h := ev_op ha.evb hb.evb (rv_ne (H := H) (x := V.bl i) (y := V.bl j) rfl)
  rw [dec_bl, bool_beq] at h
  exact evr_ofb h
theorem evr_isB {i j : Bool} (ha : EvR K ta σ H i) (hb : EvR K tb σ H j) : EvR K (tOp rIsB ta tb) σ H (decide (i = j)) := evr_ofb (ev_op ha.evb hb.evb fun H1 _ Q q => ⟨i, j, rfl, rfl, q H1 (Ex.refl _)⟩)
theorem evr_notB {i j : Bool} (ha : EvR K ta σ H i) (hb : EvR K tb σ H j) : EvR K (tOp rNotB ta tb) σ H (!decide (i = j)) := evr_ofb (ev_op ha.evb hb.evb fun H1 _ Q q => ⟨i, j, rfl, rfl, q H1 (Ex.refl _)⟩)
/-- a chain of two comparisons of ints -/
theorem evr_chain {g g' : Int → Int → Bool} {i j k : Int} (ha : EvR K ta σ H i) (hb : EvR K tb σ H j) (hc : g i j = true → EvR K tc σ H k) :
    EvR K (tChain (rI0 fun i j => .bl (g i j)) (rI0 fun i j => .bl (g' i j)) ta tb tc) σ H (g i j && g' j k) := evr_ofb fun H1 e Q q => ha.ev H1 e _ fun H2 e2 => hb.ev H2 (e.trans e2) _ fun H3 e3 => ⟨i, j, rfl, rfl, g i j, rfl, by
  cases hg : g i j with
  | true =>
    rw [if_pos rfl]
    refine (hc hg).ev H3 ((e.trans e2).trans e3) _ fun H4 e4 => ⟨j, k, rfl, rfl, ?_⟩
    have q' := q H4 ((e2.trans e3).trans e4)
    rw [hg, Bool.true_and] at q'
    exact q'
  | false =>
    rw [if_neg Bool.false_ne_true]
    have q' := q H3 (e2.trans e3)
    rw [hg, Bool.false_and] at q'
    exact q'⟩
theorem evr_andV {x y : Bool} (h1 : EvR K ta σ H x) (h2 : x = true → EvR K tb σ H y) : EvR K (tAndV ta tb) σ H (x && y) := evr_ofb (ev_andV h1.evb fun h => (h2 h).evb)
theorem evr_orV {x y : Bool} (h1 : EvR K ta σ H x) (h2 : x = false → EvR K tb σ H y) : EvR K (tOrV ta tb) σ H (x || y) := evr_ofb (ev_orV h1.evb fun h => (h2 h).evb)
theorem evr_notV {x : Bool} (h1 : EvR K ta σ H x) : EvR K (tNotV ta) σ H (!x) := evr_ofb (ev_notV h1.evb)
theorem evt_test {x : Bool} (h : EvR K te σ H x) : EvT (tTest te) σ H x := et_test h.evb
theorem evt_B {x : Bool} (h : EvR K te σ H x) : EvT (tB te) σ H x := et_B h.evb
theorem evr_if {x : Bool} {a1 a2 : α} (h : EvT t σ H x) (h1 : x = true → EvR K ta σ H a1) (h2 : x = false → EvR K tb σ H a2) : EvR K (tIf t ta tb) σ H (if x = true then a1 else a2) := fun H1 e Q q => h H1 e _ fun H2 e2 => by
  cases x with
  | true =>
    show ta σ H2 Q
    exact h1 rfl H2 (e.trans e2) Q fun v H3 e3 r => q v H3 (e2.trans e3) r
  | false =>
    show tb σ H2 Q
    exact h2 rfl H2 (e.trans e2) Q fun v H3 e3 r => q v H3 (e2.trans e3) r
/-- pairs -/
theorem evr_tup (ha : EvR K ta σ H a) (hb : EvR K tb σ H b) : EvR K (tTup (tCons ta (tCons tb tNil))) σ H (a, b) := fun H1 e Q q => ha H1 e _ fun x H2 e2 rx => hb H2 (e.trans e2) _ fun y H3 e3 ry =>
  ⟨by show 2 ≤ sizeLine; decide, fun p hp => q _ _ ((e2.trans e3).trans (Ex.new hp)) ⟨p, x, y, rfl, upd_same, rmono (e3.trans (Ex.new hp)) rx, rmono (Ex.new hp) ry⟩⟩
theorem evr_fst {ab : α × β} (ha : EvR K ta σ H ab) : EvR K (tOp (rIxT K) ta (tC (.int 0))) σ H ab.1 := fun H1 e Q q => ha H1 e _ fun v H2 e2 ⟨p, x, y, ev, hp, r1, r2⟩ =>
  ⟨p, [x, y], 0, x, ev, rfl, SqT.of hp, rfl, q _ H2 e2 r1⟩
theorem evr_snd {ab : α × β} (ha : EvR K ta σ H ab) : EvR K (tOp (rIxT K) ta (tC (.int 1))) σ H ab.2 := fun H1 e Q q => ha H1 e _ fun v H2 e2 ⟨p, x, y, ev, hp, r1, r2⟩ =>
  ⟨p, [x, y], 1, y, ev, rfl, SqT.of hp, rfl, q _ H2 e2 r2⟩
/-- items in a row -/
theorem els_nil : EvLs K tNil σ H ([] : List α) := fun H1 _ Q q => q _ H1 (Ex.refl _) .nil
theorem els_cons {tr : TA} {as : List α} (h : EvR K ta σ H a) (hr : EvLs K tr σ H as) : EvLs K (tCons ta tr) σ H (a :: as) := fun H1 e Q q => h H1 e _ fun v H2 e2 r => hr H2 (e.trans e2) _ fun vs H3 e3 rs =>
  q _ H3 (e2.trans e3) (.cons (rmono e3 r) rs)
theorem evr_tu {tl : TA} {as : List α} (h : EvLs K tl σ H as) (hz : as.length ≤ 100000) : EvR K (tTup tl) σ H (Tu.mk as) := fun H1 e Q q => h H1 e _ fun vs H2 e2 rs =>
  ⟨sz_of (by rw [rs.length]; exact hz), fun p hp => q _ _ (e2.trans (Ex.new hp)) ⟨p, vs, rfl, upd_same, pmono (Ex.new hp) rs⟩⟩
theorem evn_list {tl : TA} {as : List α} (h : EvLs K tl σ H as) (hz : as.length ≤ 100000) : EvN K (tLst tl) σ H as := fun H1 e Q q => h H1 e _ fun vs H2 e2 rs =>
  ⟨sz_of (by rw [rs.length]; exact hz), fun p hp => q p vs _ (fresh_back e2 hp) (e2.trans (Ex.new hp)) upd_same (pmono (Ex.new hp) rs)⟩
theorem evr_n {as : List α} (h : EvN K te σ H as) : EvR K te σ H as := fun H1 e Q q => h H1 e Q fun p vs H2 _ e2 hp rs => q _ H2 e2 ⟨p, vs, rfl, hp, rs⟩
theorem evr_list {tl : TA} {as : List α} (h : EvLs K tl σ H as) (hz : as.length ≤ 100000) : EvR K (tLst tl) σ H as := evr_n (evn_list h hz)
theorem evr_ixL {as : List α} {i : Int} {x : α} (ha : EvR K ta σ H as) (hb : EvR K tb σ H i) (h0 : 0 ≤ i) (hx : as[i.toNat]? = some x) : EvR K (tOp (rIxL K) ta tb) σ H x := fun H1 e Q q => ha H1 e _ fun v H2 e2 r => hb H2 (e.trans e2) _ fun u H3 e3 ru => by
  obtain ⟨p, vs, ev, hp, rs⟩ := rmono e3 r
  obtain ⟨z, hz, rz⟩ := paired_get rs hx
  have hat : atI vs i = some z := by
    have := atI_nat hz
    rw [Int.toNat_of_nonneg h0] at this
    exact this
  exact ⟨p, vs, i, z, ev, ru, SqL.of hp, hat, q _ H3 (e2.trans e3) rz⟩
theorem evr_ixU {as : List α} {i : Int} {x : α} (ha : EvR K ta σ H (Tu.mk as)) (hb : EvR K tb σ H i) (h0 : 0 ≤ i) (hx : as[i.toNat]? = some x) : EvR K (tOp (rIxT K) ta tb) σ H x := fun H1 e Q q => ha H1 e _ fun v H2 e2 r => hb H2 (e.trans e2) _ fun u H3 e3 ru => by
  obtain ⟨p, vs, ev, hp, rs⟩ := rmono e3 r
  obtain ⟨z, hz, rz⟩ := paired_get rs hx
  have hat : atI vs i = some z := by
    have := atI_nat hz
    rw [Int.toNat_of_nonneg h0] at this
    exact this
  exact ⟨p, vs, i, z, ev, ru, SqT.of hp, hat, q _ H3 (e2.trans e3) rz⟩
/-- len -/
theorem evr_lenL {as : List α} (ha : EvR K ta σ H as) : EvR K (tCB (rLenS K) (tCons ta tNil)) σ H (as.length : Int) := fun H1 e Q q => ha H1 e _ fun v H2 e2 ⟨p, vs, ev, hp, rs⟩ =>
  ⟨p, vs, by rw [ev], .inl (SqL.of hp), q _ H2 e2 (by show V.int _ = V.int _; rw [rs.length])⟩
theorem evr_lenP {ab : α × β} (ha : EvR K ta σ H ab) : EvR K (tCB (rLenS K) (tCons ta tNil)) σ H (2 : Int) := fun H1 e Q q => ha H1 e _ fun v H2 e2 ⟨p, x, y, ev, hp, rs⟩ =>
  ⟨p, [x, y], by rw [ev], .inr (SqT.of hp), q _ H2 e2 rfl⟩
/-- list(xs) -/
theorem evn_listS {as : List α} (ha : EvR K ta σ H as) : EvN K (tCB (rListS K) (tCons ta tNil)) σ H as := fun H1 e Q q => ha H1 e _ fun v H2 e2 ⟨p, vs, ev, hp, rs⟩ =>
  ⟨p, vs, by rw [ev], .inl (SqL.of hp), fun l hl => q l vs _ (fresh_back e2 hl) (e2.trans (Ex.new hl)) upd_same (pmono (Ex.new hl) rs)⟩
/-- slices -/
def cutA {α : Type} (xs : List α) (lo hi : Option Int) : List α := (xs.drop (HT.sIx xs.length 0 lo)).take (HT.sIx xs.length xs.length hi - HT.sIx xs.length 0 lo)
theorem evn_sl {tl th : TO} {as : List α} {lo hi : Option Int} (ha : EvR K ta σ H as) (h1 : EvO tl σ H lo) (h2 : EvO th σ H hi) : EvN K (tSl (rSlL K) ta tl th) σ H (cutA as lo hi) := fun H1 e Q q =>
  ha H1 e _ fun v H2 e2 r => h1 H2 (e.trans e2) _ fun H3 e3 => h2 H3 ((e.trans e2).trans e3) _ fun H4 e4 => by
    obtain ⟨p, vs, ev, hp, rs⟩ := rmono (e3.trans e4) r
    refine ⟨p, vs, ev, SqL.of hp, fun l hl => q l _ _ (fresh_back ((e2.trans e3).trans e4) hl) (((e2.trans e3).trans e4).trans (Ex.new hl)) upd_same ?_⟩
    have hl : vs.length = as.length := rs.length
    unfold cutV cutA
    rw [hl]
    exact paired_take _ (paired_drop _ (pmono (Ex.new ‹_›) rs))
theorem evn_slS {tl th : TO} {as : Scr} {lo hi : Option Int} (ha : EvR K ta σ H as) (h1 : EvO tl σ H lo) (h2 : EvO th σ H hi) : EvN K (tSl (rSlL K) ta tl th) σ H (cutA as.l lo hi) := fun H1 e Q q =>
  ha H1 e _ fun v H2 e2 r => h1 H2 (e.trans e2) _ fun H3 e3 => h2 H3 ((e.trans e2).trans e3) _ fun H4 e4 => by
    obtain ⟨p, ev, hp⟩ := rmono (e3.trans e4) r
    refine ⟨p, _, ev, hp, fun l hl => q l _ _ (fresh_back ((e2.trans e3).trans e4) hl) (((e2.trans e3).trans e4).trans (Ex.new hl)) upd_same ?_⟩
    unfold cutV cutA
    rw [List.length_map]
    exact paired_take _ (paired_drop _ (ints_paired _))
theorem evo_none : EvO tNoPart σ H none := eo_none
theorem evo_some {i : Int} (h : EvR K te σ H i) : EvO (tPart te) σ H (some i) := eo_some h.ev
theorem cutA_to {α : Type} (xs : List α) (n : Nat) : cutA xs none (some (n : Int)) = xs.take n := by
  unfold cutA
  rw [HT.sIx_none, HT.sIx_nat]
  simp only [List.drop_zero, Nat.sub_zero]
  rcases Nat.le_total n xs.length with h | h
  · rw [Nat.min_eq_left h]
  · rw [Nat.min_eq_right h, List.take_length, List.take_of_length_le h]
theorem cutA_from {α : Type} (xs : List α) (n : Nat) : cutA xs (some (n : Int)) none = xs.drop n := by
  unfold cutA
  rw [HT.sIx_none, HT.sIx_nat]
  rcases Nat.le_total n xs.length with h | h
  · rw [Nat.min_eq_left h, List.take_of_length_le (by rw [List.length_drop]; omega)]
  · rw [Nat.min_eq_right h, List.drop_length, List.drop_of_length_le h, List.take_nil]
theorem evn_rev {as : List α} (ha : EvR K ta σ H as) : EvN K (tRevL K ta) σ H as.reverse := fun H1 e Q q => ha H1 e _ fun v H2 e2 ⟨p, vs, ev, hp, rs⟩ =>
  ⟨p, vs, ev, SqL.of hp, fun l hl => q l _ _ (fresh_back e2 hl) (e2.trans (Ex.new hl)) upd_same (pmono (Ex.new hl) (paired_reverse rs))⟩
theorem evn_cat {as bs : List α} (ha : EvR K ta σ H as) (hb : EvR K tb σ H bs) (hz : as.length + bs.length ≤ 100000) : EvN K (tOp rCat ta tb) σ H (as ++ bs) := fun H1 e Q q => ha H1 e _ fun v H2 e2 r => hb H2 (e.trans e2) _ fun u H3 e3 ⟨p', vs', ev', hp', rs'⟩ => by
  obtain ⟨p, vs, ev, hp, rs⟩ := rmono e3 r
  refine ⟨p, p', vs, vs', ev, ev', hp, hp', sz_of ?_, fun l hl => q l _ _ (fresh_back (e2.trans e3) hl) ((e2.trans e3).trans (Ex.new hl)) upd_same (paired_append (pmono (Ex.new hl) rs) (pmono (Ex.new hl) rs'))⟩
  have h1 : vs.length = as.length := rs.length
  have h2 : vs'.length = bs.length := rs'.length
  rw [h1, h2]
  exact hz
theorem evn_rep {as : List α} {k : Int} (ha : EvR K ta σ H as) (hb : EvR K tb σ H k) (h0 : 0 ≤ k ∧ k ≤ 100000) (hz : as.length * k.toNat ≤ 100000) : EvN K (tOp rRep ta tb) σ H (List.replicate k.toNat as).flatten := fun H1 e Q q => ha H1 e _ fun v H2 e2 r => hb H2 (e.trans e2) _ fun u H3 e3 ru => by
  obtain ⟨p, vs, ev, hp, rs⟩ := rmono e3 r
  refine ⟨p, k, vs, ev, ru, hp, by omega, by omega, sz_of ?_, fun l hl => q l _ _ (fresh_back (e2.trans e3) hl) ((e2.trans e3).trans (Ex.new hl)) upd_same (paired_rep (pmono (Ex.new hl) rs) _)⟩
  have h1 : vs.length = as.length := rs.length
  rw [h1]
  exact hz
/-- sum, all -/
theorem evr_sum {ns : List Int} (ha : EvR K ta σ H ns) : EvR K (tCB (rSum K) (tCons ta tNil)) σ H ns.sum := fun H1 e Q q => ha H1 e _ fun v H2 e2 ⟨p, vs, ev, hp, rs⟩ =>
  ⟨p, ns, by rw [ev], by rw [← paired_ints rs]; exact SqL.of hp, q _ H2 e2 rfl⟩
theorem evr_all {bs : List Bool} (ha : EvR K ta σ H bs) : EvR K (tCB (rAll K) (tCons ta tNil)) σ H (bs.all id) := fun H1 e Q q => ha H1 e _ fun v H2 e2 ⟨p, vs, ev, hp, rs⟩ =>
  ⟨p, bs, by rw [ev], by rw [← paired_bls rs]; exact SqL.of hp, q _ H2 e2 rfl⟩
theorem evr_max2 {i j : Int} (ha : EvR K ta σ H i) (hb : EvR K tb σ H j) : EvR K (tCB (fun xs H Q => ∃ i j, xs = [.int i, .int j] ∧ Q (.int (if j > i then j else i)) H) (tCons ta (tCons tb tNil))) σ H (max i j) := by
  have e : max i j = if j > i then j else i := by split <;> omega
  rw [e]
  exact evr_of (ev_max2 ha.ev hb.ev)
theorem evr_min2 {i j : Int} (ha : EvR K ta σ H i) (hb : EvR K tb σ H j) : EvR K (tCB (fun xs H Q => ∃ i j, xs = [.int i, .int j] ∧ Q (.int (if j < i then j else i)) H) (tCons ta (tCons tb tNil))) σ H (min i j) := by
  have e : min i j = if j < i then j else i := by split <;> omega
  rw [e]
  exact evr_of fun H1 e Q q => ha.ev H1 e _ fun H2 e2 => hb.ev H2 (e.trans e2) _ fun H3 e3 => ⟨i, j, rfl, q H3 (e2.trans e3)⟩
end

/-! ### max, min of a pair -/
section
variable {prog : Program} {w : World} {A : Around} {E : Value → Shared → Prop} {s : Shared} {l : Addr} {its : List Value} {ns : List Int} {Q : Value → Shared → Prop}
theorem iter_tupA (hl : s.heap.IsTuple l its.toArray)
    (h : ∀ s₂ : Shared, s₂ = { s with heap := s.heap.push { cls := .type "tuple_iterator", data := .fields #[.ref l, .int 0 0] } } →
      (s₂.heap.IsTupleIter s.heap.objs.size l 0 ∧ s₂.heap.IsTuple l its.toArray) → (∀ b ∈ [s.heap.objs.size, l], b < s₂.heap.objs.size) → l ≠ s.heap.objs.size → Q (.ref s.heap.objs.size) s₂) :
    wpAny (model prog w) A (pyIter (.ref l)) Q E s := by
  have hlt : l < s.heap.objs.size := by obtain ⟨_, e, _⟩ := hl; exact Heap.lt_size e
  refine wpAny_pyIter_tuple hl (h _ rfl ⟨⟨_, Heap.get?_push_size _ rfl, rfl, rfl⟩, hl.push _⟩ (fun b hb => ?_) (Nat.ne_of_lt hlt))
  show b < (s.heap.push _).objs.size
  rw [Heap.size_push]
  rcases List.mem_cons.mp hb with rfl | hb
  · exact Nat.lt_succ_self _
  · rcases List.mem_cons.mp hb with rfl | hb
    · exact Nat.lt_succ_of_lt hlt
    · cases hb
theorem kept_tupA {h' : Heap} (hk : ∀ b o, b ∉ [s.heap.objs.size] → (s.heap.push { cls := .type "tuple_iterator", data := .fields #[.ref l, .int 0 0] }).get? b = some o → h'.get? b = some o) :
    ∀ b o, s.heap.get? b = some o → h'.get? b = some o := fun b o e => by
  refine hk b o (fun hm => ?_) (Heap.get?_push_of_some _ e)
  rcases List.mem_cons.mp hm with e1 | hm
  · exact absurd (e1 ▸ Heap.lt_size e) (Nat.lt_irrefl _)
  · cases hm
end
def rMaxP (K : PySem.W.Frag) : List V → Hp → VK → Prop := fun vs H Q => ∃ (p : Addr) (i j : Int), vs = [.ref p] ∧ H p = some (.tup [.int i, .int j]) ∧ Q (.int (max i j)) H
def rMinP (K : PySem.W.Frag) : List V → Hp → VK → Prop := fun vs H Q => ∃ (p : Addr) (i j : Int), vs = [.ref p] ∧ H p = some (.tup [.int i, .int j]) ∧ Q (.int (min i j)) H
section
variable {X : Cx}
theorem best_two (P : Nat → Nat → Bool) : argBest P (2 - 1) = if P 1 0 = true then 1 else 0 := rfl
theorem call_maxP (hc : X.calm = true) : CallR X (.builtin "max") (rMaxP X.K) := by
  intro pins s σ H vs us Q I r h
  obtain ⟨p, i, j, rfl, hp, q⟩ := h
  obtain ⟨_, its, rv, ht⟩ := (show ObjOk X.prog X.w H s.heap p (.tup [.int i, .int j]) from I.hok p _ hp)
  rw [Vals.ref1 r]
  obtain ⟨t, u, rfl⟩ := Vals.int2 rv
  obtain ⟨o, h1, h2, n, h3⟩ := ht
  refine call_max_walk (iter_tupA (l := p) (its := [Value.int i t, Value.int j u]) ⟨o, h1, h2, n, h3⟩ fun s2 e2 st hfp hl => ?_)
  subst e2
  have hval : ∀ (k : Nat) (v : Value), (#[Value.int i t, Value.int j u] : Array Value)[k]? = some v → ∃ z, v = .int (if k = 1 then j else i) z := fun k v hk => by
    match k, hk with
    | 0, hk => exact ⟨t, by simpa using hk.symm⟩
    | 1, hk => exact ⟨u, by simpa using hk.symm⟩
    | k + 2, hk => simp at hk
  refine ⟨_, _, _, _, _, _, _, rfl, Walks.tuple (A := X.A.in1) (I.ok.hd hc) _ p hl #[Value.int i t, Value.int j u], st, hfp, by simp, CmpOf.ints_gt (fun k => if k = 1 then j else i) hval, fun v h' tk hP hk => ?_⟩
  obtain ⟨z, rfl⟩ := hval _ v hP
  refine ⟨.int (max i j), H, I.kept (kept_tupA hk), ⟨z, ?_⟩, q⟩
  show Value.int (if argBest (fun a b => decide ((if a = 1 then j else i) > (if b = 1 then j else i))) (2 - 1) = 1 then j else i) z = Value.int (max i j) z
  rw [best_two]
  by_cases c : j > i
  · simp [c]; omega
  · simp [c]; omega
theorem call_minP (hc : X.calm = true) : CallR X (.builtin "min") (rMinP X.K) := by
  intro pins s σ H vs us Q I r h
  obtain ⟨p, i, j, rfl, hp, q⟩ := h
  obtain ⟨_, its, rv, ht⟩ := (show ObjOk X.prog X.w H s.heap p (.tup [.int i, .int j]) from I.hok p _ hp)
  rw [Vals.ref1 r]
  obtain ⟨t, u, rfl⟩ := Vals.int2 rv
  obtain ⟨o, h1, h2, n, h3⟩ := ht
  refine call_min_walk (iter_tupA (l := p) (its := [Value.int i t, Value.int j u]) ⟨o, h1, h2, n, h3⟩ fun s2 e2 st hfp hl => ?_)
  subst e2
  have hval : ∀ (k : Nat) (v : Value), (#[Value.int i t, Value.int j u] : Array Value)[k]? = some v → ∃ z, v = .int (if k = 1 then j else i) z := fun k v hk => by
    match k, hk with
    | 0, hk => exact ⟨t, by simpa using hk.symm⟩
    | 1, hk => exact ⟨u, by simpa using hk.symm⟩
    | k + 2, hk => simp at hk
  refine ⟨_, _, _, _, _, _, _, rfl, Walks.tuple (A := X.A.in1) (I.ok.hd hc) _ p hl #[Value.int i t, Value.int j u], st, hfp, by simp, CmpOf.ints_lt (fun k => if k = 1 then j else i) hval, fun v h' tk hP hk => ?_⟩
  obtain ⟨z, rfl⟩ := hval _ v hP
  refine ⟨.int (min i j), H, I.kept (kept_tupA hk), ⟨z, ?_⟩, q⟩
  show Value.int (if argBest (fun a b => decide ((if a = 1 then j else i) < (if b = 1 then j else i))) (2 - 1) = 1 then j else i) z = Value.int (min i j) z
  rw [best_two]
  by_cases c : j < i
  · simp [c]; omega
  · simp [c]; omega
theorem op_mulX : OpR X (binaryOp .Mult) (rI IntMulOk fun i j => .int (i * j)) := opI fun _ _ _ _ _ _ _ hc q => mul_int q hc
/-- // where the divisor is positive and the model's division does not go by its slow road -/
def CDivX (i j : Int) : Prop := 0 < j ∧ Builtin.divisionGoesByPylong i j = false
theorem op_fdivX : OpR X (binaryOp .FloorDiv) (rI CDivX fun i j => .int (i / j)) := opI fun i j _ _ _ _ _ hc q => by
  have h1 : (0 : Int) < j := hc.1
  exact floordiv_int (by omega) (by rw [Int.fdiv_eq_ediv_of_nonneg i (by omega)]; exact q) (.inl hc.2)
end
section
variable {K : PySem.W.Frag} {σ : L2.St} {H : Hp} {ta : TE}
theorem evr_maxP {p : Int × Int} (ha : EvR K ta σ H p) : EvR K (tCB (rMaxP K) (tCons ta tNil)) σ H (max p.1 p.2) := fun H1 e Q q => ha H1 e _ fun v H2 e2 ⟨a, x, y, ev, hp, r1, r2⟩ => by
  have r1 : x = V.int p.1 := r1
  have r2 : y = V.int p.2 := r2
  subst r1 r2
  exact ⟨a, p.1, p.2, by rw [ev], hp, q _ H2 e2 rfl⟩
theorem evr_minP {p : Int × Int} (ha : EvR K ta σ H p) : EvR K (tCB (rMinP K) (tCons ta tNil)) σ H (min p.1 p.2) := fun H1 e Q q => ha H1 e _ fun v H2 e2 ⟨a, x, y, ev, hp, r1, r2⟩ => by
  have r1 : x = V.int p.1 := r1
  have r2 : y = V.int p.2 := r2
  subst r1 r2
  exact ⟨a, p.1, p.2, by rw [ev], hp, q _ H2 e2 rfl⟩
end

/-! ### promises of defs -/
section
variable {K : PySem.W.Frag} {σ : L2.St} {H : Hp} {ta tb tc te : TE} {α β γ δ : Type} [Rep K α] [Rep K β] [Rep K γ] [Rep K δ]
def Fn1 (K : PySem.W.Frag) {α β : Type} [Rep K α] [Rep K β] (pre : α → Prop) (f : α → β) : Sp := fun vs H Q _ => ∃ v a, vs = [v] ∧ rep K H v a ∧ pre a ∧ ∀ u H', Ex H H' → rep K H' u (f a) → Q u H'
def Fn2 (K : PySem.W.Frag) {α β γ : Type} [Rep K α] [Rep K β] [Rep K γ] (pre : α → β → Prop) (f : α → β → γ) : Sp := fun vs H Q _ => ∃ v w a b, vs = [v, w] ∧ rep K H v a ∧ rep K H w b ∧ pre a b ∧ ∀ u H', Ex H H' → rep K H' u (f a b) → Q u H'
def Fn3 (K : PySem.W.Frag) {α β γ δ : Type} [Rep K α] [Rep K β] [Rep K γ] [Rep K δ] (pre : α → β → γ → Prop) (f : α → β → γ → δ) : Sp := fun vs H Q _ => ∃ v w z a b c, vs = [v, w, z] ∧ rep K H v a ∧ rep K H w b ∧ rep K H z c ∧ pre a b c ∧ ∀ u H', Ex H H' → rep K H' u (f a b c) → Q u H'
theorem evr_call1 {pre : α → Prop} {f : α → β} {E : XK} {a : α} (ha : EvR K ta σ H a) (hp : pre a) : EvR K (tCall (Fn1 K pre f) [] E (tCons ta tNil)) σ H (f a) := fun H1 e Q q => ha H1 e _ fun v H2 e2 r =>
  ⟨v, a, rfl, r, hp, fun u H3 e3 ru => q u H3 (e2.trans e3) ru⟩
theorem evr_call2 {pre : α → β → Prop} {f : α → β → γ} {E : XK} {a : α} {b : β} (ha : EvR K ta σ H a) (hb : EvR K tb σ H b) (hp : pre a b) : EvR K (tCall (Fn2 K pre f) [] E (tCons ta (tCons tb tNil))) σ H (f a b) := fun H1 e Q q => ha H1 e _ fun v H2 e2 r =>
  hb H2 (e.trans e2) _ fun w H3 e3 r3 => ⟨v, w, a, b, rfl, rmono e3 r, r3, hp, fun u H4 e4 ru => q u H4 ((e2.trans e3).trans e4) ru⟩
theorem evr_call3 {pre : α → β → γ → Prop} {f : α → β → γ → δ} {E : XK} {a : α} {b : β} {c : γ} (ha : EvR K ta σ H a) (hb : EvR K tb σ H b) (hc : EvR K tc σ H c) (hp : pre a b c) : EvR K (tCall (Fn3 K pre f) [] E (tCons ta (tCons tb (tCons tc tNil)))) σ H (f a b c) := fun H1 e Q q => ha H1 e _ fun v H2 e2 r =>
  hb H2 (e.trans e2) _ fun w H3 e3 r3 => hc H3 ((e.trans e2).trans e3) _ fun z H4 e4 r4 => ⟨v, w, z, a, b, c, rfl, rmono (e3.trans e4) r, rmono e4 r3, r4, hp, fun u H5 e5 ru => q u H5 (((e2.trans e3).trans e4).trans e5) ru⟩
theorem Fn1.len {pre : α → Prop} {f : α → β} {vs : List V} {H : Hp} {Q : VK} {E : XK} (h : Fn1 K pre f vs H Q E) : vs.length = 1 := by obtain ⟨v, a, rfl, _⟩ := h; rfl
theorem Fn2.len {pre : α → β → Prop} {f : α → β → γ} {vs : List V} {H : Hp} {Q : VK} {E : XK} (h : Fn2 K pre f vs H Q E) : vs.length = 2 := by obtain ⟨v, w, a, b, rfl, _⟩ := h; rfl
theorem Fn3.len {pre : α → β → γ → Prop} {f : α → β → γ → δ} {vs : List V} {H : Hp} {Q : VK} {E : XK} (h : Fn3 K pre f vs H Q E) : vs.length = 3 := by obtain ⟨v, w, z, a, b, c, rfl, _⟩ := h; rfl
end
/-- a def that may be called by its name -/
structure Cal (P : Program) (w : World) (K : PySem.W.Frag) (mg : Str → Option Value) (base : Heap) (CX : CXT) (k : Nat) (x : Str) (ps : List Str) (sp : Sp) : Prop where
  ex : ∃ (f : Addr) (fd : FuncData), FnOk P w K mg base CX k f fd ps sp ∧ mg x = some (.ref f) ∧ PySem.W.keepIn K (.ref f) = true ∧ Binds K fd ps []
section
variable {X : Cx} {k : Nat} {x : Str} {ps : List Str} {sp : Sp} {e : Expr} {es : List Expr} {t : TA} {p pos : Pos}
theorem pe_cal (C : Cal X.prog X.w X.K X.mg X.base CX0 k x ps sp) (hr : Room k X.A) (hg : Gl X x) (ha : PA X (e :: es) t) (hdb : (x == ("__debug__" : Str)) = false := by decide)
    (he : starEach (e :: es) X.env = (false, eval e X.env) :: starEach es X.env := by rfl) (hpl : (backTo pos (starEach es X.env)).any (·.1) = false := by rfl) : PE X (.Call (.Name x p) (e :: es) [] pos) (tCall sp [] E0 t) := by
  obtain ⟨f, fd, F, hm, hk, hb⟩ := C.ex
  exact pe_call F hr hg hm hk hb .nil pass0 ha hdb he hpl
theorem pe_cal0 (C : Cal X.prog X.w X.K X.mg X.base CX0 k x ps sp) (hr : Room k X.A) (hg : Gl X x) (hdb : (x == ("__debug__" : Str)) = false := by decide) : PE X (.Call (.Name x p) [] [] pos) (tCall sp [] E0 tNil) := by
  obtain ⟨f, fd, F, hm, hk, hb⟩ := C.ex
  exact pe_call0 F hr hg hm hk hb .nil pass0 hdb
end

/-! ### statements -/
section
variable {K : PySem.W.Frag} {σ : L2.St} {H H' : Hp} {ta tb tc te : TE} {t u : TT} {α β γ : Type} [Rep K α] [Rep K β] [Rep K γ] {a : α} {b : β} {D : Ends} {tu tw tz : TS} {g : TG} {i j : Nat}
theorem r_asg (h : EvR K te σ H a) (k : ∀ v H1, Ex H H1 → rep K H1 v a → tz D (σ.set i (some v)) H1) : tSeq (tAsg te (gName i)) tz D σ H := h H (Ex.refl H) _ fun v H1 e r => k v H1 e r
theorem r_asg1 (h : EvR K te σ H a) (k : ∀ v H1, Ex H H1 → rep K H1 v a → D.nx (σ.set i (some v)) H1) : tAsg te (gName i) D σ H := h H (Ex.refl H) _ fun v H1 e r => k v H1 e r
theorem r_asgN {as : List α} (h : EvN K te σ H as) (k : ∀ p vs H1, H p = none → Ex H H1 → H1 p = some (.lst vs) → Paired (rep K H1) vs as → tz D (σ.set i (some (.ref p))) H1) : tSeq (tAsg te (gName i)) tz D σ H :=
  h H (Ex.refl H) _ fun p vs H1 hp e h1 rs => k p vs H1 hp e h1 rs
theorem r_asgN1 {as : List α} (h : EvN K te σ H as) (k : ∀ p vs H1, H p = none → Ex H H1 → H1 p = some (.lst vs) → Paired (rep K H1) vs as → D.nx (σ.set i (some (.ref p))) H1) : tAsg te (gName i) D σ H :=
  h H (Ex.refl H) _ fun p vs H1 hp e h1 rs => k p vs H1 hp e h1 rs
theorem r_ret (h : EvR K te σ H a) (k : ∀ v H1, Ex H H1 → rep K H1 v a → D.rt v H1) : tRet te D σ H := h H (Ex.refl H) _ k
theorem r_drop (h : EvR K te σ H a) (k : ∀ H1, Ex H H1 → tz D σ H1) : tSeq (tDrop te) tz D σ H := h H (Ex.refl H) _ fun v H1 e _ => k H1 e
theorem r_drop1 (h : EvR K te σ H a) (k : ∀ H1, Ex H H1 → D.nx σ H1) : tDrop te D σ H := h H (Ex.refl H) _ fun v H1 e _ => k H1 e
/-- if a test that is never so: .. -/
theorem r_guard {b : Bool} (h : EvT t σ H b) (hb : b = false) (k : ∀ H1, Ex H H1 → tz D σ H1) : tSeq (tIfS t tu tNext) tz D σ H := q_when h (fun c => by rw [hb] at c; cases c) fun _ H1 e => k H1 e
theorem r_guard1 {b : Bool} (h : EvT t σ H b) (hb : b = false) (k : ∀ H1, Ex H H1 → D.nx σ H1) : tIfS t tu tNext D σ H := s_when h (fun c => by rw [hb] at c; cases c) fun _ H1 e => k H1 e
theorem r_par (ha : EvR K ta σ H a) (hb : EvR K tb σ H b) (k : ∀ v w H1, Ex H H1 → rep K H1 v a → rep K H1 w b → tz D ((σ.set i (some v)).set j (some w)) H1) : tSeq (tPar i j (tCons ta (tCons tb tNil))) tz D σ H :=
  ha H (Ex.refl H) _ fun v H1 e r => hb H1 e _ fun w H2 e2 r2 => ⟨v, w, rfl, k v w H2 (e.trans e2) (rmono e2 r) r2⟩
theorem r_par1 (ha : EvR K ta σ H a) (hb : EvR K tb σ H b) (k : ∀ v w H1, Ex H H1 → rep K H1 v a → rep K H1 w b → D.nx ((σ.set i (some v)).set j (some w)) H1) : tPar i j (tCons ta (tCons tb tNil)) D σ H :=
  ha H (Ex.refl H) _ fun v H1 e r => hb H1 e _ fun w H2 e2 r2 => ⟨v, w, rfl, k v w H2 (e.trans e2) (rmono e2 r) r2⟩
/-- a, b = a pair -/
theorem r_unp {ab : α × β} (h : EvR K te σ H ab) (k : ∀ v w H1, Ex H H1 → rep K H1 v ab.1 → rep K H1 w ab.2 → tz D ((σ.set i (some v)).set j (some w)) H1) : tSeq (tAsg te (gTup K 2 (gCons (gName i) (gCons (gName j) gNil)))) tz D σ H :=
  h H (Ex.refl H) _ fun v H1 e ⟨p, x, y, ev, hp, r1, r2⟩ => ⟨p, [x, y], ev, SqT.of hp, rfl, x, [y], rfl, y, [], rfl, rfl, k x y H1 e r1 r2⟩
theorem r_unp1 {ab : α × β} (h : EvR K te σ H ab) (k : ∀ v w H1, Ex H H1 → rep K H1 v ab.1 → rep K H1 w ab.2 → D.nx ((σ.set i (some v)).set j (some w)) H1) : tAsg te (gTup K 2 (gCons (gName i) (gCons (gName j) gNil))) D σ H :=
  h H (Ex.refl H) _ fun v H1 e ⟨p, x, y, ev, hp, r1, r2⟩ => ⟨p, [x, y], ev, SqT.of hp, rfl, x, [y], rfl, y, [], rfl, rfl, k x y H1 e r1 r2⟩
/-- for x in xs -/
theorem r_forL {tl : TE} {as : List α} (h : EvR K tl σ H as) (k : ∀ p vs H1, Ex H H1 → H1 p = some (.lst vs) → Paired (rep K H1) vs as → ∃ Pv : Nat → L2.St → Hp → Prop, Pv 0 σ H1 ∧ (∀ n σ' H', Pv n σ' H' → H' p = some (.lst vs) ∧ Paired (rep K H') vs as) ∧
      (∀ n v x σ' H', as[n]? = some x → rep K H' v x → Pv n σ' H' → g v σ' H' fun σ2 H2 => tu { D with nx := Pv (n + 1), ct := Pv (n + 1), bk := tz D } σ2 H2) ∧ (∀ σ' H', Pv as.length σ' H' → tz D σ' H')) : tSeq (tFor (iList K tl) g tu) tz D σ H :=
  h H (Ex.refl H) _ fun v H1 e ⟨p, vs, ev, hp, rs⟩ => by
    obtain ⟨Pv, h0, hk, hs, hd⟩ := k p vs H1 e hp rs
    refine ⟨p, ev, ⟨vs, SqL.of hp⟩, for_list (D := { D with nx := tz D }) Pv h0 (fun n σ' H' _ q => SqL.of (hk n σ' H' q).1) (fun n x σ' H' hx q => ?_) (fun σ' H' q => hd σ' H' (by rw [← rs.length]; exact q))⟩
    obtain ⟨y, hy, ry⟩ := paired_get' (hk n σ' H' q).2 hx
    exact hs n x y σ' H' hy ry q
theorem r_forL1 {tl : TE} {as : List α} (h : EvR K tl σ H as) (k : ∀ p vs H1, Ex H H1 → H1 p = some (.lst vs) → Paired (rep K H1) vs as → ∃ Pv : Nat → L2.St → Hp → Prop, Pv 0 σ H1 ∧ (∀ n σ' H', Pv n σ' H' → H' p = some (.lst vs) ∧ Paired (rep K H') vs as) ∧
      (∀ n v x σ' H', as[n]? = some x → rep K H' v x → Pv n σ' H' → g v σ' H' fun σ2 H2 => tu { D with nx := Pv (n + 1), ct := Pv (n + 1), bk := D.nx } σ2 H2) ∧ (∀ σ' H', Pv as.length σ' H' → D.nx σ' H')) : tFor (iList K tl) g tu D σ H :=
  h H (Ex.refl H) _ fun v H1 e ⟨p, vs, ev, hp, rs⟩ => by
    obtain ⟨Pv, h0, hk, hs, hd⟩ := k p vs H1 e hp rs
    refine ⟨p, ev, ⟨vs, SqL.of hp⟩, for_list Pv h0 (fun n σ' H' _ q => SqL.of (hk n σ' H' q).1) (fun n x σ' H' hx q => ?_) (fun σ' H' q => hd σ' H' (by rw [← rs.length]; exact q))⟩
    obtain ⟨y, hy, ry⟩ := paired_get' (hk n σ' H' q).2 hx
    exact hs n x y σ' H' hy ry q
theorem r_forR1 {n : Int} (h : EvR K ta σ H n) (hn : 0 ≤ n ∧ n ≤ 100000) (k : ∀ H1, Ex H H1 → ∃ Pv : Nat → L2.St → Hp → Prop, Pv 0 σ H1 ∧
      (∀ (m : Nat) σ' H', (m : Int) < n → Pv m σ' H' → tu { D with nx := Pv (m + 1), ct := Pv (m + 1), bk := tz D } (σ'.set j (some (.int (m : Int)))) H') ∧ (∀ σ' H', Pv n.toNat σ' H' → tz D σ' H')) : tSeq (tFor (iRng1 (tCons ta tNil)) (gName j) tu) tz D σ H :=
  h.ev H (Ex.refl H) _ fun H1 e => by
    obtain ⟨Pv, h0, hs, hd⟩ := k H1 e
    refine ⟨n, rfl, by omega, by omega, for_range (D := { D with nx := tz D }) (lo := 0) (n := n.toNat) Pv h0 (fun m σ' H' hm q => ?_) hd⟩
    have e0 : (0 : Int) + (m : Int) = (m : Int) := Int.zero_add _
    show tu { D with nx := Pv (m + 1), ct := Pv (m + 1), bk := tz D } (σ'.set j (some (.int ((0 : Int) + (m : Int))))) H'
    rw [e0]
    exact hs m σ' H' (by omega) q
theorem r_forR11 {n : Int} (h : EvR K ta σ H n) (hn : 0 ≤ n ∧ n ≤ 100000) (k : ∀ H1, Ex H H1 → ∃ Pv : Nat → L2.St → Hp → Prop, Pv 0 σ H1 ∧
      (∀ (m : Nat) σ' H', (m : Int) < n → Pv m σ' H' → tu { D with nx := Pv (m + 1), ct := Pv (m + 1), bk := D.nx } (σ'.set j (some (.int (m : Int)))) H') ∧ (∀ σ' H', Pv n.toNat σ' H' → D.nx σ' H')) : tFor (iRng1 (tCons ta tNil)) (gName j) tu D σ H :=
  h.ev H (Ex.refl H) _ fun H1 e => by
    obtain ⟨Pv, h0, hs, hd⟩ := k H1 e
    refine ⟨n, rfl, by omega, by omega, for_range (lo := 0) (n := n.toNat) Pv h0 (fun m σ' H' hm q => ?_) hd⟩
    have e0 : (0 : Int) + (m : Int) = (m : Int) := Int.zero_add _
    show tu { D with nx := Pv (m + 1), ct := Pv (m + 1), bk := D.nx } (σ'.set j (some (.int ((0 : Int) + (m : Int))))) H'
    rw [e0]
    exact hs m σ' H' (by omega) q
theorem r_forR2 {lo n : Int} (h0 : EvR K ta σ H lo) (h : EvR K tb σ H n) (hn : -100000 ≤ lo ∧ lo ≤ 100000 ∧ -100000 ≤ n ∧ n ≤ 100000) (k : ∀ H1, Ex H H1 → ∃ Pv : Nat → L2.St → Hp → Prop, Pv 0 σ H1 ∧
      (∀ (m : Nat) σ' H', lo + (m : Int) < n → Pv m σ' H' → tu { D with nx := Pv (m + 1), ct := Pv (m + 1), bk := tz D } (σ'.set j (some (.int (lo + (m : Int))))) H') ∧ (∀ σ' H', Pv (n - lo).toNat σ' H' → tz D σ' H')) : tSeq (tFor (iRng2 (tCons ta (tCons tb tNil))) (gName j) tu) tz D σ H :=
  h0.ev H (Ex.refl H) _ fun H1 e => h.ev H1 e _ fun H2 e2 => by
    obtain ⟨Pv, h0, hs, hd⟩ := k H2 (e.trans e2)
    exact ⟨lo, n, rfl, by omega, for_range (D := { D with nx := tz D }) (lo := lo) (n := (n - lo).toNat) Pv h0 (fun m σ' H' hm q => hs m σ' H' (by omega) q) hd⟩
theorem r_forR21 {lo n : Int} (h0 : EvR K ta σ H lo) (h : EvR K tb σ H n) (hn : -100000 ≤ lo ∧ lo ≤ 100000 ∧ -100000 ≤ n ∧ n ≤ 100000) (k : ∀ H1, Ex H H1 → ∃ Pv : Nat → L2.St → Hp → Prop, Pv 0 σ H1 ∧
      (∀ (m : Nat) σ' H', lo + (m : Int) < n → Pv m σ' H' → tu { D with nx := Pv (m + 1), ct := Pv (m + 1), bk := D.nx } (σ'.set j (some (.int (lo + (m : Int))))) H') ∧ (∀ σ' H', Pv (n - lo).toNat σ' H' → D.nx σ' H')) : tFor (iRng2 (tCons ta (tCons tb tNil))) (gName j) tu D σ H :=
  h0.ev H (Ex.refl H) _ fun H1 e => h.ev H1 e _ fun H2 e2 => by
    obtain ⟨Pv, h0, hs, hd⟩ := k H2 (e.trans e2)
    exact ⟨lo, n, rfl, by omega, for_range (lo := lo) (n := (n - lo).toNat) Pv h0 (fun m σ' H' hm q => hs m σ' H' (by omega) q) hd⟩
theorem tyes_i {Q : VK} {N : Hp → Prop} (h : te σ H Q) : tYes σ H fun b H3 => if b = true then te σ H3 Q else N H3 := by
  show if true = true then te σ H Q else N H
  rw [if_pos rfl]
  exact h
/-- [e for x in xs] -/
theorem evn_lcL [RepT K β] {tl : TE} {as : List α} {vs : List Nat} (f : α → β) (h : EvR K tl σ H as) (hz : as.length ≤ 100000) (hw : ∀ v, wipe ((wipe σ vs).set j (some v)) vs = wipe σ vs)
    (he : ∀ (n : Nat) (x : α) (v : V) H1, Ex H H1 → as[n]? = some x → rep K H1 v x → EvR K te ((wipe σ vs).set j (some v)) H1 (f x)) : EvN K (tLc (iList K tl) (gName j) tYes te vs) σ H (as.map f) := fun H0 e Q q => h H0 e _ fun v H1 e1 ⟨p, us, ev, hp, rs⟩ =>
  ⟨p, ev, ⟨us, SqL.of hp⟩, fun Dl hD => lc_list (xs := us) (fun n H' => Ex H1 H' ∧ ∃ acc, H' Dl = some (.lst acc) ∧ Paired (rep K H') acc ((as.take n).map f)) ⟨Ex.new hD, [], upd_same, by rw [List.take_zero]; exact .nil⟩ (fun n H' _ c => SqL.of (c.1 _ _ hp))
    (fun n y H' hy c => by
      obtain ⟨x, hx, rx⟩ := paired_get' rs hy
      obtain ⟨c1, acc, c2, c3⟩ := c
      refine ⟨hw y, ?_⟩
      refine tyes_i ?_
      refine he n x y H' ((e.trans e1).trans c1) hx (rmono c1 rx) H' (Ex.refl _) _ fun z H4 e4 rz => ⟨acc, e4 _ _ c2, sz_lt ?_, Ex.mut (c1.trans e4) hD, _, upd_same, ?_⟩
      · rw [c3.length, List.length_map, List.length_take]
        have := (List.getElem?_eq_some_iff.mp hx).1
        omega
      · have hs : as.take (n + 1) = as.take n ++ [x] := by
          rw [List.take_succ, hx]
          rfl
        have hn := not_tup_lst (e4 _ _ c2)
        rw [hs, List.map_append]
        exact paired_append (pstab hn (pmono e4 c3)) (.cons (RepT.stab hn rz) .nil)) (fun H' c => by
      obtain ⟨c1, acc, c2, c3⟩ := c
      rw [rs.length, List.take_length] at c3
      exact q _ _ _ (fresh_back e1 hD) (e1.trans c1) c2 c3)⟩
/-- [e for i in range(lo, hi)], range(hi) -/
def rangeI (lo hi : Int) : List Int := (List.range (hi - lo).toNat).map fun n : Nat => lo + (n : Int)
theorem rangeI_len (lo hi : Int) : (rangeI lo hi).length = (hi - lo).toNat := by unfold rangeI; rw [List.length_map, List.length_range]
theorem mem_rangeI {lo hi x : Int} : x ∈ rangeI lo hi ↔ lo ≤ x ∧ x < hi := by
  unfold rangeI
  rw [List.mem_map]
  constructor
  · rintro ⟨n, h1, rfl⟩
    have := List.mem_range.mp h1
    omega
  · rintro ⟨h1, h2⟩
    exact ⟨(x - lo).toNat, List.mem_range.mpr (by omega), by omega⟩
theorem lcR_core [RepT K β] {lo hi : Int} {vs : List Nat} (f : Int → β) {H0 : Hp} {Q : VK} (hz : (hi - lo).toNat ≤ 100000) (hw : ∀ v, wipe ((wipe σ vs).set j (some v)) vs = wipe σ vs)
    (he : ∀ (x : Int) H1, Ex H H1 → lo ≤ x → x < hi → EvR K te ((wipe σ vs).set j (some (.int x))) H1 (f x)) (e : Ex H H0) (q : ∀ p us H2, H0 p = none → Ex H0 H2 → H2 p = some (.lst us) → Paired (rep K H2) us ((rangeI lo hi).map f) → Q (.ref p) H2)
    (Dl : Addr) (hD : H0 Dl = none) : ∃ W : Nat → Nat → Hp → Prop, (∃ m, W 0 m (upd H0 Dl (.lst []))) ∧ ∀ i m H, W i m H →
      ((Itr lo (hi - lo).toNat).stop i H ∧ Q (.ref Dl) H) ∨ ((Itr lo (hi - lo).toNat).go i H ∧ ∃ Nx : Hp → Prop, (∀ H', Nx H' → ∃ m', m' < m ∧ W (i + 1) m' H') ∧ ∀ x H', (Itr lo (hi - lo).toNat).yld i H x H' → gName j x (wipe σ vs) H' fun σ2 H2 => wipe σ2 vs = wipe σ vs ∧ tYes σ2 H2 fun b H3 =>
        if b = true then te σ2 H3 fun y H4 => ∃ acc, H4 Dl = some (.lst acc) ∧ acc.length < sizeLine ∧ Nx (upd H4 Dl (.lst (acc ++ [y]))) else Nx H3) := by
  refine lc_range (Qd := Q (.ref Dl)) (fun n H' => Ex H0 H' ∧ ∃ acc, H' Dl = some (.lst acc) ∧ Paired (rep K H') acc (((List.range n).map fun n : Nat => lo + (n : Int)).map f)) ⟨Ex.new hD, [], upd_same, .nil⟩ (fun n H' hn c => ?_) (fun H' c => ?_)
  · obtain ⟨c1, acc, c2, c3⟩ := c
    refine ⟨hw _, ?_⟩
    refine tyes_i ?_
    refine he (lo + (n : Int)) H' (e.trans c1) (by omega) (by omega) H' (Ex.refl _) _ fun z H4 e4 rz => ⟨acc, e4 _ _ c2, sz_lt ?_, Ex.mut (c1.trans e4) hD, _, upd_same, ?_⟩
    · rw [c3.length, List.length_map, List.length_map, List.length_range]
      omega
    · have hnt := not_tup_lst (e4 _ _ c2)
      rw [List.range_succ, List.map_append, List.map_append]
      exact paired_append (pstab hnt (pmono e4 c3)) (.cons (RepT.stab hnt rz) .nil)
  · obtain ⟨c1, acc, c2, c3⟩ := c
    exact q _ _ _ hD c1 c2 c3
theorem evn_lcR2 [RepT K β] {lo hi : Int} {vs : List Nat} (f : Int → β) (h0 : EvR K ta σ H lo) (h : EvR K tb σ H hi) (hz : -100000 ≤ lo ∧ lo ≤ 100000 ∧ -100000 ≤ hi ∧ hi ≤ 100000 ∧ (hi - lo).toNat ≤ 100000) (hw : ∀ v, wipe ((wipe σ vs).set j (some v)) vs = wipe σ vs)
    (he : ∀ (x : Int) H1, Ex H H1 → lo ≤ x → x < hi → EvR K te ((wipe σ vs).set j (some (.int x))) H1 (f x)) : EvN K (tLc (iRng2 (tCons ta (tCons tb tNil))) (gName j) tYes te vs) σ H ((rangeI lo hi).map f) := fun H0 e Q q => h0.ev H0 e _ fun H1 e1 => h.ev H1 (e.trans e1) _ fun H2 e2 =>
  ⟨lo, hi, rfl, by omega, lcR_core f hz.2.2.2.2 hw he ((e.trans e1).trans e2) fun p us H3 hp e3 => q p us H3 (fresh_back (e1.trans e2) hp) ((e1.trans e2).trans e3)⟩
theorem evn_lcR1 [RepT K β] {hi : Int} {vs : List Nat} (f : Int → β) (h : EvR K tb σ H hi) (hz : 0 ≤ hi ∧ hi ≤ 100000) (hw : ∀ v, wipe ((wipe σ vs).set j (some v)) vs = wipe σ vs)
    (he : ∀ (x : Int) H1, Ex H H1 → 0 ≤ x → x < hi → EvR K te ((wipe σ vs).set j (some (.int x))) H1 (f x)) : EvN K (tLc (iRng1 (tCons tb tNil)) (gName j) tYes te vs) σ H ((rangeI 0 hi).map f) := fun H0 e Q q => h.ev H0 e _ fun H2 e2 =>
  ⟨hi, rfl, by omega, by omega, by
    have c := lcR_core (lo := 0) (hi := hi) (Q := Q) f (by omega) hw he (e.trans e2) fun p us H3 hp e3 => q p us H3 (fresh_back e2 hp) (e2.trans e3)
    rw [Int.sub_zero] at c
    exact c⟩
end

/-! ### sizes of ints -/
def Bt (n : Nat) (x : Int) : Prop := x.natAbs < 2 ^ n
theorem Bt.mono {a b : Nat} {x : Int} (h : Bt a x) (hab : a ≤ b) : Bt b x := Nat.lt_of_lt_of_le h (Nat.pow_le_pow_right (by decide) hab)
theorem Bt.mul {a b : Nat} {x y : Int} (hx : Bt a x) (hy : Bt b y) : Bt (a + b) (x * y) := by
  unfold Bt
  rw [Int.natAbs_mul, Nat.pow_add]
  exact Nat.mul_lt_mul'' hx hy
theorem Bt.add {a : Nat} {x y : Int} (hx : Bt a x) (hy : Bt a y) : Bt (a + 1) (x + y) := by
  unfold Bt at *
  rw [Nat.pow_succ]
  omega
theorem Bt.sub {a : Nat} {x y : Int} (hx : Bt a x) (hy : Bt a y) : Bt (a + 1) (x - y) := by
  unfold Bt at *
  rw [Nat.pow_succ]
  omega
theorem Bt.le {a : Nat} {x y : Int} (hy : Bt a y) (h0 : 0 ≤ x) (h : x ≤ y) : Bt a x := Nat.lt_of_le_of_lt (by omega) hy
theorem Bt.log {a : Nat} {x : Int} (h : Bt a x) (h0 : 0 < a) : x.natAbs.log2 < a := PySem.Flt.log2_lt_of h0 h
theorem Bt.bits {a : Nat} {x : Int} (h : Bt a x) : Builtin.Int.intBits x ≤ a := by
  unfold Builtin.Int.intBits
  by_cases c : (x == 0) = true
  · rw [if_pos c]; exact Nat.zero_le _
  · rw [if_neg c]
    have c' : x ≠ 0 := fun e => c (by rw [e]; rfl)
    have ha : 0 < a := by
      rcases Nat.eq_zero_or_pos a with z | z
      · subst z
        have h' : x.natAbs < 1 := h
        omega
      · exact z
    exact h.log ha
theorem Bt.of_bits {a : Nat} {x : Int} (h : Builtin.Int.intBits x ≤ a) : Bt a x := by
  unfold Builtin.Int.intBits at h
  unfold Bt
  by_cases c : (x == 0) = true
  · have c' : x = 0 := by simpa using c
    subst c'
    exact Nat.two_pow_pos a
  · rw [if_neg c] at h
    exact Nat.lt_of_lt_of_le Nat.lt_log2_self (Nat.pow_le_pow_right (by decide) h)
theorem Bt.mulOk {a b : Nat} {x y : Int} (hx : Bt a x) (hy : Bt b y) (h : a + b ≤ 134217728) : IntMulOk x y := by
  have h1 := hx.bits
  have h2 := hy.bits
  have e : bitsLine = 134217728 := by decide
  unfold IntMulOk
  intro z
  rw [Bool.and_eq_true] at z
  have z2 := z.2
  unfold Builtin.Int.intTooBig at z2
  have z3 := of_decide_eq_true z2
  rw [e] at z3
  omega
theorem Bt.divOk {b : Nat} {x y : Int} (h0 : 0 < y) (hy : Bt b y) (hb0 : 0 < b) (hb : b ≤ 9000) : CDivX x y := ⟨h0, PyProof.noPylong_of_log2 (Nat.lt_of_lt_of_le (hy.log hb0) hb)⟩
theorem div_small {x y : Int} (h0 : 0 < y) (h1 : y < 1073741824) : CDivX x y := ⟨h0, PyProof.noPylong_small (by omega)⟩
theorem Bt.small {x : Int} {a : Nat} (n : Nat) (h : 2 ^ a = n) (h1 : x.natAbs < n) : Bt a x := by unfold Bt; rw [h]; exact h1
theorem pow_ok {i j : Int} (h : decide (0 ≤ j ∧ j ≤ 1000000 ∧ i.natAbs < 2 ^ 64) = true := by decide) : CPow i j := (of_decide_eq_true h : 0 ≤ j ∧ j ≤ 1000000 ∧ i.natAbs < 2 ^ 64)

/-! ### types, ==, in -/
class RepTy (K : PySem.W.Frag) (α : Type) [Rep K α] where
  tyn : String
  ty : ∀ {H : Hp} {v : V} {a : α}, rep K H v a → TyX K H v (.type tyn)
instance {K : PySem.W.Frag} : RepTy K Int := ⟨"int", fun {_ v a} h => by
  have h : v = V.int a := h
  subst h
  exact .base (.int _)⟩
instance {K : PySem.W.Frag} : RepTy K Bool := ⟨"bool", fun {_ v a} h => by
  have h : v = V.bl a := h
  subst h
  exact .base (.bl _)⟩
instance {K : PySem.W.Frag} : RepTy K Str := ⟨"str", fun {_ v a} h => by
  have h : v = V.str a := h
  subst h
  exact .base (.str _)⟩
instance {K : PySem.W.Frag} : RepTy K Unit := ⟨"NoneType", fun {_ v a} h => by
  have h : v = V.non := h
  subst h
  exact .base .non⟩
instance {K : PySem.W.Frag} {α β : Type} [Rep K α] [Rep K β] : RepTy K (α × β) := ⟨"tuple", fun {_ v a} ⟨p, x, y, h1, h2, _, _⟩ => by
  subst h1
  exact .base (.tup h2)⟩
instance {K : PySem.W.Frag} {α : Type} [Rep K α] : RepTy K (List α) := ⟨"list", fun {_ v a} ⟨p, xs, h1, h2, _⟩ => by
  subst h1
  exact .base (.lst h2)⟩
instance {K : PySem.W.Frag} {α : Type} [Rep K α] : RepTy K (Tu α) := ⟨"tuple", fun {_ v a} ⟨p, xs, h1, h2, _⟩ => by
  subst h1
  exact .base (.tup h2)⟩
class RepD (K : PySem.W.Frag) (α : Type) [Rep K α] [DecidableEq α] where
  toD : α → PyData
  dep : Nat
  dp : ∀ {H : Hp} {v : V} {a : α}, rep K H v a → Dp K H v (toD a)
  eqv : ∀ a b : α, PyData.eqv (toD a) (toD b) = decide (a = b)
  lay : ∀ a : α, (toD a).canLay0 = true ∧ (toD a).depth ≤ dep
instance {K : PySem.W.Frag} : RepD K Int where
  toD := fun i => .int i
  dep := 1
  dp := fun {_ v a} h => by
    have h : v = V.int a := h
    subst h
    exact .int _
  eqv := fun a b => by simp only [PyData.eqv]; exact int_beq a b
  lay := fun a => ⟨by simp [PyData.canLay0], by simp [PyData.depth]⟩
instance {K : PySem.W.Frag} : RepD K Bool where
  toD := fun i => .bool i
  dep := 1
  dp := fun {_ v a} h => by
    have h : v = V.bl a := h
    subst h
    exact .bl _
  eqv := fun a b => by simp only [PyData.eqv]; exact bool_beq a b
  lay := fun a => ⟨by simp [PyData.canLay0], by simp [PyData.depth]⟩
instance {K : PySem.W.Frag} {α β : Type} [DecidableEq α] [DecidableEq β] [Rep K α] [Rep K β] [RepD K α] [RepD K β] : RepD K (α × β) where
  toD := fun a => .tuple [RepD.toD K a.1, RepD.toD K a.2]
  dep := 1 + RepD.dep K α + RepD.dep K β
  dp := fun {_ v a} ⟨p, x, y, h1, h2, h3, h4⟩ => by
    subst h1
    exact .tup (SqT.of h2) (.cons (RepD.dp h3) (.cons (RepD.dp h4) .nil))
  eqv := fun a b => by
    simp only [PyData.eqv, PyData.eqvAll, RepD.eqv, Bool.and_true]
    rw [← Bool.decide_and]
    apply decide_eq_decide.mpr
    exact ⟨fun h => Prod.ext h.1 h.2, fun h => by rw [h]; exact ⟨rfl, rfl⟩⟩
  lay := fun a => ⟨by
      have h1 := (RepD.lay (K := K) a.1).1
      have h2 := (RepD.lay (K := K) a.2).1
      simp [PyData.canLay0, PyData.canLayAll0, h1, h2], by
      have h1 := (RepD.lay (K := K) a.1).2
      have h2 := (RepD.lay (K := K) a.2).2
      simp only [PyData.depth, PyData.depthAll]
      omega⟩
theorem dpAll {K : PySem.W.Frag} {α : Type} [DecidableEq α] [Rep K α] [RepD K α] {H : Hp} : ∀ {vs : List V} {as : List α}, Paired (rep K H) vs as → DpAll K H vs (as.map (RepD.toD K))
  | _, _, .nil => .nil
  | _, _, .cons r t => .cons (RepD.dp r) (dpAll t)
theorem eqvAll_map {K : PySem.W.Frag} {α : Type} [DecidableEq α] [Rep K α] [RepD K α] : ∀ as bs : List α, PyData.eqvAll (as.map (RepD.toD K)) (bs.map (RepD.toD K)) = decide (as = bs)
  | [], [] => by simp [PyData.eqvAll]
  | [], _ :: _ => by simp [PyData.eqvAll]
  | _ :: _, [] => by simp [PyData.eqvAll]
  | a :: as, b :: bs => by
    simp only [List.map_cons, PyData.eqvAll, RepD.eqv, eqvAll_map (K := K) as bs]
    rw [← Bool.decide_and]
    apply decide_eq_decide.mpr
    exact ⟨fun h => by rw [h.1, h.2], fun h => by injection h with h1 h2; exact ⟨h1, h2⟩⟩
theorem layAll_map {K : PySem.W.Frag} {α : Type} [DecidableEq α] [Rep K α] [RepD K α] : ∀ as : List α, PyData.canLayAll0 (as.map (RepD.toD K)) = true ∧ PyData.depthAll (as.map (RepD.toD K)) ≤ RepD.dep K α
  | [] => ⟨by simp [PyData.canLayAll0], by simp [PyData.depthAll]⟩
  | a :: as => by
    obtain ⟨h1, h2⟩ := layAll_map (K := K) as
    obtain ⟨h3, h4⟩ := RepD.lay (K := K) a
    refine ⟨?_, ?_⟩
    · simp only [List.map_cons, PyData.canLayAll0, h1, h3, Bool.and_true]
    · simp only [List.map_cons, PyData.depthAll]
      omega
instance {K : PySem.W.Frag} {α : Type} [DecidableEq α] [Rep K α] [RepD K α] : RepD K (List α) where
  toD := fun as => .list (as.map (RepD.toD K))
  dep := 1 + RepD.dep K α
  dp := fun {_ v a} ⟨p, xs, h1, h2, h3⟩ => by
    subst h1
    exact .lst (SqL.of h2) (dpAll h3)
  eqv := fun a b => by
    show PyData.eqv (.list _) (.list _) = _
    simp only [PyData.eqv]
    exact eqvAll_map (K := K) a b
  lay := fun a => ⟨by
      have h1 := (layAll_map (K := K) a).1
      simp only [PyData.canLay0]; exact h1, by
      have h2 := (layAll_map (K := K) a).2
      simp only [PyData.depth]
      omega⟩
theorem shaped_of {K : PySem.W.Frag} {α : Type} [DecidableEq α] [Rep K α] [RepD K α] (hd : RepD.dep K α ≤ 64) (a : α) : SeqAt.shaped (RepD.toD K a) = true := by
  obtain ⟨h1, h2⟩ := RepD.lay (K := K) a
  unfold SeqAt.shaped
  rw [h1, decide_eq_true (by omega)] <;> rfl
section
variable {K : PySem.W.Frag} {σ : L2.St} {H H' : Hp} {ta tb tc te : TE} {t u : TT} {α β γ : Type} [Rep K α] [Rep K β] [Rep K γ] {a : α} {b : β} {D : Ends} {tu tw tz : TS} {g : TG} {i j : Nat}
theorem evr_isi [RepTy K α] {tn n : String} {b : Bool} (h : EvR K te σ H a) (ht : RepTy.tyn K α = tn) (hk : kitB tn n = some b) : EvR K (tCB (rIsi K) (tCons te (tCons (tC (.ty n)) tNil))) σ H b := fun H1 e Q q => h H1 e _ fun v H2 e2 r =>
  ⟨v, .ty n, _, _, b, rfl, .ty n, RepTy.ty r, kit_ty (by rw [ht]; exact hk), q _ H2 e2 rfl⟩
theorem evr_eqD [DecidableEq α] [RepD K α] {x y : α} (ha : EvR K ta σ H x) (hb : EvR K tb σ H y) (hd : RepD.dep K α ≤ 64 := by exact Nat.le_of_ble_eq_true rfl) : EvR K (tOp (rEqD K) ta tb) σ H (decide (x = y)) := fun H1 e Q q => ha H1 e _ fun v H2 e2 r => hb H2 (e.trans e2) _ fun w H3 e3 r3 =>
  ⟨_, _, RepD.dp (rmono e3 r), RepD.dp r3, shaped_of hd _, shaped_of hd _, q _ H3 (e2.trans e3) (by show V.bl _ = V.bl _; rw [RepD.eqv])⟩
theorem evr_neD [DecidableEq α] [RepD K α] {x y : α} (ha : EvR K ta σ H x) (hb : EvR K tb σ H y) (hd : RepD.dep K α ≤ 64 := by exact Nat.le_of_ble_eq_true rfl) : EvR K (tOp (rNeD K) ta tb) σ H (!decide (x = y)) := fun H1 e Q q => ha H1 e _ fun v H2 e2 r => hb H2 (e.trans e2) _ fun w H3 e3 r3 =>
  ⟨_, _, RepD.dp (rmono e3 r), RepD.dp r3, shaped_of hd _, shaped_of hd _, q _ H3 (e2.trans e3) (by show V.bl _ = V.bl _; rw [RepD.eqv])⟩
theorem dp_scr {x : Scr} {v : V} (h : rep K H v x) : Dp K H v (RepD.toD K x.l) := by
  obtain ⟨p, ev, hp⟩ := h
  subst ev
  exact .lst hp (dpAll (ints_paired _))
theorem evr_neS {x : Scr} {y : List Int} (ha : EvR K ta σ H x) (hb : EvR K tb σ H y) : EvR K (tOp (rNeD K) ta tb) σ H (!decide (x.l = y)) := fun H1 e Q q => ha H1 e _ fun v H2 e2 r => hb H2 (e.trans e2) _ fun w H3 e3 r3 =>
  ⟨_, _, dp_scr (rmono e3 r), RepD.dp r3, shaped_of (Nat.le_of_ble_eq_true rfl) _, shaped_of (Nat.le_of_ble_eq_true rfl) _, q _ H3 (e2.trans e3) (by show V.bl _ = V.bl _; rw [RepD.eqv])⟩
theorem evr_lenS {as : Scr} (ha : EvR K ta σ H as) : EvR K (tCB (rLenS K) (tCons ta tNil)) σ H (as.l.length : Int) := fun H1 e Q q => ha H1 e _ fun v H2 e2 ⟨p, ev, hp⟩ =>
  ⟨p, _, by rw [ev], .inl hp, q _ H2 e2 (by show V.int _ = V.int _; rw [List.length_map])⟩
theorem inV_ints (i : Int) : ∀ ns : List Int, inV (.int i) (ns.map V.int) = decide (i ∈ ns)
  | [] => by simp [inV]
  | n :: ns => by
    have ih := inV_ints i ns
    unfold inV at ih ⊢
    rw [List.map_cons, List.any_cons, ih]
    have e : eqV (V.int n) (V.int i) = (n == i) := rfl
    rw [e]
    by_cases c : n = i
    · subst c; simp
    · have c2 : ¬ i = n := fun z => c z.symm
      simp [c, c2]
theorem flat_ints : ∀ ns : List Int, (ns.map V.int).all flatV = true
  | [] => rfl
  | _ :: ns => by rw [List.map_cons, List.all_cons, flat_ints ns] <;> rfl
theorem evr_inL {i : Int} {ns : List Int} (ha : EvR K ta σ H i) (hb : EvR K tb σ H ns) : EvR K (tOp (rIn K false) ta tb) σ H (decide (i ∈ ns)) := fun H1 e Q q => ha H1 e _ fun v H2 e2 r => hb H2 (e.trans e2) _ fun w H3 e3 ⟨p, vs, ev, hp, rs⟩ => by
  have r : v = V.int i := r
  subst r
  have hv := paired_ints rs
  subst hv
  exact ⟨p, _, ev, .inl (SqL.of hp), rfl, flat_ints ns, q _ H3 (e2.trans e3) (by show V.bl (inV _ _) = V.bl _; rw [inV_ints])⟩
theorem r_ifAsg {x : Bool} {a1 a2 : α} (h : EvT t σ H x) (h1 : x = true → EvR K te σ H a1) (h2 : x = false → ∃ v, σ[i]? = some (some v) ∧ rep K H v a2) (k : ∀ v H1, Ex H H1 → rep K H1 v (if x = true then a1 else a2) → tz D (σ.set i (some v)) H1) : tSeq (tIfS t (tAsg te (gName i)) tNext) tz D σ H :=
  q_when h (fun c H1 e1 => by
    refine (h1 c) H1 e1 _ fun v H2 e2 r => k v H2 (e1.trans e2) ?_
    rw [if_pos c]
    exact r) (fun c H1 e1 => by
    obtain ⟨v, hv, r⟩ := h2 c
    have q := k v H1 e1 (by rw [if_neg (by rw [c]; decide)]; exact rmono e1 r)
    have es : σ.set i (some v) = σ := by
      obtain ⟨hl, he⟩ := List.getElem?_eq_some_iff.mp hv
      rw [← he]
      exact List.set_getElem_self hl
    rw [es] at q
    exact q)
theorem r_ifAsg1 {x : Bool} {a1 a2 : α} (h : EvT t σ H x) (h1 : x = true → EvR K te σ H a1) (h2 : x = false → ∃ v, σ[i]? = some (some v) ∧ rep K H v a2) (k : ∀ v H1, Ex H H1 → rep K H1 v (if x = true then a1 else a2) → D.nx (σ.set i (some v)) H1) : tIfS t (tAsg te (gName i)) tNext D σ H :=
  s_when h (fun c H1 e1 => by
    refine (h1 c) H1 e1 _ fun v H2 e2 r => k v H2 (e1.trans e2) ?_
    rw [if_pos c]
    exact r) (fun c H1 e1 => by
    obtain ⟨v, hv, r⟩ := h2 c
    have q := k v H1 e1 (by rw [if_neg (by rw [c]; decide)]; exact rmono e1 r)
    have es : σ.set i (some v) = σ := by
      obtain ⟨hl, he⟩ := List.getElem?_eq_some_iff.mp hv
      rw [← he]
      exact List.set_getElem_self hl
    rw [es] at q
    exact q)
/-- for x in script -/
theorem r_forS {tl : TE} {as : Scr} (h : EvR K tl σ H as) (k : ∀ H1, Ex H H1 → ∃ Pv : Nat → L2.St → Hp → Prop, Pv 0 σ H1 ∧ (∀ n σ' H', Pv n σ' H' → Ex H1 H') ∧
      (∀ n v (x : Int) σ' H', as.l[n]? = some x → rep K H' v x → Pv n σ' H' → g v σ' H' fun σ2 H2 => tu { D with nx := Pv (n + 1), ct := Pv (n + 1), bk := tz D } σ2 H2) ∧ (∀ σ' H', Pv as.l.length σ' H' → tz D σ' H')) : tSeq (tFor (iList K tl) g tu) tz D σ H :=
  h H (Ex.refl H) _ fun v H1 e ⟨p, ev, hp⟩ => by
    obtain ⟨Pv, h0, hk, hs, hd⟩ := k H1 e
    refine ⟨p, ev, ⟨_, hp⟩, for_list (D := { D with nx := tz D }) Pv h0 (fun n σ' H' _ q => ex_l (hk n σ' H' q) hp) (fun n x σ' H' hx q => ?_) (fun σ' H' q => hd σ' H' (by rw [List.length_map] at q; exact q))⟩
    rw [List.getElem?_map] at hx
    cases e2 : as.l[n]? with
    | none => rw [e2] at hx; cases hx
    | some y =>
      rw [e2] at hx
      exact hs n x y σ' H' e2 (Option.some.inj hx).symm q
theorem r_forS1 {tl : TE} {as : Scr} (h : EvR K tl σ H as) (k : ∀ H1, Ex H H1 → ∃ Pv : Nat → L2.St → Hp → Prop, Pv 0 σ H1 ∧ (∀ n σ' H', Pv n σ' H' → Ex H1 H') ∧
      (∀ n v (x : Int) σ' H', as.l[n]? = some x → rep K H' v x → Pv n σ' H' → g v σ' H' fun σ2 H2 => tu { D with nx := Pv (n + 1), ct := Pv (n + 1), bk := D.nx } σ2 H2) ∧ (∀ σ' H', Pv as.l.length σ' H' → D.nx σ' H')) : tFor (iList K tl) g tu D σ H :=
  h H (Ex.refl H) _ fun v H1 e ⟨p, ev, hp⟩ => by
    obtain ⟨Pv, h0, hk, hs, hd⟩ := k H1 e
    refine ⟨p, ev, ⟨_, hp⟩, for_list Pv h0 (fun n σ' H' _ q => ex_l (hk n σ' H' q) hp) (fun n x σ' H' hx q => ?_) (fun σ' H' q => hd σ' H' (by rw [List.length_map] at q; exact q))⟩
    rw [List.getElem?_map] at hx
    cases e2 : as.l[n]? with
    | none => rw [e2] at hx; cases hx
    | some y =>
      rw [e2] at hx
      exact hs n x y σ' H' e2 (Option.some.inj hx).symm q
/-- [e for x in a pair] -/
theorem evn_lcP [RepT K β] {tl : TE} {ab : Int × Int} {vs : List Nat} (f : Int → β) (h : EvR K tl σ H ab) (hw : ∀ v, wipe ((wipe σ vs).set j (some v)) vs = wipe σ vs)
    (he : ∀ (x : Int) (v : V) H1, Ex H H1 → (x = ab.1 ∨ x = ab.2) → rep K H1 v x → EvR K te ((wipe σ vs).set j (some v)) H1 (f x)) : EvN K (tLc (iTup K tl) (gName j) tYes te vs) σ H ([ab.1, ab.2].map f) := fun H0 e Q q => h H0 e _ fun v H1 e1 ⟨p, x, y, ev, hp, r1, r2⟩ =>
  ⟨p, ev, ⟨_, SqT.of hp⟩, fun Dl hD => lc_tup (xs := [x, y]) (fun n H' => Ex H1 H' ∧ ∃ acc, H' Dl = some (.lst acc) ∧ Paired (rep K H') acc (([ab.1, ab.2].take n).map f)) ⟨Ex.new hD, [], upd_same, by rw [List.take_zero]; exact .nil⟩ (fun n H' _ c => SqT.of (c.1 _ _ hp))
    (fun n z H' hz c => by
      obtain ⟨c1, acc, c2, c3⟩ := c
      refine ⟨hw z, ?_⟩
      refine tyes_i ?_
      have hx : ∃ w : Int, [ab.1, ab.2][n]? = some w ∧ (w = ab.1 ∨ w = ab.2) ∧ rep K H1 z w := by
        match n, hz with
        | 0, hz => exact ⟨ab.1, rfl, .inl rfl, by have := Option.some.inj hz; subst this; exact r1⟩
        | 1, hz => exact ⟨ab.2, rfl, .inr rfl, by have := Option.some.inj hz; subst this; exact r2⟩
        | n + 2, hz => simp at hz
      obtain ⟨w, hx, hm, rx⟩ := hx
      refine he w z H' ((e.trans e1).trans c1) hm (rmono c1 rx) H' (Ex.refl _) _ fun z H4 e4 rz => ⟨acc, e4 _ _ c2, sz_lt ?_, Ex.mut (c1.trans e4) hD, _, upd_same, ?_⟩
      · rw [c3.length, List.length_map, List.length_take]
        show min n 2 < 100000
        omega
      · have hs : [ab.1, ab.2].take (n + 1) = [ab.1, ab.2].take n ++ [w] := by
          rw [List.take_succ, hx]
          rfl
        have hn := not_tup_lst (e4 _ _ c2)
        rw [hs, List.map_append]
        exact paired_append (pstab hn (pmono e4 c3)) (.cons (RepT.stab hn rz) .nil)) (fun H' c => by
      obtain ⟨c1, acc, c2, c3⟩ := c
      exact q _ _ _ (fresh_back e1 hD) (e1.trans c1) c2 c3)⟩
end
end Mt
namespace Mt
theorem no_root (n : Int) : ∀ (k : Nat) (r y : Int), r.toNat ≤ k → 0 < r → r < y → y * y - r * r ≠ n * (y * r) := by
  intro k
  induction k with
  | zero => intro r y h h0 _; omega
  | succ k ih =>
    intro r y hk h0 h1 e
    have e2 : y * (y - n * r) = r * r := by grind
    have hz : 0 < y - n * r := by
      have hrr : 0 < r * r := Int.mul_pos h0 h0
      rcases Int.lt_or_le 0 (y - n * r) with h | h
      · exact h
      · exfalso
        have := Int.mul_nonneg (show 0 ≤ y by omega) (show 0 ≤ -(y - n * r) by omega)
        grind
    have hz2 : y - n * r < r := by
      rcases Int.lt_or_le (y - n * r) r with h | h
      · exact h
      · exfalso
        have h3 : r * r < y * (y - n * r) := Int.lt_of_lt_of_le (Int.mul_lt_mul_of_pos_right h1 h0) (Int.mul_le_mul_of_nonneg_left h (by omega))
        omega
    refine ih (y - n * r) r (by omega) hz hz2 ?_
    grind

/-- the worth by the greater and the lesser -/
def wHL (x y : Int) : Int := (x * x - y * y) / (x * y)
theorem wHL_eq {x y k : Int} (hx : 0 < x) (hy : 0 < y) (h1 : k * (x * y) ≤ x * x - y * y) (h2 : x * x - y * y < (k + 1) * (x * y)) : wHL x y = k := by
  have hp : 0 < x * y := Int.mul_pos hx hy
  unfold wHL
  refine Int.le_antisymm ?_ ?_
  · have := (Int.ediv_lt_iff_lt_mul hp).mpr h2
    omega
  · exact (Int.le_ediv_iff_mul_le hp).mpr h1
theorem wHL_bounds {x y : Int} (hx : 0 < x) (hy : 0 < y) : wHL x y * (x * y) ≤ x * x - y * y ∧ x * x - y * y < (wHL x y + 1) * (x * y) := by
  have hp : 0 < x * y := Int.mul_pos hx hy
  unfold wHL
  constructor
  · exact Int.ediv_mul_le _ (by omega)
  · exact Int.lt_ediv_add_one_mul_self _ hp
theorem wHL_nonneg {x y : Int} (hy : 0 < y) (h : y ≤ x) : 0 ≤ wHL x y := by
  have hp : 0 < x * y := Int.mul_pos (by omega) hy
  unfold wHL
  refine Int.ediv_nonneg ?_ (by omega)
  have := Int.mul_le_mul h h (by omega) (by omega)
  omega
/-- a multiple -/
theorem wHL_mul {y s : Int} (hy : 0 < y) (hs : 1 ≤ s) : wHL (s * y) y = s - 1 := by
  have h0 : 0 < s * y := Int.mul_pos (by omega) hy
  have hyy : 0 < y * y := Int.mul_pos hy hy
  have h1 : y * y ≤ s * y * y := by
    have := Int.mul_le_mul_of_nonneg_right hs (show 0 ≤ y * y by omega)
    grind
  refine wHL_eq h0 hy ?_ ?_
  · grind
  · grind
/-- s times and a rest, by the worth of the lesser number and the rest -/
theorem wHL_rest {y r s : Int} (h0 : 0 < r) (h1 : r < y) (hs : 1 ≤ s) : wHL (s * y + r) y = if s ≤ wHL y r then s - 1 else s := by
  have hy : 0 < y := by omega
  have hsy : y ≤ s * y := by
    have := Int.mul_le_mul_of_nonneg_right hs (show 0 ≤ y by omega)
    omega
  have hx : 0 < s * y + r := by omega
  have hyr : 0 < y * r := Int.mul_pos hy h0
  have hyy : 0 < y * y := Int.mul_pos hy hy
  obtain ⟨b1, b2⟩ := wHL_bounds hy h0
  have b3 := no_root (wHL y r) r.toNat r y (Nat.le_refl _) h0 h1
  have hxy : y * y ≤ (s * y + r) * y := by
    have := Int.mul_le_mul_of_nonneg_right (show y ≤ s * y + r by omega) (show 0 ≤ y by omega)
    omega
  have hxr : 0 < (s * y + r) * r := Int.mul_pos hx h0
  have hry : (s * y + r) * r < (s * y + r) * y := Int.mul_lt_mul_of_pos_left h1 hx
  split
  · rename_i h
    have h3 : s * (y * r) ≤ wHL y r * (y * r) := Int.mul_le_mul_of_nonneg_right h (by omega)
    refine wHL_eq hx hy ?_ ?_
    · grind
    · grind
  · rename_i h
    have h3 : (wHL y r + 1) * (y * r) ≤ s * (y * r) := Int.mul_le_mul_of_nonneg_right (by omega) (by omega)
    refine wHL_eq hx hy ?_ ?_
    · grind
    · grind
/-! ### pairs -/
def hi (p : Int × Int) : Int := max p.1 p.2
def lo (p : Int × Int) : Int := min p.1 p.2
def Pos (p : Int × Int) : Prop := 0 < p.1 ∧ 0 < p.2
def mostOf (p : Int × Int) : Int := if p.1 ≠ p.2 then (hi p - 1) / lo p else 0
def takenOf (p : Int × Int) (t : Int) : Int × Int := if p.2 < p.1 then (p.1 - t * p.2, p.2) else (p.1, p.2 - t * p.1)
def worthOf (p : Int × Int) : Int := (hi p * hi p - lo p * lo p) / (hi p * lo p)
def swap (p : Int × Int) : Int × Int := (p.2, p.1)
theorem hi_swap (p : Int × Int) : hi (swap p) = hi p := by unfold hi swap; simp only; omega
theorem lo_swap (p : Int × Int) : lo (swap p) = lo p := by unfold lo swap; simp only; omega
theorem Pos.swap {p : Int × Int} (h : Pos p) : Pos (swap p) := ⟨h.2, h.1⟩
theorem worth_swap (p : Int × Int) : worthOf (swap p) = worthOf p := by unfold worthOf; rw [hi_swap, lo_swap]
theorem most_swap (p : Int × Int) : mostOf (swap p) = mostOf p := by
  unfold mostOf
  rw [hi_swap, lo_swap]
  unfold swap
  simp only [ne_eq, eq_comm]
theorem taken_swap {p : Int × Int} (t : Int) (h : p.1 ≠ p.2) : takenOf (swap p) t = swap (takenOf p t) := by
  unfold takenOf swap
  simp only
  by_cases c : p.2 < p.1
  · rw [if_neg (by omega), if_pos c]
  · rw [if_pos (by omega), if_neg c]
theorem worth_eq (p : Int × Int) : worthOf p = wHL (hi p) (lo p) := rfl
theorem lo_pos {p : Int × Int} (h : Pos p) : 0 < lo p := by unfold lo; have := h.1; have := h.2; omega
theorem hi_pos {p : Int × Int} (h : Pos p) : 0 < hi p := by unfold hi; have := h.1; omega
theorem lo_le_hi (p : Int × Int) : lo p ≤ hi p := by unfold lo hi; omega
theorem worth_nonneg {p : Int × Int} (h : Pos p) : 0 ≤ worthOf p := wHL_nonneg (lo_pos h) (lo_le_hi p)
theorem most_nonneg {p : Int × Int} (h : Pos p) : 0 ≤ mostOf p := by
  have h1 := lo_pos h
  have h2 := hi_pos h
  unfold mostOf
  split
  · exact Int.ediv_nonneg (by omega) (by omega)
  · exact Int.le_refl 0
/-- the most takings, alike ones too -/
theorem most_form {p : Int × Int} (h : Pos p) : (hi p - 1) / lo p = mostOf p := by
  unfold mostOf
  split
  · rfl
  · rename_i e
    have e : p.1 = p.2 := by omega
    have h1 := lo_pos h
    have h2 : hi p = lo p := by unfold hi lo; omega
    rw [h2]
    exact Int.ediv_eq_zero_of_lt (by omega) (by omega)
/-- what a pair x > y is: quotient and rest -/
structure Spl (x y q r : Int) : Prop where
  hy : 0 < y
  hxy : y < x
  e : x = q * y + r
  r0 : 0 ≤ r
  r1 : r < y
theorem Spl.of {x y : Int} (hy : 0 < y) (h : y < x) : Spl x y (x / y) (x % y) := ⟨hy, h, by have := Int.mul_ediv_add_emod x y; grind, Int.emod_nonneg _ (by omega), Int.emod_lt_of_pos _ hy⟩
theorem Spl.q1 {x y q r : Int} (s : Spl x y q r) : 1 ≤ q := by
  obtain ⟨hy, h, e, r0, r1⟩ := s
  rcases Int.lt_or_le 0 q with z | z
  · omega
  · have := Int.mul_le_mul_of_nonneg_right z (show 0 ≤ y by omega)
    omega
theorem Spl.q2 {x y q : Int} (s : Spl x y q 0) : 2 ≤ q := by
  obtain ⟨hy, h, e, r0, r1⟩ := s
  rcases Int.lt_or_le 1 q with z | z
  · omega
  · have := Int.mul_le_mul_of_nonneg_right z (show 0 ≤ y by omega)
    omega
theorem Spl.whole {x y q r : Int} (s : Spl x y q r) : x / y = q := by
  obtain ⟨hy, h, e, r0, r1⟩ := s
  subst e
  rw [Int.add_comm, Int.add_mul_ediv_right _ _ (by omega), Int.ediv_eq_zero_of_lt r0 r1]
  omega
theorem Spl.most {x y q r : Int} (s : Spl x y q r) : (x - 1) / y = if r = 0 then q - 1 else q := by
  obtain ⟨hy, h, e, r0, r1⟩ := s
  split
  · rename_i z
    subst z
    have e2 : x - 1 = (y - 1) + (q - 1) * y := by grind
    rw [e2, Int.add_mul_ediv_right _ _ (by omega), Int.ediv_eq_zero_of_lt (by omega) (by omega)]
    omega
  · have e2 : x - 1 = (r - 1) + q * y := by omega
    rw [e2, Int.add_mul_ediv_right _ _ (by omega), Int.ediv_eq_zero_of_lt (by omega) (by omega)]
    omega
theorem Spl.worth {x y q r : Int} (s : Spl x y q r) : wHL x y = if r = 0 then q - 1 else if q ≤ wHL y r then q - 1 else q := by
  have q1 := s.q1
  obtain ⟨hy, h, e, r0, r1⟩ := s
  subst e
  split
  · rename_i z
    subst z
    rw [Int.add_zero]
    exact wHL_mul hy q1
  · rename_i z
    exact wHL_rest (by omega) r1 q1
def wP (a b : Int) : Int := wHL (max a b) (min a b)
theorem worth_wP (p : Int × Int) : worthOf p = wP p.1 p.2 := rfl
theorem wP_comm (a b : Int) : wP a b = wP b a := by
  unfold wP
  rw [show max a b = max b a by omega, show min a b = min b a by omega]
theorem wP_ge {a b : Int} (h : b ≤ a) : wP a b = wHL a b := by
  unfold wP
  rw [show max a b = a by omega, show min a b = b by omega]
/-- the worth behind a taking -/
theorem Spl.behind {x y q r t : Int} (s : Spl x y q r) (h1 : 1 ≤ t) (h2 : t ≤ (x - 1) / y) :
    wP (x - t * y) y = if r = 0 then q - t - 1 else if t = q then wHL y r else if q - t ≤ wHL y r then q - t - 1 else q - t := by
  rw [s.most] at h2
  obtain ⟨hy, h, e, r0, r1⟩ := s
  subst e
  split at h2
  · rename_i z
    subst z
    rw [if_pos rfl]
    have e2 : q * y + 0 - t * y = (q - t) * y := by grind
    have h3 : y ≤ (q - t) * y := by
      have := Int.mul_le_mul_of_nonneg_right (show 1 ≤ q - t by omega) (show 0 ≤ y by omega)
      omega
    rw [e2, wP_ge h3]
    exact wHL_mul hy (by omega)
  · rename_i z
    rw [if_neg z]
    have e2 : q * y + r - t * y = (q - t) * y + r := by grind
    rw [e2]
    split
    · rename_i u
      subst u
      rw [Int.sub_self, Int.zero_mul, Int.zero_add, wP_comm, wP_ge (by omega)]
    · rename_i u
      have h3 : y ≤ (q - t) * y := by
        have := Int.mul_le_mul_of_nonneg_right (show 1 ≤ q - t by omega) (show 0 ≤ y by omega)
        omega
      rw [wP_ge (by omega)]
      exact wHL_rest (by omega) r1 (by omega)
/-- no taking leaves the worth -/
theorem Spl.ne {x y q r t : Int} (s : Spl x y q r) (h1 : 1 ≤ t) (h2 : t ≤ (x - 1) / y) : wP (x - t * y) y ≠ wHL x y := by
  rw [s.behind h1 h2, s.worth]
  split
  · omega
  · split
    · split <;> omega
    · split <;> split <;> omega
/-- each lesser worth is left by one of three takings -/
theorem Spl.hit {x y q r v : Int} (s : Spl x y q r) (h0 : 0 ≤ v) (h1 : v < wHL x y) :
    ∃ t, (t = q - v - 1 ∨ t = q - v ∨ t = (x - 1) / y) ∧ 1 ≤ t ∧ t ≤ (x - 1) / y ∧ wP (x - t * y) y = v := by
  have hw := s.worth
  have hm := s.most
  have hq := s.q1
  by_cases z : r = 0
  · rw [if_pos z] at hw hm
    refine ⟨q - v - 1, .inl rfl, by omega, by omega, ?_⟩
    rw [s.behind (by omega) (by omega), if_pos z]
    omega
  · rw [if_neg z] at hw hm
    rcases Int.lt_trichotomy v (wHL y r) with c | c | c
    · have hq2 : v + 1 < q := by split at hw <;> omega
      refine ⟨q - v - 1, .inl rfl, by omega, by omega, ?_⟩
      rw [s.behind (by omega) (by omega), if_neg z, if_neg (by omega), if_pos (by omega)]
      omega
    · refine ⟨(x - 1) / y, .inr (.inr rfl), by omega, by omega, ?_⟩
      rw [s.behind (by omega) (by omega), if_neg z, if_pos hm]
      exact c.symm
    · have hn : 0 ≤ wHL y r := wHL_nonneg (by have := s.r0; omega) (by have := s.r1; omega)
      have hq2 : v < q := by split at hw <;> omega
      refine ⟨q - v, .inr (.inl rfl), by omega, by omega, ?_⟩
      rw [s.behind (by omega) (by omega), if_neg z, if_neg (by omega), if_neg (by omega)]
      omega
/-! ### .. of pairs -/
theorem most_lt {p : Int × Int} {t : Int} (h : Pos p) (h1 : 1 ≤ t) (h2 : t ≤ mostOf p) : p.1 ≠ p.2 := by
  intro e
  unfold mostOf at h2
  rw [if_neg (by omega)] at h2
  omega
theorem taken_hl {p : Int × Int} {t : Int} (h : Pos p) (ne : p.1 ≠ p.2) : worthOf (takenOf p t) = wP (hi p - t * lo p) (lo p) := by
  rw [worth_wP]
  unfold takenOf
  by_cases c : p.2 < p.1
  · rw [if_pos c]
    unfold hi lo
    rw [show max p.1 p.2 = p.1 by omega, show min p.1 p.2 = p.2 by omega]
  · rw [if_neg c]
    unfold hi lo
    rw [show max p.1 p.2 = p.2 by omega, show min p.1 p.2 = p.1 by omega]
    exact wP_comm _ _
theorem lo_lt_hi {p : Int × Int} (ne : p.1 ≠ p.2) : lo p < hi p := by unfold lo hi; omega
theorem worth_ne {p : Int × Int} {t : Int} (h : Pos p) (h1 : 1 ≤ t) (h2 : t ≤ mostOf p) : worthOf (takenOf p t) ≠ worthOf p := by
  have ne := most_lt h h1 h2
  rw [taken_hl h ne, worth_eq]
  exact (Spl.of (lo_pos h) (lo_lt_hi ne)).ne h1 (by rw [most_form h]; exact h2)
theorem worth_hit {p : Int × Int} {v : Int} (h : Pos p) (h0 : 0 ≤ v) (h1 : v < worthOf p) :
    ∃ t, (t = hi p / lo p - v - 1 ∨ t = hi p / lo p - v ∨ t = mostOf p) ∧ 1 ≤ t ∧ t ≤ mostOf p ∧ worthOf (takenOf p t) = v := by
  have ne : p.1 ≠ p.2 := by
    intro e
    have e2 : hi p = lo p := by unfold hi lo; omega
    have := wHL_mul (lo_pos h) (Int.le_refl 1)
    rw [Int.one_mul] at this
    rw [worth_eq, e2, this] at h1
    omega
  obtain ⟨t, c, a, b, e⟩ := (Spl.of (lo_pos h) (lo_lt_hi ne)).hit h0 h1
  rw [most_form h] at c b
  exact ⟨t, c, a, b, by rw [taken_hl h ne]; exact e⟩
theorem taken_pos {p : Int × Int} {t : Int} (h : Pos p) (h1 : 1 ≤ t) (h2 : t ≤ mostOf p) : Pos (takenOf p t) := by
  have ne := most_lt h h1 h2
  have hl := lo_pos h
  rw [← most_form h, Int.le_ediv_iff_mul_le hl] at h2
  obtain ⟨a, b⟩ := h
  unfold takenOf
  by_cases c : p.2 < p.1
  · rw [if_pos c]
    rw [show hi p = p.1 by unfold hi; omega, show lo p = p.2 by unfold lo; omega] at h2
    exact ⟨by show 0 < p.1 - t * p.2; omega, b⟩
  · rw [if_neg c]
    rw [show hi p = p.2 by unfold hi; omega, show lo p = p.1 by unfold lo; omega] at h2
    exact ⟨a, by show 0 < p.2 - t * p.1; omega⟩
end Mt

namespace Mt
/-! ### worths together, bit by bit -/
def nim : List Nat → Nat
  | [] => 0
  | w :: ws => w ^^^ nim ws
theorem nim_set : ∀ (ws : List Nat) (i : Nat) (v w : Nat), ws[i]? = some w → nim (ws.set i v) = nim ws ^^^ (w ^^^ v)
  | [], _, _, _, h => by simp at h
  | a :: r, 0, v, w, h => by
    have e : a = w := by simpa using h
    subst e
    show v ^^^ nim r = (a ^^^ nim r) ^^^ (a ^^^ v)
    rw [Nat.xor_comm a (nim r), Nat.xor_assoc, ← Nat.xor_assoc a a v, Nat.xor_self, Nat.zero_xor, Nat.xor_comm]
  | a :: r, i + 1, v, w, h => by
    have ih := nim_set r i v w (by simpa using h)
    show a ^^^ nim (r.set i v) = (a ^^^ nim r) ^^^ (w ^^^ v)
    rw [ih, Nat.xor_assoc]
theorem nim_bit (k : Nat) : ∀ ws : List Nat, (nim ws).testBit k = true → ∃ (i w : Nat), ws[i]? = some w ∧ w.testBit k = true
  | [], h => by simp [nim] at h
  | a :: r, h => by
    cases ha : a.testBit k with
    | true => exact ⟨0, a, rfl, ha⟩
    | false =>
      have h2 : (nim r).testBit k = true := by
        have h' : (a ^^^ nim r).testBit k = true := h
        rw [Nat.testBit_xor, ha] at h'
        simpa using h'
      obtain ⟨i, w, e, b⟩ := nim_bit k r h2
      exact ⟨i + 1, w, by simpa using e, b⟩
theorem lt_of_bit : ∀ (k x y : Nat), x.testBit k = false → y.testBit k = true → (∀ j, k < j → x.testBit j = y.testBit j) → x < y
  | 0, x, y, h1, h2, h => by
    rw [Nat.testBit_zero] at h1 h2
    have e : x / 2 = y / 2 := Nat.eq_of_testBit_eq fun i => by
      have := h (i + 1) (by omega)
      rw [Nat.testBit_add_one, Nat.testBit_add_one] at this
      exact this
    have h1 := of_decide_eq_false h1
    have h2 := of_decide_eq_true h2
    omega
  | k + 1, x, y, h1, h2, h => by
    rw [Nat.testBit_add_one] at h1 h2
    have ih := lt_of_bit k (x / 2) (y / 2) h1 h2 fun j hj => by
      have := h (j + 1) (by omega)
      rw [Nat.testBit_add_one, Nat.testBit_add_one] at this
      exact this
    omega
theorem top_bit {x : Nat} (h : x ≠ 0) : ∃ k, x.testBit k = true ∧ ∀ j, k < j → x.testBit j = false := by
  refine ⟨x.log2, Nat.testBit_log2 h, fun j hj => ?_⟩
  exact Nat.testBit_lt_two_pow (Nat.lt_of_lt_of_le Nat.lt_log2_self (Nat.pow_le_pow_right (by decide) hj))
theorem nim_hit {ws : List Nat} (h : nim ws ≠ 0) : ∃ (i w : Nat), ws[i]? = some w ∧ w ^^^ nim ws < w := by
  obtain ⟨k, h1, h2⟩ := top_bit h
  obtain ⟨i, w, e, b⟩ := nim_bit k ws h1
  refine ⟨i, w, e, lt_of_bit k _ _ ?_ b fun j hj => ?_⟩
  · rw [Nat.testBit_xor, h1, b]; rfl
  · rw [Nat.testBit_xor, h2 j hj]; simp
theorem nim_append (a b : List Nat) : nim (a ++ b) = nim a ^^^ nim b := by
  induction a with
  | nil => simp [nim]
  | cons x r ih =>
    show x ^^^ nim (r ++ b) = (x ^^^ nim r) ^^^ nim b
    rw [ih, Nat.xor_assoc]
theorem nim_fold (ws : List Nat) : ∀ z : Nat, ws.foldl (fun acc w => acc ^^^ w) z = z ^^^ nim ws := by
  induction ws with
  | nil => intro z; simp [nim]
  | cons x r ih =>
    intro z
    show r.foldl (fun acc w => acc ^^^ w) (z ^^^ x) = z ^^^ (x ^^^ nim r)
    rw [ih, Nat.xor_assoc]
theorem nim_perm {a b : List Nat} (h : a.Perm b) : nim a = nim b := by
  induction h with
  | nil => rfl
  | cons x _ ih => show x ^^^ nim _ = x ^^^ nim _; rw [ih]
  | swap x y l =>
    show y ^^^ (x ^^^ nim l) = x ^^^ (y ^^^ nim l)
    rw [← Nat.xor_assoc, Nat.xor_comm y x, Nat.xor_assoc]
  | trans _ _ h1 h2 => exact h1.trans h2
/-- x ^ y for whole numbers from 0 on -/
def xr (x y : Int) : Int := ((x.toNat ^^^ y.toNat : Nat) : Int)
end Mt

namespace Mt
open PySem PySem.Spec L2 Evl PyProof.Rows
/-! ### pairs that are small enough -/
structure Sm (p : Int × Int) : Prop where
  pos : Pos p
  b1 : Bt 1000 p.1
  b2 : Bt 1000 p.2
theorem Sm.hi {p : Int × Int} (h : Sm p) : Bt 1000 (max p.1 p.2) := by
  rcases Int.le_total p.1 p.2 with c | c
  · rw [Int.max_eq_right c]; exact h.b2
  · rw [Int.max_eq_left c]; exact h.b1
theorem Sm.lo {p : Int × Int} (h : Sm p) : Bt 1000 (min p.1 p.2) := by
  rcases Int.le_total p.1 p.2 with c | c
  · rw [Int.min_eq_left c]; exact h.b1
  · rw [Int.min_eq_right c]; exact h.b2
theorem Sm.swap {p : Int × Int} (h : Sm p) : Sm (swap p) := ⟨h.pos.swap, h.b2, h.b1⟩
theorem Sm.swap' {p : Int × Int} (h : Sm p) : Sm (p.2, p.1) := h.swap
theorem most_le {p : Int × Int} (h : Pos p) : mostOf p ≤ hi p := by
  have h1 := lo_pos h
  have h2 := hi_pos h
  rw [← most_form h]
  have := Int.ediv_le_self (lo p) (show 0 ≤ Mt.hi p - 1 by omega)
  omega
theorem Sm.most {p : Int × Int} (h : Sm p) : Bt 1000 (mostOf p) := h.hi.le (most_nonneg h.pos) (most_le h.pos)
theorem taken_le {p : Int × Int} {t : Int} (h : Pos p) (h1 : 1 ≤ t) (h2 : t ≤ mostOf p) : (takenOf p t).1 ≤ p.1 ∧ (takenOf p t).2 ≤ p.2 := by
  have a := h.1
  have b := h.2
  unfold takenOf
  split
  · exact ⟨by show p.1 - t * p.2 ≤ p.1; have := Int.mul_nonneg (show 0 ≤ t by omega) (show 0 ≤ p.2 by omega); omega, Int.le_refl _⟩
  · exact ⟨Int.le_refl _, by show p.2 - t * p.1 ≤ p.2; have := Int.mul_nonneg (show 0 ≤ t by omega) (show 0 ≤ p.1 by omega); omega⟩
theorem Sm.taken {p : Int × Int} {t : Int} (h : Sm p) (h1 : 1 ≤ t) (h2 : t ≤ mostOf p) : Sm (takenOf p t) := by
  obtain ⟨a, b⟩ := taken_le h.pos h1 h2
  have q := taken_pos h.pos h1 h2
  exact ⟨q, h.b1.le (Int.le_of_lt q.1) a, h.b2.le (Int.le_of_lt q.2) b⟩
theorem Sm.div {p : Int × Int} (h : Sm p) (x : Int) : CDivX x (min p.1 p.2) := Bt.divOk (lo_pos h.pos) h.lo (by decide) (by decide)
theorem Sm.worthDiv {p : Int × Int} (h : Sm p) (x : Int) : CDivX x (max p.1 p.2 * min p.1 p.2) := Bt.divOk (Int.mul_pos (hi_pos h.pos) (lo_pos h.pos)) (h.hi.mul h.lo) (by decide) (by decide)
theorem all_num (p : Int × Int) (h : Pos p) : ([p.1, p.2].map fun xc => (true && decide (0 < xc))).all id = true := by
  have a := h.1
  have b := h.2
  simp [a, b]
theorem worth_le {p : Int × Int} (h : Pos p) : worthOf p ≤ hi p := by
  have h1 := lo_pos h
  have h2 := hi_pos h
  have hp : 0 < hi p * lo p := Int.mul_pos h2 h1
  unfold worthOf
  have h3 : hi p * hi p - lo p * lo p ≤ hi p * (hi p * lo p) := by
    have a := Int.mul_le_mul_of_nonneg_left (show (1 : Int) ≤ lo p by omega) (show 0 ≤ hi p * hi p from Int.mul_nonneg (by omega) (by omega))
    have b : 0 ≤ lo p * lo p := Int.mul_nonneg (by omega) (by omega)
    have c : hi p * hi p * lo p = hi p * (hi p * lo p) := Int.mul_assoc _ _ _
    omega
  have h4 := Int.ediv_le_ediv hp h3
  rw [Int.mul_ediv_cancel _ (by omega)] at h4
  exact h4
theorem Sm.worth {p : Int × Int} (h : Sm p) : Bt 1000 (worthOf p) := h.hi.le (worth_nonneg h.pos) (worth_le h.pos)
end Mt
namespace Mt
open PySem PySem.Spec L2 Evl PyProof.Rows
theorem rep_eq {K : PySem.W.Frag} {α : Type} [Rep K α] {H : Hp} {v : V} {a b : α} (h : rep K H v a) (e : a = b) : rep K H v b := e ▸ h
/-! ### the law's own number -/
def lnMixed (cell at_ whole : Int) : Int := (((cell + 977 * at_) * 48271) + whole) % 2147483647
def lnMore (cell at_ whole : Int) : Int := lnMixed cell at_ whole * ((cell + 31 * at_) + 7)
def lawNumber (cell at_ whole : Int) : Int :=
  if ((10 : Int) ^ (18 : Int).toNat) ≤ cell then cell / (1 + at_ % 7)
  else ((lnMore cell at_ whole * ((lnMixed cell at_ whole + cell) + 5)) * (lnMixed cell at_ whole * lnMixed cell at_ whole + 11)) / (1009 + at_)
theorem bt_of {x : Int} (a : Nat) {lo hi : Int} (h0 : lo ≤ x) (h1 : x ≤ hi) (ha : -lo < 2 ^ a) (hb : hi < 2 ^ a) : Bt a x := by
  unfold Bt
  have e : ((2 ^ a : Nat) : Int) = (2 : Int) ^ a := by simp
  omega
theorem num_at {at_ : Int} (h : 0 ≤ at_ ∧ at_ ≤ 100000) : Bt 17 at_ := bt_of 17 h.1 h.2 (by decide) (by decide)
theorem bt_c {x : Int} (a : Nat) (h : decide (x.natAbs < 2 ^ a) = true := by decide) : Bt a x := (of_decide_eq_true h : x.natAbs < 2 ^ a)
theorem num_m1 {at_ : Int} (h : 0 ≤ at_ ∧ at_ ≤ 100000) : IntMulOk 977 at_ := (bt_c 10).mulOk (num_at h) (by decide)
theorem num_m3 {at_ : Int} (h : 0 ≤ at_ ∧ at_ ≤ 100000) : IntMulOk 31 at_ := (bt_c 5).mulOk (num_at h) (by decide)
theorem num_b1 {c at_ : Int} (hc : Bt 1048576 c) (h : 0 ≤ at_ ∧ at_ ≤ 100000) : Bt 1048577 (c + 977 * at_) := hc.add (((bt_c (x := 977) 10).mul (num_at h)).mono (by decide))
theorem num_m2 {c at_ : Int} (hc : Bt 1048576 c) (h : 0 ≤ at_ ∧ at_ ≤ 100000) : IntMulOk (c + 977 * at_) 48271 := (num_b1 hc h).mulOk (bt_c 16) (by decide)
theorem mixed_rng (c a w : Int) : 0 ≤ lnMixed c a w ∧ lnMixed c a w < 2147483647 := ⟨Int.emod_nonneg _ (by decide), Int.emod_lt_of_pos _ (by decide)⟩
theorem num_mixed (c a w : Int) : Bt 31 (lnMixed c a w) := by
  obtain ⟨h0, h1⟩ := mixed_rng c a w
  exact bt_of 31 h0 (Int.le_of_lt h1) (by decide) (by decide)
theorem num_b2 {c at_ : Int} (hc : Bt 1048576 c) (h : 0 ≤ at_ ∧ at_ ≤ 100000) : Bt 1048578 ((c + 31 * at_) + 7) := (hc.add (((bt_c (x := 31) 5).mul (num_at h)).mono (by decide))).add ((bt_c 3).mono (by decide))
theorem num_m4 {c at_ w : Int} (hc : Bt 1048576 c) (h : 0 ≤ at_ ∧ at_ ≤ 100000) : IntMulOk (lnMixed c at_ w) ((c + 31 * at_) + 7) := (num_mixed c at_ w).mulOk (num_b2 hc h) (by decide)
theorem num_m5 {c at_ w : Int} : IntMulOk (lnMixed c at_ w) (lnMixed c at_ w) := (num_mixed c at_ w).mulOk (num_mixed c at_ w) (by decide)
theorem num_more {c at_ w : Int} (hc : Bt 1048576 c) (h : 0 ≤ at_ ∧ at_ ≤ 100000) : Bt 1048609 (lnMore c at_ w) := ((num_mixed c at_ w).mul (num_b2 hc h)).mono (by decide)
theorem num_b3 {c at_ w : Int} (hc : Bt 1048576 c) : Bt 1048578 ((lnMixed c at_ w + c) + 5) := (((num_mixed c at_ w).mono (by decide)).add hc).add ((bt_c 3).mono (by decide))
theorem num_m6 {c at_ w : Int} (hc : Bt 1048576 c) (h : 0 ≤ at_ ∧ at_ ≤ 100000) : IntMulOk (lnMore c at_ w) ((lnMixed c at_ w + c) + 5) := (num_more hc h).mulOk (num_b3 hc) (by decide)
theorem num_m7 {c at_ w : Int} (hc : Bt 1048576 c) (h : 0 ≤ at_ ∧ at_ ≤ 100000) : IntMulOk (lnMore c at_ w * ((lnMixed c at_ w + c) + 5)) (lnMixed c at_ w * lnMixed c at_ w + 11) :=
  ((num_more hc h).mul (num_b3 hc)).mulOk (((num_mixed c at_ w).mul (num_mixed c at_ w)).add ((bt_c 4).mono (by decide))) (by decide)
/-! ### the law's own pair -/
def lpCells (s : Scr) : List Int := if (!decide (s.l = ([] : List Int))) = true then cutA s.l none (some 63) else [3]
def lpWhole (s : Scr) : Int := (lpCells s).sum
def lpCell (s : Scr) (at_ : Int) : Int := (lpCells s).getD (at_ % ((lpCells s).length : Int)).toNat 0
def lpNumber (s : Scr) (at_ : Int) : Int := lawNumber (lpCell s at_) at_ (lpWhole s)
def lpWide (s : Scr) (at_ : Int) : Int := [(9 : Int), 60, (10 : Int) ^ (6 : Int).toNat, (10 : Int) ^ (30 : Int).toNat].getD ((lpWhole s + at_) % 4).toNat 0
def lpOne (s : Scr) (at_ : Int) : Int := 1 + lpNumber s at_ / 7 % lpWide s at_
def lpOther0 (s : Scr) (at_ : Int) : Int := 1 + lpNumber s at_ / 5 % (lpWide s at_ + 3)
def lpKind (s : Scr) (at_ : Int) : Int := (lpNumber s at_ / 3 + at_) % 8
def lpOther1 (s : Scr) (at_ : Int) : Int := if decide (lpKind s at_ = 0) = true then lpOne s at_ * (1 + lpNumber s at_ / 11 % 9) else lpOther0 s at_
def lpOther2 (s : Scr) (at_ : Int) : Int := if decide (lpKind s at_ = 1) = true then lpOne s at_ + lpNumber s at_ % 2 else lpOther1 s at_
def lpOther3 (s : Scr) (at_ : Int) : Int := if decide (lpKind s at_ = 2) = true then lpOne s at_ * (lpNumber s at_ / 13 % ((10 : Int) ^ (6 : Int).toNat) + 1) + lpOther2 s at_ % lpOne s at_ else lpOther2 s at_
def fibs : Nat → Int × Int → Int × Int
  | 0, p => p
  | n + 1, p => ((fibs n p).2, (fibs n p).1 + (fibs n p).2)
theorem fibs1 (n : Nat) (p : Int × Int) : (fibs (n + 1) p).1 = (fibs n p).2 := rfl
theorem fibs2 (n : Nat) (p : Int × Int) : (fibs (n + 1) p).2 = (fibs n p).1 + (fibs n p).2 := rfl
def lpFib (s : Scr) (at_ : Int) : Int × Int := if decide (lpKind s at_ = 3) = true then fibs (lpNumber s at_ / 9 % 40).toNat (lpOne s at_, lpOther3 s at_) else (lpOne s at_, lpOther3 s at_)
def lawPair (s : Scr) (at_ : Int) : Int × Int := if decide (lpNumber s at_ / 17 % 2 = 0) = true then lpFib s at_ else ((lpFib s at_).2, (lpFib s at_).1)
theorem lp_ne (s : Scr) : 0 < (lpCells s).length := by
  unfold lpCells
  by_cases c : s.l = []
  · rw [c]; decide
  · rw [if_pos (by simp [c]), show (some 63 : Option Int) = some ((63 : Nat) : Int) from rfl, cutA_to, List.length_take]
    have := List.length_pos_iff.mpr c
    omega
theorem lp_len (s : Scr) : (0 : Int) < ((lpCells s).length : Int) := by have := lp_ne s; omega
theorem lp_ix0 (s : Scr) (at_ : Int) : 0 ≤ at_ % ((lpCells s).length : Int) := Int.emod_nonneg _ (by have := lp_len s; omega)
theorem lp_ix (s : Scr) (at_ : Int) : (lpCells s)[(at_ % ((lpCells s).length : Int)).toNat]? = some (lpCell s at_) := by
  have h0 := lp_ix0 s at_
  have h1 := Int.emod_lt_of_pos at_ (lp_len s)
  unfold lpCell
  rw [List.getD_eq_getElem?_getD, List.getElem?_eq_getElem (by omega)]
  rfl
theorem lp_mem {s : Scr} {z : Int} (h : z ∈ lpCells s) : z ∈ s.l ∨ z = 3 := by
  unfold lpCells at h
  split at h
  · rw [show (some 63 : Option Int) = some ((63 : Nat) : Int) from rfl, cutA_to] at h
    exact .inl (List.mem_of_mem_take h)
  · exact .inr (by simpa using h)
theorem lp_bt (s : Scr) (at_ : Int) (h : ∀ z ∈ s.l, Bt 1048576 z) : Bt 1048576 (lpCell s at_) := by
  rcases lp_mem (List.mem_of_getElem? (lp_ix s at_)) with c | c
  · exact h _ c
  · rw [c]; exact (bt_c 2).mono (by decide)
theorem lp_w0 (s : Scr) (at_ : Int) : 0 ≤ (lpWhole s + at_) % 4 := Int.emod_nonneg _ (by decide)
theorem lp_w (s : Scr) (at_ : Int) : [(9 : Int), 60, (10 : Int) ^ (6 : Int).toNat, (10 : Int) ^ (30 : Int).toNat][((lpWhole s + at_) % 4).toNat]? = some (lpWide s at_) := by
  have h0 := lp_w0 s at_
  have h1 := Int.emod_lt_of_pos (lpWhole s + at_) (show (0 : Int) < 4 by decide)
  unfold lpWide
  rw [List.getD_eq_getElem?_getD, List.getElem?_eq_getElem (by show _ < 4; omega)]
  rfl
theorem lp_wide_mem (s : Scr) (at_ : Int) : 9 ≤ lpWide s at_ ∧ lpWide s at_ ≤ 10 ^ 30 := by
  have h := List.mem_of_getElem? (lp_w s at_)
  simp only [List.mem_cons, List.not_mem_nil, or_false] at h
  rcases h with h | h | h | h
  · rw [h]; decide
  · rw [h]; decide
  · rw [h]; decide
  · rw [h]; decide
theorem lp_wide (s : Scr) (at_ : Int) : 0 < lpWide s at_ := by have := lp_wide_mem s at_; omega
theorem lp_wide3 (s : Scr) (at_ : Int) : 0 < lpWide s at_ + 3 := by have := lp_wide_mem s at_; omega
theorem lp_one_rng (s : Scr) (at_ : Int) : 0 < lpOne s at_ ∧ lpOne s at_ ≤ 10 ^ 30 := by
  have h := lp_wide_mem s at_
  have h0 := Int.emod_nonneg (lpNumber s at_ / 7) (show lpWide s at_ ≠ 0 by omega)
  have h1 := Int.emod_lt_of_pos (lpNumber s at_ / 7) (lp_wide s at_)
  unfold lpOne
  omega
theorem lp_one (s : Scr) (at_ : Int) : 0 < lpOne s at_ := (lp_one_rng s at_).1
theorem lp_one_bt (s : Scr) (at_ : Int) : Bt 100 (lpOne s at_) := bt_of 100 (Int.le_of_lt (lp_one s at_)) (lp_one_rng s at_).2 (by decide) (by decide)
theorem rng_a (x : Int) : 0 ≤ x % 9 ∧ x % 9 < 9 := ⟨Int.emod_nonneg _ (by decide), Int.emod_lt_of_pos _ (by decide)⟩
theorem rng_b (x : Int) : 0 ≤ x % ((10 : Int) ^ (6 : Int).toNat) ∧ x % ((10 : Int) ^ (6 : Int).toNat) < 1000000 := ⟨Int.emod_nonneg _ (by decide), Int.emod_lt_of_pos _ (by decide)⟩
theorem bt_a (x : Int) : Bt 4 (1 + x % 9) := by
  have h := rng_a x
  exact bt_of (lo := 0) (hi := 10) 4 (by omega) (by omega) (by decide) (by decide)
theorem bt_b (x : Int) : Bt 20 (x % ((10 : Int) ^ (6 : Int).toNat) + 1) := by
  have h := rng_b x
  exact bt_of (lo := 0) (hi := 1000000) 20 (by omega) (by omega) (by decide) (by decide)
theorem lp_mul1 (s : Scr) (at_ x : Int) : IntMulOk (lpOne s at_) (1 + x % 9) := (lp_one_bt s at_).mulOk (bt_a x) (by decide)
theorem lp_mul2 (s : Scr) (at_ x : Int) : IntMulOk (lpOne s at_) (x % ((10 : Int) ^ (6 : Int).toNat) + 1) := (lp_one_bt s at_).mulOk (bt_b x) (by decide)
theorem lp_rng (s : Scr) (at_ : Int) : 0 ≤ lpNumber s at_ / 9 % 40 ∧ lpNumber s at_ / 9 % 40 ≤ 100000 := by
  have h0 := Int.emod_nonneg (lpNumber s at_ / 9) (show (40 : Int) ≠ 0 by decide)
  have h1 := Int.emod_lt_of_pos (lpNumber s at_ / 9) (show (0 : Int) < 40 by decide)
  omega
theorem lp_fib1 (s : Scr) (at_ : Int) (h : decide (lpKind s at_ = 3) = true) : (fibs (lpNumber s at_ / 9 % 40).toNat (lpOne s at_, lpOther3 s at_)).1 = (lpFib s at_).1 ∧ (fibs (lpNumber s at_ / 9 % 40).toNat (lpOne s at_, lpOther3 s at_)).2 = (lpFib s at_).2 := by
  unfold lpFib
  rw [if_pos h]
  exact ⟨rfl, rfl⟩
theorem lp_fib2 (s : Scr) (at_ : Int) (h : decide (lpKind s at_ = 3) = false) : lpOne s at_ = (lpFib s at_).1 ∧ lpOther3 s at_ = (lpFib s at_).2 := by
  unfold lpFib
  rw [if_neg (by rw [h]; decide)]
  exact ⟨rfl, rfl⟩
theorem lp_end (s : Scr) (at_ : Int) : (if decide (lpNumber s at_ / 17 % 2 = 0) = true then ((lpFib s at_).1, (lpFib s at_).2) else ((lpFib s at_).2, (lpFib s at_).1)) = lawPair s at_ := rfl
/-! ### .. is small enough -/
theorem lp_o0 (s : Scr) (at_ : Int) : 0 < lpOther0 s at_ ∧ Bt 101 (lpOther0 s at_) := by
  have h := lp_wide_mem s at_
  have h0 := Int.emod_nonneg (lpNumber s at_ / 5) (show lpWide s at_ + 3 ≠ 0 by omega)
  have h1 := Int.emod_lt_of_pos (lpNumber s at_ / 5) (lp_wide3 s at_)
  unfold lpOther0
  exact ⟨by omega, bt_of (lo := 0) (hi := 10 ^ 30 + 4) 101 (by omega) (by omega) (by decide) (by decide)⟩
theorem lp_o1 (s : Scr) (at_ : Int) : 0 < lpOther1 s at_ ∧ Bt 105 (lpOther1 s at_) := by
  unfold lpOther1
  split
  · exact ⟨Int.mul_pos (lp_one s at_) (by have := rng_a (lpNumber s at_ / 11); omega), ((lp_one_bt s at_).mul (bt_a _)).mono (by decide)⟩
  · exact ⟨(lp_o0 s at_).1, (lp_o0 s at_).2.mono (by decide)⟩
theorem lp_o2 (s : Scr) (at_ : Int) : 0 < lpOther2 s at_ ∧ Bt 106 (lpOther2 s at_) := by
  unfold lpOther2
  split
  · have h0 := Int.emod_nonneg (lpNumber s at_) (show (2 : Int) ≠ 0 by decide)
    have h1 := Int.emod_lt_of_pos (lpNumber s at_) (show (0 : Int) < 2 by decide)
    exact ⟨by have := lp_one s at_; omega, ((lp_one_bt s at_).add (bt_of (lo := 0) (hi := 2) 100 h0 (by omega) (by decide) (by decide))).mono (by decide)⟩
  · exact ⟨(lp_o1 s at_).1, (lp_o1 s at_).2.mono (by decide)⟩
theorem lp_o3 (s : Scr) (at_ : Int) : 0 < lpOther3 s at_ ∧ Bt 130 (lpOther3 s at_) := by
  unfold lpOther3
  split
  · have h0 := Int.emod_nonneg (lpOther2 s at_) (show lpOne s at_ ≠ 0 by have := lp_one s at_; omega)
    have h1 := Int.emod_lt_of_pos (lpOther2 s at_) (lp_one s at_)
    have h2 := Int.mul_pos (lp_one s at_) (show 0 < lpNumber s at_ / 13 % ((10 : Int) ^ (6 : Int).toNat) + 1 by have := rng_b (lpNumber s at_ / 13); omega)
    exact ⟨by omega, ((((lp_one_bt s at_).mul (bt_b _)).mono (by decide)).add (((lp_one_bt s at_).le h0 (Int.le_of_lt h1)).mono (b := 129) (by decide))).mono (by decide)⟩
  · exact ⟨(lp_o2 s at_).1, (lp_o2 s at_).2.mono (by decide)⟩
theorem fibs_sm (p : Int × Int) (b : Nat) (h : Pos p) (h1 : Bt b p.1) (h2 : Bt b p.2) : ∀ n, Pos (fibs n p) ∧ Bt (b + n) (fibs n p).1 ∧ Bt (b + n) (fibs n p).2
  | 0 => ⟨h, h1, h2⟩
  | n + 1 => by
    obtain ⟨⟨a1, a2⟩, a3, a4⟩ := fibs_sm p b h h1 h2 n
    exact ⟨⟨a2, by show 0 < (fibs n p).1 + (fibs n p).2; omega⟩, a4.mono (Nat.le_succ _), a3.add a4⟩
theorem fib_sm (s : Scr) (at_ : Int) : Sm (lpFib s at_) := by
  have h0 : Pos (lpOne s at_, lpOther3 s at_) := ⟨lp_one s at_, (lp_o3 s at_).1⟩
  unfold lpFib
  split
  · have h := lp_rng s at_
    have h1 := Int.emod_lt_of_pos (lpNumber s at_ / 9) (show (0 : Int) < 40 by decide)
    obtain ⟨a, b, c⟩ := fibs_sm (lpOne s at_, lpOther3 s at_) 130 h0 ((lp_one_bt s at_).mono (by decide)) (lp_o3 s at_).2 (lpNumber s at_ / 9 % 40).toNat
    exact ⟨a, b.mono (by omega), c.mono (by omega)⟩
  · exact ⟨h0, (lp_one_bt s at_).mono (by decide), (lp_o3 s at_).2.mono (by decide)⟩
theorem fib_bt (s : Scr) (at_ : Int) : Bt 180 (lpFib s at_).1 ∧ Bt 180 (lpFib s at_).2 := by
  have h0 : Pos (lpOne s at_, lpOther3 s at_) := ⟨lp_one s at_, (lp_o3 s at_).1⟩
  unfold lpFib
  split
  · have h := lp_rng s at_
    have h1 := Int.emod_lt_of_pos (lpNumber s at_ / 9) (show (0 : Int) < 40 by decide)
    obtain ⟨a, b, c⟩ := fibs_sm (lpOne s at_, lpOther3 s at_) 130 h0 ((lp_one_bt s at_).mono (by decide)) (lp_o3 s at_).2 (lpNumber s at_ / 9 % 40).toNat
    exact ⟨b.mono (by omega), c.mono (by omega)⟩
  · exact ⟨(lp_one_bt s at_).mono (by decide), (lp_o3 s at_).2.mono (by decide)⟩
theorem lawPair_bt (s : Scr) (at_ : Int) : Bt 180 (lawPair s at_).1 ∧ Bt 180 (lawPair s at_).2 := by
  have h := fib_bt s at_
  unfold lawPair
  split
  · exact h
  · exact ⟨h.2, h.1⟩
theorem lawPair_sm (s : Scr) (at_ : Int) : Sm (lawPair s at_) := by
  have h := fib_sm s at_
  unfold lawPair
  split
  · exact h
  · exact h.swap'
theorem smc {p : Int × Int} (h : (decide (0 < p.1) && decide (0 < p.2) && decide (p.1.natAbs < 2 ^ 200) && decide (p.2.natAbs < 2 ^ 200)) = true) : Sm p := by
  simp only [Bool.and_eq_true, decide_eq_true_eq] at h
  exact ⟨⟨h.1.1.1, h.1.1.2⟩, (show Bt 200 p.1 from h.1.2).mono (by decide), (show Bt 200 p.2 from h.2).mono (by decide)⟩
/-- an item by a remainder -/
def getM (l : List Int) (z : Int) : Int := l.getD (z % (l.length : Int)).toNat 0
theorem getM_ix {l : List Int} (h : l ≠ []) (z : Int) : l[(z % (l.length : Int)).toNat]? = some (getM l z) := by
  have hl := List.length_pos_iff.mpr h
  have h0 := Int.emod_nonneg z (show (l.length : Int) ≠ 0 by omega)
  have h1 := Int.emod_lt_of_pos z (show (0 : Int) < (l.length : Int) by omega)
  unfold getM
  rw [List.getD_eq_getElem?_getD, List.getElem?_eq_getElem (by omega)]
  rfl
theorem rng1 {m : Int} (h : 0 < m) (z : Int) : 1 ≤ 1 + z % m ∧ 1 + z % m ≤ m := by
  have h0 := Int.emod_nonneg z (show m ≠ 0 by omega)
  have h1 := Int.emod_lt_of_pos z h
  omega
def cellsOf (s : Scr) (z : Int) : List Int := if (!decide (s.l = ([] : List Int))) = true then cutA s.l none (some 63) else [z]
theorem cells_len (s : Scr) (z : Int) : (cellsOf s z).length ≤ 63 := by
  unfold cellsOf
  split
  · rw [show (some 63 : Option Int) = some ((63 : Nat) : Int) from rfl, cutA_to, List.length_take]
    omega
  · show 1 ≤ 63
    decide
theorem cells_pos (s : Scr) (z : Int) : 0 < (cellsOf s z).length := by
  unfold cellsOf
  by_cases c : s.l = []
  · rw [c]; exact Nat.one_pos
  · rw [if_pos (by simp [c]), show (some 63 : Option Int) = some ((63 : Nat) : Int) from rfl, cutA_to, List.length_take]
    have := List.length_pos_iff.mpr c
    omega
theorem cells_mem {s : Scr} {z x : Int} (h : x ∈ cellsOf s z) : x ∈ s.l ∨ x = z := by
  unfold cellsOf at h
  split at h
  · rw [show (some 63 : Option Int) = some ((63 : Nat) : Int) from rfl, cutA_to] at h
    exact .inl (List.mem_of_mem_take h)
  · exact .inr (by simpa using h)
theorem cells0 (s : Scr) (z : Int) : (cellsOf s z)[(0 : Int).toNat]? = some ((cellsOf s z).getD 0 0) := by
  have := cells_pos s z
  rw [List.getD_eq_getElem?_getD]
  show (cellsOf s z)[0]? = _
  rw [List.getElem?_eq_getElem this]
  rfl
theorem cell_bt {s : Scr} {z x : Int} (h : ∀ y ∈ s.l, Bt 1048576 y) (hx : x ∈ s.l ∨ x = z) (hz : Bt 1048576 z := by exact (bt_c 7).mono (by decide)) : Bt 1048576 x := by
  rcases hx with c | c
  · exact h _ c
  · rw [c]; exact hz
end Mt
namespace Mt
/-! ### the row of quotients -/
def euF : Nat → Int → Int → List Int × Int
  | 0, h, _ => ([], h)
  | n + 1, h, l => if 0 < l then (h / l :: (euF n l (h % l)).1, (euF n l (h % l)).2) else ([], h)
inductive Eu : Int → Int → List Int → Int → Prop
  | stop {h l : Int} : ¬ 0 < l → Eu h l [] h
  | step {h l : Int} {r : List Int} {g : Int} : 0 < l → Eu l (h % l) r g → Eu h l (h / l :: r) g
theorem euF_eu : ∀ (n : Nat) (h l : Int), l.toNat < n → Eu h l (euF n h l).1 (euF n h l).2
  | 0, _, _, hn => absurd hn (Nat.not_lt_zero _)
  | n + 1, h, l, hn => by
    unfold euF
    by_cases c : 0 < l
    · rw [if_pos c]
      have h1 := Int.emod_lt_of_pos h c
      have h0 := Int.emod_nonneg h (show l ≠ 0 by omega)
      exact .step c (euF_eu n l (h % l) (by omega))
    · rw [if_neg c]
      exact .stop c
theorem Eu.pos {h l : Int} {r : List Int} {g : Int} (e : Eu h l r g) (c : 0 < l) : ∃ r', r = h / l :: r' ∧ Eu l (h % l) r' g := by
  cases e with
  | stop n => exact absurd c n
  | step _ e => exact ⟨_, rfl, e⟩
theorem Eu.non {h l : Int} {r : List Int} {g : Int} (e : Eu h l r g) (c : ¬ 0 < l) : r = [] ∧ g = h := by
  cases e with
  | stop n => exact ⟨rfl, rfl⟩
  | step d e => exact absurd d c
theorem Eu.det {h l : Int} {r r' : List Int} {g g' : Int} (e : Eu h l r g) : Eu h l r' g' → r' = r ∧ g' = g := by
  induction e generalizing r' g' with
  | stop n => intro e'; exact e'.non n
  | step c e ih =>
    intro e'
    obtain ⟨s, rfl, e''⟩ := e'.pos c
    obtain ⟨rfl, rfl⟩ := ih e''
    exact ⟨rfl, rfl⟩
theorem Eu.all {h l : Int} {r : List Int} {g : Int} (e : Eu h l r g) : l ≤ h → ∀ x ∈ r, 1 ≤ x ∧ x ≤ h := by
  induction e with
  | stop n => intro _ x hx; cases hx
  | @step h l r g c e ih =>
    intro hl x hx
    have h1 := Int.emod_lt_of_pos h c
    rcases List.mem_cons.mp hx with d | d
    · rw [d]
      exact ⟨(Int.le_ediv_iff_mul_le c).mpr (by omega), Int.ediv_le_self _ (by omega)⟩
    · have := ih (by omega) x d
      omega
theorem Eu.last {h l : Int} {r : List Int} {g : Int} (e : Eu h l r g) : 0 < l → l < h → ∃ x, r.getLast? = some x ∧ 1 < x := by
  induction e with
  | stop n => intro c; exact absurd c n
  | @step h l r g c e ih =>
    intro _ hl
    have h1 := Int.emod_lt_of_pos h c
    have h0 := Int.emod_nonneg h (show l ≠ 0 by omega)
    by_cases d : 0 < h % l
    · obtain ⟨x, hx, hx1⟩ := ih d h1
      refine ⟨x, ?_, hx1⟩
      rw [List.getLast?_cons, hx]
      rfl
    · have hh := (e.non d).1
      subst hh
      refine ⟨h / l, rfl, ?_⟩
      have h2 := Int.mul_ediv_add_emod h l
      rcases Int.lt_or_le 1 (h / l) with z | z
      · exact z
      · exfalso
        have := Int.mul_le_mul_of_nonneg_left z (show 0 ≤ l by omega)
        omega
theorem Eu.g_rng {h l : Int} {r : List Int} {g : Int} (e : Eu h l r g) : 0 < h → 0 ≤ l → 1 ≤ g ∧ g ≤ max h l := by
  induction e with
  | stop n => intro hh hl; omega
  | @step h l r g c e ih =>
    intro hh hl
    have h1 := Int.emod_lt_of_pos h c
    have h0 := Int.emod_nonneg h (show l ≠ 0 by omega)
    have := ih c h0
    omega
theorem Eu.len {h l : Int} {r : List Int} {g : Int} (e : Eu h l r g) : ∀ n : Nat, l < 2 ^ n → r.length ≤ 2 * n + 1 := by
  have key : ∀ (k : Nat) (h l : Int) (r : List Int) (g : Int), r.length ≤ k → Eu h l r g → ∀ n : Nat, l < 2 ^ n → r.length ≤ 2 * n := by
    intro k
    induction k with
    | zero => intro h l r g hk e n hn; omega
    | succ k ih =>
      intro h l r g hk e n hn
      cases e with
      | stop c => simp
      | step c e1 =>
        have h1 := Int.emod_lt_of_pos h c
        have h0 := Int.emod_nonneg h (show l ≠ 0 by omega)
        match n, hn with
        | 0, hn => exfalso; have : (2 : Int) ^ 0 = 1 := rfl; omega
        | n + 1, hn =>
          cases e1 with
          | stop d => simp; omega
          | step d e2 =>
            have h2 := Int.emod_lt_of_pos l d
            have h3 := Int.mul_ediv_add_emod l (h % l)
            have h4 : 1 ≤ l / (h % l) := (Int.le_ediv_iff_mul_le d).mpr (by omega)
            have h5 := Int.mul_le_mul_of_nonneg_left h4 (show 0 ≤ h % l by omega)
            have h6 : (2 : Int) ^ (n + 1) = 2 ^ n * 2 := rfl
            have := ih _ _ _ _ (by simp at hk; omega) e2 n (by omega)
            simp only [List.length_cons]
            omega
  intro n hn
  have := key r.length h l r g (Nat.le_refl _) e n hn
  omega
/-! ### the pair of a row -/
def bstp (s : Int × Int) (q : Int) : Int × Int := (q * s.1 + s.2, s.1)
def backR : List Int → Int → Int × Int
  | [], g => (g, 0)
  | q :: r, g => bstp (backR r g) q
theorem backR_foldl (r : List Int) (g : Int) : r.reverse.foldl bstp (g, 0) = backR r g := by
  rw [List.foldl_reverse]
  induction r with
  | nil => rfl
  | cons q r ih => rw [List.foldr_cons, ih]; rfl
theorem Eu.back {h l : Int} {r : List Int} {g : Int} (e : Eu h l r g) : 0 ≤ l → backR r g = (h, l) := by
  induction e with
  | stop n => intro c; unfold backR; exact Prod.ext rfl (by show (0 : Int) = _; omega)
  | @step h l r g c e ih =>
    intro _
    have h0 := Int.emod_nonneg h (show l ≠ 0 by omega)
    unfold backR
    rw [ih h0]
    unfold bstp
    refine Prod.ext ?_ rfl
    show h / l * l + h % l = h
    rw [Int.mul_comm]
    exact Int.mul_ediv_add_emod h l
structure GoodRow (r : List Int) : Prop where
  pos : ∀ x ∈ r, 1 ≤ x
  last : r.length = 1 ∨ ∃ x, r.getLast? = some x ∧ 1 < x
theorem back_strict {g : Int} (hg : 1 ≤ g) : ∀ r : List Int, r ≠ [] → (∀ x ∈ r, 1 ≤ x) → (∃ x, r.getLast? = some x ∧ 1 < x) → 1 ≤ (backR r g).2 ∧ (backR r g).2 < (backR r g).1
  | [], h, _, _ => absurd rfl h
  | [q], _, _, ⟨x, hx, hx1⟩ => by
    have e : q = x := Option.some.inj hx
    subst e
    show 1 ≤ g ∧ g < q * g + 0
    have := Int.mul_le_mul_of_nonneg_right (show 2 ≤ q by omega) (show 0 ≤ g by omega)
    omega
  | q :: q' :: r, _, hp, ⟨x, hx, hx1⟩ => by
    have ih := back_strict hg (q' :: r) (by simp) (fun y hy => hp y (List.mem_cons_of_mem _ hy)) ⟨x, by rw [List.getLast?_cons_cons] at hx; exact hx, hx1⟩
    have hq := hp q List.mem_cons_self
    show 1 ≤ (backR (q' :: r) g).1 ∧ (backR (q' :: r) g).1 < q * (backR (q' :: r) g).1 + (backR (q' :: r) g).2
    have := Int.mul_le_mul_of_nonneg_right hq (show 0 ≤ (backR (q' :: r) g).1 by omega)
    omega
theorem back_eu {g : Int} (hg : 1 ≤ g) : ∀ r : List Int, r ≠ [] → GoodRow r → Eu (backR r g).1 (backR r g).2 r g ∧ 1 ≤ (backR r g).2 ∧ (backR r g).2 ≤ (backR r g).1
  | [], h, _ => absurd rfl h
  | [q], _, hr => by
    have hq := hr.pos q List.mem_cons_self
    have e : q * g + 0 = q * g := Int.add_zero _
    show Eu (q * g + 0) g [q] g ∧ 1 ≤ g ∧ g ≤ q * g + 0
    rw [e]
    have h1 : q * g / g = q := Int.mul_ediv_cancel q (by omega)
    have h2 : q * g % g = 0 := Int.mul_emod_left q g
    refine ⟨?_, hg, ?_⟩
    · have := Eu.step (h := q * g) (l := g) (r := []) (g := g) (by omega) (by rw [h2]; exact .stop (by decide))
      rw [h1] at this
      exact this
    · have := Int.mul_le_mul_of_nonneg_right hq (show 0 ≤ g by omega)
      omega
  | q :: q' :: r, _, hr => by
    have hq := hr.pos q List.mem_cons_self
    have hl : ∃ x, (q' :: r).getLast? = some x ∧ 1 < x := by
      rcases hr.last with h | ⟨x, hx, hx1⟩
      · simp at h
      · exact ⟨x, by rw [List.getLast?_cons_cons] at hx; exact hx, hx1⟩
    have hp : ∀ x ∈ q' :: r, 1 ≤ x := fun y hy => hr.pos y (List.mem_cons_of_mem _ hy)
    obtain ⟨ih, i1, i2⟩ := back_eu hg (q' :: r) (by simp) ⟨hp, .inr hl⟩
    obtain ⟨s1, s2⟩ := back_strict hg (q' :: r) (by simp) hp hl
    show Eu (q * (backR (q' :: r) g).1 + (backR (q' :: r) g).2) (backR (q' :: r) g).1 (q :: q' :: r) g ∧ 1 ≤ (backR (q' :: r) g).1 ∧ (backR (q' :: r) g).1 ≤ q * (backR (q' :: r) g).1 + (backR (q' :: r) g).2
    generalize (backR (q' :: r) g).1 = h at *
    generalize (backR (q' :: r) g).2 = l at *
    have h1 : (q * h + l) / h = q := by
      rw [Int.add_comm, Int.add_mul_ediv_right _ _ (by omega), Int.ediv_eq_zero_of_lt (by omega) s2, Int.zero_add]
    have h2 : (q * h + l) % h = l := by
      rw [Int.add_comm, Int.add_mul_emod_self_right, Int.emod_eq_of_lt (by omega) s2]
    refine ⟨?_, by omega, ?_⟩
    · have := Eu.step (h := q * h + l) (l := h) (r := q' :: r) (g := g) (by omega) (by rw [h2]; exact ih)
      rw [h1] at this
      exact this
    · have := Int.mul_le_mul_of_nonneg_right hq (show 0 ≤ h by omega)
      omega
end Mt

namespace Mt
open PySem PySem.Spec L2 Evl PyProof.Rows
/-! ### rows of pairs -/
structure Sq (p : Int × Int) : Prop where
  pos : Pos p
  b1 : Bt 5000 p.1
  b2 : Bt 5000 p.2
theorem Sq.hi {p : Int × Int} (h : Sq p) : Bt 5000 (max p.1 p.2) := by
  rcases Int.le_total p.1 p.2 with c | c
  · rw [Int.max_eq_right c]; exact h.b2
  · rw [Int.max_eq_left c]; exact h.b1
theorem Sq.lo {p : Int × Int} (h : Sq p) : Bt 5000 (min p.1 p.2) := by
  rcases Int.le_total p.1 p.2 with c | c
  · rw [Int.min_eq_left c]; exact h.b1
  · rw [Int.min_eq_right c]; exact h.b2
theorem Sq.swap {p : Int × Int} (h : Sq p) : Sq (p.2, p.1) := ⟨⟨h.pos.2, h.pos.1⟩, h.b2, h.b1⟩
def rowOf (p : Int × Int) : List Int := (euF ((min p.1 p.2).toNat + 1) (max p.1 p.2) (min p.1 p.2)).1
def comOf (p : Int × Int) : Int := (euF ((min p.1 p.2).toNat + 1) (max p.1 p.2) (min p.1 p.2)).2
abbrev quoOf (p : Int × Int) : List Int × Int := (rowOf p, comOf p)
theorem row_eu (p : Int × Int) : Eu (max p.1 p.2) (min p.1 p.2) (rowOf p) (comOf p) := euF_eu _ _ _ (by omega)
theorem mm_rng {p : Int × Int} (h : Pos p) : 1 ≤ min p.1 p.2 ∧ min p.1 p.2 ≤ max p.1 p.2 := by have := h.1; have := h.2; omega
theorem row_len {p : Int × Int} {n : Nat} (h : Pos p) (hb : Bt n (min p.1 p.2)) : (rowOf p).length ≤ 2 * n + 1 := (row_eu p).len n (by
  unfold Bt at hb
  have e : ((2 ^ n : Nat) : Int) = (2 : Int) ^ n := by simp
  have := mm_rng h
  omega)
theorem row_swap (p : Int × Int) : rowOf (p.2, p.1) = rowOf p := by
  unfold rowOf
  rw [show max (p.2, p.1).1 (p.2, p.1).2 = max p.1 p.2 from Int.max_comm _ _, show min (p.2, p.1).1 (p.2, p.1).2 = min p.1 p.2 from Int.min_comm _ _]
theorem com_swap (p : Int × Int) : comOf (p.2, p.1) = comOf p := by
  unfold comOf
  rw [show max (p.2, p.1).1 (p.2, p.1).2 = max p.1 p.2 from Int.max_comm _ _, show min (p.2, p.1).1 (p.2, p.1).2 = min p.1 p.2 from Int.min_comm _ _]
theorem row_rng {p : Int × Int} (h : Pos p) : ∀ x ∈ rowOf p, 1 ≤ x ∧ x ≤ max p.1 p.2 := (row_eu p).all (mm_rng h).2
theorem row_one {p : Int × Int} (h : Pos p) (e : p.1 = p.2) : rowOf p = [1] := by
  have h0 := h.1
  have e1 := row_eu p
  rw [show max p.1 p.2 = p.1 by omega, show min p.1 p.2 = p.1 by omega] at e1
  have d1 := Int.ediv_self (a := p.1) (by omega)
  have d2 : p.1 % p.1 = 0 := Int.emod_self
  obtain ⟨r', e2, e3⟩ := e1.pos h0
  rw [d2] at e3
  rw [e2, d1, (e3.non (by decide)).1]
theorem row_last {p : Int × Int} (h : Pos p) (e : p.1 ≠ p.2) : ∃ x, (rowOf p).getLast? = some x ∧ 1 < x := (row_eu p).last (by have := mm_rng h; omega) (by omega)
theorem row_good {p : Int × Int} (h : Pos p) : GoodRow (rowOf p) := ⟨fun x hx => (row_rng h x hx).1, by
  by_cases e : p.1 = p.2
  · exact .inl (by rw [row_one h e]; rfl)
  · exact .inr (row_last h e)⟩
theorem row_ne {p : Int × Int} (h : Pos p) : rowOf p ≠ [] := by
  obtain ⟨r', e, _⟩ := (row_eu p).pos (mm_rng h).1
  rw [e]
  simp
theorem com_rng {p : Int × Int} (h : Pos p) : 1 ≤ comOf p ∧ comOf p ≤ max p.1 p.2 := by
  have := (row_eu p).g_rng (by have := mm_rng h; omega) (by have := mm_rng h; omega)
  have := mm_rng h
  omega
theorem row_back {p : Int × Int} (h : Pos p) : backR (rowOf p) (comOf p) = (max p.1 p.2, min p.1 p.2) := (row_eu p).back (by have := mm_rng h; omega)
theorem back_row {r : List Int} {g : Int} (hg : 1 ≤ g) (hn : r ≠ []) (hr : GoodRow r) : rowOf (backR r g) = r ∧ comOf (backR r g) = g := by
  obtain ⟨e, h1, h2⟩ := back_eu hg r hn hr
  have e2 := row_eu (backR r g)
  rw [Int.max_eq_left h2, Int.min_eq_right h2] at e2
  exact e.det e2
theorem back_pos {r : List Int} {g : Int} (hg : 1 ≤ g) (hn : r ≠ []) (hr : GoodRow r) : Pos (backR r g) := by
  obtain ⟨e, h1, h2⟩ := back_eu hg r hn hr
  exact ⟨by omega, by omega⟩
def shortOf (p : Int × Int) : Int := ((rowOf p).length : Int) - 1 + (if decide (1 < (rowOf p).getLast?.getD 0) = true then 1 else 0)
def longOf (p : Int × Int) : Int := (rowOf p).sum - 1
theorem short_form {p : Int × Int} (h : Pos p) : shortOf p = ((rowOf p).length : Int) - (if decide (rowOf p = [1]) = true then 1 else 0) := by
  unfold shortOf
  by_cases e : p.1 = p.2
  · rw [row_one h e] <;> rfl
  · obtain ⟨x, hx, hx1⟩ := row_last h e
    rw [hx]
    have hne : ¬ rowOf p = [1] := fun c => by
      rw [c] at hx
      have : (1 : Int) = x := Option.some.inj hx
      omega
    rw [if_pos (decide_eq_true (show 1 < (some x).getD 0 from hx1)), if_neg (by simp [hne])]
    omega
/-! ### .. and their bounds -/
def RowB (n : Nat) (r : List Int) (c : Int) : Prop := ∃ a b, (∀ x ∈ r, Bt a x) ∧ Bt b c ∧ b + (a + 1) * r.length ≤ n
theorem foldl_bt {a : Nat} : ∀ (as : List Int) (s : Int × Int) (b : Nat), Bt b s.1 → Bt b s.2 → (∀ x ∈ as, Bt a x) → Bt (b + (a + 1) * as.length) (as.foldl bstp s).1 ∧ Bt (b + (a + 1) * as.length) (as.foldl bstp s).2
  | [], s, b, h1, h2, _ => ⟨h1, h2⟩
  | x :: as, s, b, h1, h2, h => by
    have hx := h x List.mem_cons_self
    have m1 : Bt (b + (a + 1)) (bstp s x).1 := ((hx.mul h1).add (h2.mono (by omega))).mono (by omega)
    have m2 : Bt (b + (a + 1)) (bstp s x).2 := h1.mono (by omega)
    have := foldl_bt as (bstp s x) (b + (a + 1)) m1 m2 (fun y hy => h y (List.mem_cons_of_mem _ hy))
    rw [List.foldl_cons, List.length_cons, Nat.mul_add, Nat.mul_one, Nat.add_comm _ (a + 1), ← Nat.add_assoc]
    exact this
theorem RowB.at_ {n k : Nat} {r : List Int} {c : Int} (h : RowB n r c) : Bt n ((r.reverse.take k).foldl bstp (c, 0)).1 ∧ Bt n ((r.reverse.take k).foldl bstp (c, 0)).2 := by
  obtain ⟨a, b, h1, h2, h3⟩ := h
  have hb := foldl_bt (a := a) (r.reverse.take k) (c, 0) b h2 (Nat.two_pow_pos b) (fun x hx => h1 x (List.mem_reverse.mp (List.mem_of_mem_take hx)))
  have hl : (r.reverse.take k).length ≤ r.length := by rw [List.length_take, List.length_reverse]; omega
  have := Nat.mul_le_mul_left (a + 1) hl
  exact ⟨hb.1.mono (by omega), hb.2.mono (by omega)⟩
theorem RowB.back {n : Nat} {r : List Int} {c : Int} (h : RowB n r c) : Bt n (backR r c).1 ∧ Bt n (backR r c).2 := by
  have := h.at_ (k := r.length)
  rw [List.take_of_length_le (by rw [List.length_reverse]; omega), backR_foldl] at this
  exact this
theorem RowB.mem {n : Nat} {r : List Int} {c : Int} (h : RowB n r c) {x : Int} (hx : x ∈ r) : Bt n x := by
  obtain ⟨a, b, h1, h2, h3⟩ := h
  have : 1 ≤ r.length := List.length_pos_iff.mpr (fun e => by rw [e] at hx; cases hx)
  have := Nat.mul_le_mul_left (a + 1) this
  exact (h1 x hx).mono (by omega)
theorem take_step {α : Type} {as : List α} {n : Nat} {x : α} (h : as[n]? = some x) : as.take (n + 1) = as.take n ++ [x] := by
  rw [List.take_succ, h] <;> rfl
theorem back_step {as : List Int} {n : Nat} {x : Int} (h : as[n]? = some x) (s : Int × Int) : (as.take (n + 1)).foldl bstp s = bstp ((as.take n).foldl bstp s) x := by
  rw [take_step h, List.foldl_append] <;> rfl
theorem last_getD {r : List Int} (h : r ≠ []) : r.getLast? = some (r.getLast?.getD 0) := by
  cases e : r.getLast? with
  | none => exact absurd (List.getLast?_eq_none_iff.mp e) h
  | some x => rfl
theorem all_pos {r : List Int} (h : ∀ x ∈ r, 1 ≤ x) : ((r.map fun xc => (true && decide (0 < xc))).all id) = true := by
  rw [List.all_map, List.all_eq_true]
  intro x hx
  have := h x hx
  simp only [Function.comp, id, Bool.true_and]
  exact decide_eq_true (by omega)
theorem good_last {r : List Int} (hn : r ≠ []) (h : GoodRow r) : (decide ((r.length : Int) = 1) || decide (1 < r.getLast?.getD 0)) = true := by
  rcases h.last with c | ⟨x, hx, hx1⟩
  · rw [decide_eq_true (show (r.length : Int) = 1 by omega)] <;> rfl
  · rw [hx, Bool.or_eq_true]
    exact .inr (decide_eq_true hx1)
theorem bt_max {n : Nat} {p : Int × Int} (h : Bt n p.1 ∧ Bt n p.2) : Bt n (max p.1 p.2) ∧ Bt n (min p.1 p.2) := by
  rcases Int.le_total p.1 p.2 with c | c
  · rw [Int.max_eq_right c, Int.min_eq_left c]; exact ⟨h.2, h.1⟩
  · rw [Int.max_eq_left c, Int.min_eq_right c]; exact ⟨h.1, h.2⟩
theorem row_ok {p : Int × Int} (hp : Pos p) (hb : Bt 180 p.1 ∧ Bt 180 p.2) : rowOf p ≠ [] ∧ GoodRow (rowOf p) ∧ (rowOf p).length ≤ 1000 ∧ 1 ≤ comOf p ∧ RowB 1000000 (rowOf p) (comOf p) := by
  have hm := bt_max hb
  have hl := row_len hp hm.2
  refine ⟨row_ne hp, row_good hp, by omega, (com_rng hp).1, 180, 180, fun x hx => ?_, ?_, by omega⟩
  · have := row_rng hp x hx
    exact hm.1.le (by omega) this.2
  · have := com_rng hp
    exact hm.1.le (by omega) this.2
theorem all_true {α : Type} (l : List α) : ((l.map fun _ => true).all id) = true := by
  rw [List.all_map, List.all_eq_true]
  intro x _
  rfl
theorem sq_c {p : Int × Int} (h : (decide (0 < p.1) && decide (0 < p.2) && decide (p.1.natAbs < 2 ^ 200) && decide (p.2.natAbs < 2 ^ 200)) = true) : Sq p := by
  simp only [Bool.and_eq_true, decide_eq_true_eq] at h
  exact ⟨⟨h.1.1.1, h.1.1.2⟩, (show Bt 200 p.1 from h.1.2).mono (by decide), (show Bt 200 p.2 from h.2).mono (by decide)⟩
theorem sqs {ps : List (Int × Int)} (h : (ps.all fun p => (decide (0 < p.1) && decide (0 < p.2) && decide (p.1.natAbs < 2 ^ 200) && decide (p.2.natAbs < 2 ^ 200))) = true) : ∀ p ∈ ps, Sq p := fun p hp => sq_c (List.all_eq_true.mp h p hp)
theorem row_c {r : List Int} {c : Int} (h : (decide (r ≠ []) && r.all (fun x => decide (1 ≤ x)) && (decide (r.length = 1) || decide (1 < r.getLast?.getD 0)) && decide (r.length ≤ 1000) && decide (1 ≤ c) && r.all (fun x => decide (x.natAbs < 2 ^ 200)) && decide (c.natAbs < 2 ^ 200)) = true) :
    r ≠ [] ∧ GoodRow r ∧ r.length ≤ 1000 ∧ 1 ≤ c ∧ RowB 1000000 r c := by
  simp only [Bool.and_eq_true, Bool.or_eq_true, decide_eq_true_eq, List.all_eq_true] at h
  obtain ⟨⟨⟨⟨⟨⟨h1, h2⟩, h3⟩, h4⟩, h5⟩, h6⟩, h7⟩ := h
  refine ⟨h1, ⟨h2, ?_⟩, h4, h5, 200, 200, h6, h7, by omega⟩
  rcases h3 with c | c
  · exact .inl c
  · exact .inr ⟨_, last_getD h1, c⟩
/-! ### rules -/
section
variable {K : PySem.W.Frag} {σ : L2.St} {H H' : Hp} {ta tb tc te : TE} {t u : TT} {α β γ : Type} [Rep K α] [Rep K β] [Rep K γ] {a : α} {b : β} {D : Ends} {tu tw tz : TS} {g : TG} {i j k : Nat}
theorem ixN_last {n : Nat} (h : 0 < n) : ixN n (-1) = some (n - 1) := by
  unfold ixN
  rw [if_neg (by omega), if_pos (by omega)]
  congr 1
  omega
theorem evr_ixZ {as : List α} {x : α} (ha : EvR K ta σ H as) (hx : as.getLast? = some x) : EvR K (tOp (rIxL K) ta (tUn (rU fun i => .int (-i)) (tC (.int 1)))) σ H x := fun H1 e Q q => ha H1 e _ fun v H2 e2 ⟨p, vs, ev, hp, rs⟩ => by
  rw [List.getLast?_eq_getElem?] at hx
  obtain ⟨z, hz, rz⟩ := paired_get rs hx
  have hl : vs.length = as.length := rs.length
  have hn : 0 < vs.length := by have := (List.getElem?_eq_some_iff.mp hz).1; omega
  refine ⟨1, rfl, p, vs, -1, z, ev, rfl, SqL.of hp, ?_, q _ H2 e2 rz⟩
  unfold atI
  rw [ixN_last hn, hl]
  exact hz
theorem evr_intB {x : Bool} (ha : EvR K ta σ H x) : EvR K (tCB (fun xs H Q => (∃ i, xs = [.int i] ∧ Q (.int i) H) ∨ ∃ k, xs = [.bl k] ∧ Q (.int (if k then 1 else 0)) H) (tCons ta tNil)) σ H (if x = true then (1 : Int) else 0) := fun H1 e Q q => ha H1 e _ fun v H2 e2 r =>
  .inr ⟨x, by rw [show v = V.bl x from r], q _ H2 e2 rfl⟩
theorem evr_abs {n : Int} (ha : EvR K ta σ H n) : EvR K (tCB (fun xs H Q => ∃ i, xs = [.int i] ∧ Q (.int (if i < 0 then -i else i)) H) (tCons ta tNil)) σ H (if n < 0 then -n else n) := fun H1 e Q q => ha H1 e _ fun v H2 e2 r =>
  ⟨n, by rw [show v = V.int n from r], q _ H2 e2 rfl⟩
/-- xs[-1] = e, xs a list of one's own -/
theorem r_setZ [RepT K α] {to : TE} {l : Addr} {us : List V} {as : List α} {H0 : Hp} (h0 : H0 l = none) (hex : Ex H0 H) (hl : H l = some (.lst us)) (hs : Paired (rep K H) us as) (hv : EvR K te σ H a) (ho : Ev to σ H (.ref l)) (hn : as ≠ [])
    (kk : ∀ us' H2, Ex H0 H2 → H2 l = some (.lst us') → Paired (rep K H2) us' (as.set (as.length - 1) a) → tz D σ H2) : tSeq (tAsg te (gSub to (tUn (rU fun i => .int (-i)) (tC (.int 1))) rSetL)) tz D σ H :=
  hv H (Ex.refl H) _ fun v H1 e1 r => ho H1 e1 _ fun H2 e2 => by
    have e13 := e1.trans e2
    have hl3 := e13 _ _ hl
    have hnt := not_tup_lst hl3
    have hlen : us.length = as.length := hs.length
    have : 0 < as.length := List.length_pos_iff.mpr hn
    refine ⟨1, rfl, l, us, -1, us.length - 1, rfl, rfl, hl3, ixN_last (by omega), ?_⟩
    refine kk _ _ (Ex.mut (hex.trans e13) h0) upd_same ?_
    rw [hlen]
    exact paired_set (RepT.stab hnt (rmono e2 r)) _ (pstab hnt (pmono e13 hs))
/-- xs.append(e), xs a list of one's own -/
theorem r_app [RepT K α] {to : TE} {l : Addr} {us : List V} {as : List α} {H0 : Hp} (h0 : H0 l = none) (hex : Ex H0 H) (hl : H l = some (.lst us)) (hs : Paired (rep K H) us as) (ho : Ev to σ H (.ref l)) (hv : EvR K te σ H a) (hz : as.length < 100000)
    (kk : ∀ us' H2, Ex H0 H2 → H2 l = some (.lst us') → Paired (rep K H2) us' (as ++ [a]) → tz D σ H2) : tSeq (tDrop (tBM K "list" rAppend to (tCons te tNil))) tz D σ H :=
  ho H (Ex.refl H) _ fun H1 e1 => ⟨Or.inl ⟨rfl, us, sq_of (e1 l _ hl)⟩, hv H1 e1 _ fun v H2 e2 r => by
    have e12 := e1.trans e2
    have hl2 := e12 _ _ hl
    have hnt := not_tup_lst hl2
    have hlen : us.length = as.length := hs.length
    exact ⟨l, us, v, rfl, rfl, hl2, sz_lt (by omega), kk _ _ (Ex.mut (hex.trans e12) h0) upd_same (paired_append (pstab hnt (pmono e12 hs)) (.cons (RepT.stab hnt r) .nil))⟩⟩
theorem r_app1 [RepT K α] {to : TE} {l : Addr} {us : List V} {as : List α} {H0 : Hp} (h0 : H0 l = none) (hex : Ex H0 H) (hl : H l = some (.lst us)) (hs : Paired (rep K H) us as) (ho : Ev to σ H (.ref l)) (hv : EvR K te σ H a) (hz : as.length < 100000)
    (kk : ∀ us' H2, Ex H0 H2 → H2 l = some (.lst us') → Paired (rep K H2) us' (as ++ [a]) → D.nx σ H2) : tDrop (tBM K "list" rAppend to (tCons te tNil)) D σ H :=
  ho H (Ex.refl H) _ fun H1 e1 => ⟨Or.inl ⟨rfl, us, sq_of (e1 l _ hl)⟩, hv H1 e1 _ fun v H2 e2 r => by
    have e12 := e1.trans e2
    have hl2 := e12 _ _ hl
    have hnt := not_tup_lst hl2
    have hlen : us.length = as.length := hs.length
    exact ⟨l, us, v, rfl, rfl, hl2, sz_lt (by omega), kk _ _ (Ex.mut (hex.trans e12) h0) upd_same (paired_append (pstab hnt (pmono e12 hs)) (.cons (RepT.stab hnt r) .nil))⟩⟩
theorem ev_ix0 {T : Addr} {x y : V} (hv : σ[i]? = some (some (.ref T))) (h : H T = some (.tup [x, y])) : Ev (tOp (rIxT K) (tVar i) (tC (.int 0))) σ H x := fun H1 e Q q =>
  ⟨_, hv, T, [x, y], 0, x, rfl, rfl, SqT.of (e _ _ h), rfl, q H1 (Ex.refl _)⟩
/-- a def that gives a new list -/
def Fn1N (K : PySem.W.Frag) {α β : Type} [Rep K α] [Rep K β] (pre : α → Prop) (f : α → List β) : Sp := fun vs H Q _ => ∃ v a, vs = [v] ∧ rep K H v a ∧ pre a ∧ ∀ p us H', H p = none → Ex H H' → H' p = some (.lst us) → Paired (rep K H') us (f a) → Q (.ref p) H'
theorem Fn1N.len {pre : α → Prop} {f : α → List β} {vs : List V} {H : Hp} {Q : VK} {E : XK} (h : Fn1N K pre f vs H Q E) : vs.length = 1 := by obtain ⟨v, a, rfl, _⟩ := h; rfl
theorem evn_call1 {pre : α → Prop} {f : α → List β} {E : XK} {a : α} (ha : EvR K ta σ H a) (hp : pre a) : EvN K (tCall (Fn1N K pre f) [] E (tCons ta tNil)) σ H (f a) := fun H1 e Q q => ha H1 e _ fun v H2 e2 r =>
  ⟨v, a, rfl, r, hp, fun p us H3 hp e3 hl hs => q p us H3 (fresh_back e2 hp) (e2.trans e3) hl hs⟩
/-- quotients: a new list and a number -/
def spQ (K : PySem.W.Frag) : Sp := fun vs H Q _ => ∃ v p, vs = [v] ∧ rep K H v p ∧ Sq p ∧ ∀ T L us H', H L = none → Ex H H' → H' T = some (.tup [.ref L, .int (comOf p)]) → H' L = some (.lst us) → Paired (rep K H') us (rowOf p) → Q (.ref T) H'
theorem spQ.len {vs : List V} {H : Hp} {Q : VK} {E : XK} (h : spQ K vs H Q E) : vs.length = 1 := by obtain ⟨v, a, rfl, _⟩ := h; rfl
theorem evr_callQ {E : XK} {p : Int × Int} (ha : EvR K ta σ H p) (hp : Sq p) : EvR K (tCall (spQ K) [] E (tCons ta tNil)) σ H (rowOf p, comOf p) := fun H1 e Q q => ha H1 e _ fun v H2 e2 r =>
  ⟨v, p, rfl, r, hp, fun T L us H3 hL e3 hT hl hs => q _ H3 (e2.trans e3) ⟨T, _, _, rfl, hT, ⟨L, us, rfl, hl, hs⟩, rfl⟩⟩
theorem r_asgQ {E : XK} {p : Int × Int} (ha : EvR K ta σ H p) (hp : Sq p) (kk : ∀ T L us H1, H L = none → Ex H H1 → H1 T = some (.tup [.ref L, .int (comOf p)]) → H1 L = some (.lst us) → Paired (rep K H1) us (rowOf p) → tz D (σ.set i (some (.ref T))) H1) :
    tSeq (tAsg (tCall (spQ K) [] E (tCons ta tNil)) (gName i)) tz D σ H := ha H (Ex.refl H) _ fun v H2 e2 r =>
  ⟨v, p, rfl, r, hp, fun T L us H3 hL e3 hT hl hs => kk T L us H3 (fresh_back e2 hL) (e2.trans e3) hT hl hs⟩
end
end Mt
namespace Mt
open PySem PySem.Spec L2 Evl PyProof.Rows
/-! ### a class without an own __init__ -/
structure Mk00 (K : PySem.W.Frag) (C : Addr) : Prop where
  makes : PySem.W.makesIn K C = true
  init : PySem.W.findIn K (.ref C) "__init__" = some (some (.builtin "object.__init__"))
  kp : PySem.W.keepIn K (.ref C) = true
def tMake00 (C : Addr) : TE := fun _ H Q => ∀ x dx, H x = none → H dx = none → dx ≠ x → Q (.ref x) (upd (upd H dx (.own x)) x (.ins C dx []))
section
variable {X : Cx} {C : Addr} {x : Str} {p pos : PySem.Pos}
theorem run_make00 {pins : List (Addr × Obj)} {σ : L2.St} {H : Hp} {s : Shared} {Q : VK} (M : Mk00 X.K C) (I : Inv X pins σ H s) (h : tMake00 C σ H Q) : wpAny (model X.prog X.w) X.A (call (.ref C) []) (EP X pins σ Q) X.xe s := by
  have hq := h (s.heap.objs.size + 1) s.heap.objs.size (I.hok.fresh (Nat.le_succ _)) (I.hok.fresh (Nat.le_refl _)) (Nat.ne_of_lt (Nat.lt_succ_self _))
  have I2 := Inv.made (C := C) I
  have Y := PySem.W.makes_of (M := model X.prog X.w) I.kIn M.makes
  have g2 : ((s.heap.push PySem.W.emptyDict).push (PySem.W.instObj C s.heap.objs.size)).get? (s.heap.objs.size + 1) = some (PySem.W.instObj C s.heap.objs.size) := by
    have := Heap.get?_push_size (s.heap.push PySem.W.emptyDict) (o := PySem.W.instObj C s.heap.objs.size) rfl
    rwa [Heap.size_push] at this
  refine wpAny_call (make_map0 I.kIn M.makes M.init (fun self => PySem.W.Looks.of_pure (PySem.W.oi_bind self)) ?_)
  have t1 : PySem.W.Looks (model X.prog X.w) ((s.heap.push PySem.W.emptyDict).push (PySem.W.instObj C s.heap.objs.size)) (typeOf (.ref (s.heap.objs.size + 1))) (.ref C) := (PySem.W.Looks.ld g2).andThen .now
  have t2 : PySem.W.Looks (model X.prog X.w) ((s.heap.push PySem.W.emptyDict).push (PySem.W.instObj C s.heap.objs.size)) (isInstance (.ref (s.heap.objs.size + 1)) (.type "object")) true := t1.andThen (Y.top.keeps fun b o e => Heap.get?_push_of_some _ (Heap.get?_push_of_some _ e))
  obtain ⟨hh, g, d, t, os⟩ := s
  refine codeAny_call_builtin PySem.W.oi_plain PySem.W.entry_oi (@PySem.W.check_slot (model X.prog X.w) _ _ _ "object.__init__" "object" "__init__" (.ref (hh.objs.size + 1)) [] [] _ PySem.W.oi_kind PySem.W.oi_split t2 (PySem.W.oi_args (.ref (hh.objs.size + 1))) ?_)
  rw [PySem.W.oi_run]
  exact wpAny_pure (And.intro rfl ⟨V.ref (hh.objs.size + 1), _, I2, rfl, hq⟩)
theorem pe_make00 (M : Mk00 X.K C) (hg : Gl X x) (hm : X.mg x = some (.ref C)) (hdb : (x == ("__debug__" : Str)) = false := by decide) : PE X (.Call (.Name x p) [] [] pos) (tMake00 C) := by
  refine ⟨fun pins s σ H Q I h => ?_⟩
  refine wpAny_Call_Name_kw (ld_glob I hg hm ?_ hdb)
  exact PySem.W.callWith_K0 I.kIn M.kp (run_make00 M I h)
end
/-- either reading will do -/
def tAlt (t u : TE) : TE := fun σ H Q => t σ H Q ∨ u σ H Q
theorem pe_alt {X : Cx} {e : Expr} {t u : TE} (h1 : PE X e t) (h2 : PE X e u) : PE X e (tAlt t u) := ⟨fun pins s σ H Q I h => h.elim (h1.run pins s σ H Q I) (h2.run pins s σ H Q I)⟩
/-! ### answers -/
inductive Ans where
  | lost
  | won (at_ times : Int)
  deriving DecidableEq
def Ans.isWon : Ans → Bool
  | .lost => false
  | .won _ _ => true
def Ans.isLost : Ans → Bool
  | .lost => true
  | .won _ _ => false
def Ans.at_ : Ans → Int
  | .lost => 0
  | .won i _ => i
def Ans.times : Ans → Int
  | .lost => 0
  | .won _ j => j
theorem kat : ¬ (("at" : Str) = "times") := by decide +kernel
def wf (i j : Int) : List (Str × V) := putF "times" (.int j) (putF "at" (.int i) [])
theorem wf_at (i j : Int) : (wf i j).lookup ("at" : Str) = some (.int i) := by
  unfold wf
  rw [lookup_putF, if_neg kat, lookup_putF, if_pos rfl]
theorem wf_times (i j : Int) : (wf i j).lookup ("times" : Str) = some (.int j) := by
  unfold wf
  rw [lookup_putF, if_pos rfl]
theorem wf_no (i j : Int) {m : Str} (h1 : ¬ m = "times") (h2 : ¬ m = "at") : (wf i j).lookup m = none := by
  unfold wf
  rw [lookup_putF, if_neg h1, lookup_putF, if_neg h2] <;> rfl
instance repAns {K : PySem.W.Frag} : Rep K Ans where
  rep := fun H v a => match a with
    | .lost => ∃ p C dx, v = .ref p ∧ PySem.W.nsIn K mainGlobals "Lost" = some (some (.ref C)) ∧ H p = some (.ins C dx [])
    | .won i j => ∃ p C dx, v = .ref p ∧ PySem.W.nsIn K mainGlobals "Won" = some (some (.ref C)) ∧ H p = some (.ins C dx (wf i j))
  mono := fun {H H' v a} e h => by
    cases a with
    | lost => obtain ⟨p, C, dx, h1, h2, h3⟩ := h; exact ⟨p, C, dx, h1, h2, e _ _ h3⟩
    | won i j => obtain ⟨p, C, dx, h1, h2, h3⟩ := h; exact ⟨p, C, dx, h1, h2, e _ _ h3⟩
/-- a class of the text, its instances plain -/
structure ClsX (K : PySem.W.Frag) (name : Str) (C : Addr) : Prop where
  at_ : PySem.W.nsIn K mainGlobals name = some (some (.ref C))
  cl : Cls K C
  ha : PySem.W.findIn K (.ref C) "__class__" = some (some (.builtin "object.__class__"))
  hn : PySem.W.specialIn K (.builtin "object.__class__") "__get__" = some (some (.builtin "getset_descriptor.__get__"))
  ht : PySem.W.takesIn K (.builtin "object.__class__") = some true
  hm : PySem.W.mroIn K C (.type "object") = some true
theorem ClsX.eq {K : PySem.W.Frag} {name : Str} {C C' : Addr} (c : ClsX K name C) (h : PySem.W.nsIn K mainGlobals name = some (some (.ref C'))) : C' = C := by
  have e := c.at_.symm.trans h
  injection e with e
  injection e with e
  injection e with e
  exact e.symm
theorem ClsX.ty {K : PySem.W.Frag} {name : Str} {C : Addr} (c : ClsX K name C) {H : Hp} {a dx : Addr} {fs : List (Str × V)} (h : H a = some (.ins C dx fs)) : TyX K H (.ref a) (.ref C) := .base (.ins h c.cl c.ha c.hn c.ht c.hm)
/-- what is asked of the answers' classes -/
structure AnsTxt (K : PySem.W.Frag) (mg : Str → Option Value) (CA CL CW : Addr) : Prop where
  cL : ClsX K "Lost" CL
  cW : ClsX K "Won" CW
  mgA : mg "Answer" = some (.ref CA)
  mgL : mg "Lost" = some (.ref CL)
  mgW : mg "Won" = some (.ref CW)
  nA : NoAttr K CW "at"
  nT : NoAttr K CW "times"
  mkL : Mk00 K CL
  kLA : PySem.W.kitOne K (.ref CL) (.ref CA) = some true
  kLL : PySem.W.kitOne K (.ref CL) (.ref CL) = some true
  kLW : PySem.W.kitOne K (.ref CL) (.ref CW) = some false
  kWA : PySem.W.kitOne K (.ref CW) (.ref CA) = some true
  kWL : PySem.W.kitOne K (.ref CW) (.ref CL) = some false
  kWW : PySem.W.kitOne K (.ref CW) (.ref CW) = some true
section
variable {K : PySem.W.Frag} {mg : Str → Option Value} {CA CL CW : Addr} {σ : L2.St} {H : Hp} {te ta tb : TE} {a : Ans}
theorem evr_isiA (T : AnsTxt K mg CA CL CW) (h : EvR K te σ H a) : EvR K (tCB (rIsi K) (tCons te (tCons (tC (.ref CA)) tNil))) σ H true := fun H1 e Q q => h H1 e _ fun v H2 e2 r => by
  cases a with
  | lost =>
    obtain ⟨p, C, dx, h1, h2, h3⟩ := r
    have ec := T.cL.eq h2
    subst ec h1
    exact ⟨_, _, _, _, true, rfl, .own CA, T.cL.ty h3, T.kLA, q _ H2 e2 rfl⟩
  | won i j =>
    obtain ⟨p, C, dx, h1, h2, h3⟩ := r
    have ec := T.cW.eq h2
    subst ec h1
    exact ⟨_, _, _, _, true, rfl, .own CA, T.cW.ty h3, T.kWA, q _ H2 e2 rfl⟩
theorem evr_isiL (T : AnsTxt K mg CA CL CW) (h : EvR K te σ H a) : EvR K (tCB (rIsi K) (tCons te (tCons (tC (.ref CL)) tNil))) σ H a.isLost := fun H1 e Q q => h H1 e _ fun v H2 e2 r => by
  cases a with
  | lost =>
    obtain ⟨p, C, dx, h1, h2, h3⟩ := r
    have ec := T.cL.eq h2
    subst ec h1
    exact ⟨_, _, _, _, true, rfl, .own _, T.cL.ty h3, T.kLL, q _ H2 e2 rfl⟩
  | won i j =>
    obtain ⟨p, C, dx, h1, h2, h3⟩ := r
    have ec := T.cW.eq h2
    subst ec h1
    exact ⟨_, _, _, _, false, rfl, .own _, T.cW.ty h3, T.kWL, q _ H2 e2 rfl⟩
theorem evr_isiW (T : AnsTxt K mg CA CL CW) (h : EvR K te σ H a) : EvR K (tCB (rIsi K) (tCons te (tCons (tC (.ref CW)) tNil))) σ H a.isWon := fun H1 e Q q => h H1 e _ fun v H2 e2 r => by
  cases a with
  | lost =>
    obtain ⟨p, C, dx, h1, h2, h3⟩ := r
    have ec := T.cL.eq h2
    subst ec h1
    exact ⟨_, _, _, _, false, rfl, .own _, T.cL.ty h3, T.kLW, q _ H2 e2 rfl⟩
  | won i j =>
    obtain ⟨p, C, dx, h1, h2, h3⟩ := r
    have ec := T.cW.eq h2
    subst ec h1
    exact ⟨_, _, _, _, true, rfl, .own _, T.cW.ty h3, T.kWW, q _ H2 e2 rfl⟩
theorem evr_at (T : AnsTxt K mg CA CL CW) (h : EvR K te σ H a) (hw : a.isWon = true) : EvR K (tFld K te "at") σ H a.at_ := fun H1 e Q q => h H1 e _ fun v H2 e2 r => by
  cases a with
  | lost => cases hw
  | won i j =>
    obtain ⟨p, C, dx, h1, h2, h3⟩ := r
    have ec := T.cW.eq h2
    subst ec h1
    exact ⟨p, C, dx, _, _, rfl, h3, T.cW.cl, T.nA, wf_at i j, q _ H2 e2 rfl⟩
theorem evr_times (T : AnsTxt K mg CA CL CW) (h : EvR K te σ H a) (hw : a.isWon = true) : EvR K (tFld K te "times") σ H a.times := fun H1 e Q q => h H1 e _ fun v H2 e2 r => by
  cases a with
  | lost => cases hw
  | won i j =>
    obtain ⟨p, C, dx, h1, h2, h3⟩ := r
    have ec := T.cW.eq h2
    subst ec h1
    exact ⟨p, C, dx, _, _, rfl, h3, T.cW.cl, T.nT, wf_times i j, q _ H2 e2 rfl⟩
theorem evr_makeL (T : AnsTxt K mg CA CL CW) : EvR K (tMake00 CL) σ H Ans.lost := fun H1 e Q q x dx hx hd hne =>
  q _ _ (fun b o hb => by rw [upd_ne (ne_of_none hb hx), upd_ne (ne_of_none hb hd)]; exact hb) ⟨x, CL, dx, rfl, T.cL.at_, upd_same⟩
/-- Won.__init__ -/
def spInitW (CW : Addr) : Sp := fun vs H Q _ => ∃ (p dx : Addr) (i j : Int), vs = [.ref p, .int i, .int j] ∧ H p = some (.ins CW dx []) ∧ ∀ H' : Hp, H' p = some (.ins CW dx (wf i j)) → (∀ b o, H b = some o → b ≠ p → H' b = some o) → Q .non H'
theorem spInitW.len {vs : List V} {Q : VK} {E : XK} (h : spInitW CW vs H Q E) : vs.length = 3 := by obtain ⟨p, dx, i, j, rfl, _⟩ := h; rfl
theorem evr_makeW (T : AnsTxt K mg CA CL CW) {i j : Int} {E : XK} (ha : EvR K ta σ H i) (hb : EvR K tb σ H j) : EvR K (tMake CW (spInitW CW) [] E (tCons ta (tCons tb tNil))) σ H (Ans.won i j) := fun H1 e Q q => ha.ev H1 e _ fun H2 e2 => hb.ev H2 (e.trans e2) _ fun H3 e3 x dx hx hd hne =>
  ⟨x, dx, i, j, rfl, upd_same, fun H' h1 h2 => ⟨rfl, q _ _ ((e2.trans e3).trans fun b o hbo => h2 b o (by rw [upd_ne (ne_of_none hbo hx), upd_ne (ne_of_none hbo hd)]; exact hbo) (ne_of_none hbo hx)) ⟨x, CW, dx, rfl, T.cW.at_, h1⟩⟩⟩
end
/-- Won(..) may be made -/
structure CalW (P : Program) (w : World) (K : PySem.W.Frag) (mg : Str → Option Value) (base : Heap) (CW : Addr) : Prop where
  ex : ∃ (f : Addr) (fd : FuncData), Mk K CW f ∧ FnOk P w K mg base CX0 1 f fd ["self", "at", "times"] (spInitW CW) ∧ Binds K fd ["self", "at", "times"] [] ∧ mg "Won" = some (.ref CW)
/-- a method may be called -/
structure CalM (P : Program) (w : World) (K : PySem.W.Frag) (mg : Str → Option Value) (base : Heap) (k : Nat) (C : Addr) (m : Str) (ps : List Str) (sp : Sp) : Prop where
  ex : ∃ (f : Addr) (fd : FuncData), Cls K C ∧ Meth K C m f ∧ FnOk P w K mg base CX0 k f fd ps sp ∧ Binds K fd ps []
section
variable {X : Cx} {CW C : Addr} {k : Nat} {m : Str} {ps : List Str} {sp : Sp} {e o : Expr} {es : List Expr} {t : TA} {ta : TE} {p pos apos : PySem.Pos}
theorem pe_makW (c : CalW X.prog X.w X.K X.mg X.base CW) (hr : Room 2 X.A) (hg : Gl X "Won") (ha : PA X (e :: es) t)
    (he : starEach (e :: es) X.env = (false, eval e X.env) :: starEach es X.env := by rfl) (hpl : (backTo pos (starEach es X.env)).any (·.1) = false := by rfl) : PE X (.Call (.Name "Won" p) (e :: es) [] pos) (tMake CW (spInitW CW) [] E0 t) := by
  obtain ⟨f, fd, M, F, hb, hm⟩ := c.ex
  exact pe_make M F hr hg hm hb .nil pass0 ha (by decide) he hpl
theorem pe_methM {pl : Sem Bool} (he : PE X o ta) (c : CalM X.prog X.w X.K X.mg X.base k C m ps sp) (hr : Room k X.A) (ha : PA X (e :: es) t)
    (hst : starEach (e :: es) X.env = (false, eval e X.env) :: starEach es X.env := by rfl) (hpl : (backTo pos (starEach es X.env)).any (·.1) = false := by rfl)
    (ht : eval (.Call (.Attribute o m apos) (e :: es) [] pos) X.env = (do
      let ov ← eval o X.env
      standAt apos.atName
      let (f, first) ← holding [ov] (getMethod ov m pl)
      callWith pos f first (backTo pos (starEach (e :: es) X.env)) (backToKw pos (keywordEach [] X.env))) := by rfl) : PE X (.Call (.Attribute o m apos) (e :: es) [] pos) (tMeth C m sp [] E0 ta t) := by
  obtain ⟨f, fd, cl, hm, F, hb⟩ := c.ex
  exact pe_meth (pl := pl) he cl hm F hr hb .nil pass0 ha hst hpl ht
end
/-! ### enumerate, tuples walked, items stored -/
section
variable {K : PySem.W.Frag} {σ : L2.St} {H H' : Hp} {ta tb tc te : TE} {t u : TT} {α β γ : Type} [Rep K α] [Rep K β] [Rep K γ] {a : α} {b : β} {D : Ends} {tu tw tz : TS} {g : TG} {i j k : Nat}
theorem evr_xor {i j : Int} (ha : EvR K ta σ H i) (hb : EvR K tb σ H j) (h0 : 0 ≤ i) (h1 : 0 ≤ j) : EvR K (tOp (rI0 fun i j => .int (Builtin.bitXor i j)) ta tb) σ H (xr i j) := by
  have h := evr_op0 (g := fun i j => Builtin.bitXor i j) ha hb
  rw [show Builtin.bitXor i j = xr i j from Bits.bitXor_pp h0 h1] at h
  exact h
theorem pe_globI {X : Cx} {x : Str} {n : Int} {p : PySem.Pos} (hg : Gl X x) (hm : ∃ t, X.mg x = some (.int n t)) (hd : (x == ("__debug__" : Str)) = false := by decide) : PE X (.Name x p) (tC (.int n)) := by
  obtain ⟨t, hm⟩ := hm
  exact pe_glob hg hm ⟨t, rfl⟩ hd
/-- for i, x in enumerate(xs) -/
theorem r_forE {tl : TE} {as : List α} (h : EvR K tl σ H as) (kk : ∀ p vs H1, Ex H H1 → H1 p = some (.lst vs) → Paired (rep K H1) vs as → ∃ Pv : Nat → L2.St → Hp → Prop, Pv 0 σ H1 ∧ (∀ n σ' H', Pv n σ' H' → H' p = some (.lst vs) ∧ Paired (rep K H') vs as) ∧
      (∀ n v x σ' H' H2, as[n]? = some x → Ex H' H2 → rep K H2 v x → Pv n σ' H' → tu { D with nx := Pv (n + 1), ct := Pv (n + 1), bk := tz D } ((σ'.set i (some (.int (n : Int)))).set j (some v)) H2) ∧ (∀ σ' H', Pv as.length σ' H' → tz D σ' H')) :
    tSeq (tFor (iEnum K (tCons tl tNil)) (gTup K 2 (gCons (gName i) (gCons (gName j) gNil))) tu) tz D σ H :=
  h H (Ex.refl H) _ fun v H1 e ⟨p, vs, ev, hp, rs⟩ => by
    obtain ⟨Pv, h0, hk, hs, hd⟩ := kk p vs H1 e hp rs
    refine ⟨p, vs, by rw [ev], SqL.of hp, for_it (walk_enum (xs := vs)) (D := { D with nx := tz D }) Pv h0 (fun n σ' H' _ q => SqL.of (hk n σ' H' q).1) (fun n x σ' H' H2 hn q y => ?_) (fun σ' H' q => hd σ' H' (by rw [← rs.length]; exact q))⟩
    obtain ⟨T, x1, y1, rfl, hT, rfl, ex, hy⟩ := y
    have ex := Option.some.inj ex
    subst ex
    obtain ⟨z, hz, rz⟩ := paired_get' (hk n σ' H' q).2 hy
    exact ⟨T, _, rfl, SqT.of upd_same, rfl, _, _, rfl, _, _, rfl, rfl, hs n y1 z σ' H' _ hz (Ex.new hT) (rmono (Ex.new hT) rz) q⟩
/-- for x in a tuple -/
theorem r_forU {tl : TE} {as : List α} (h : EvR K tl σ H (Tu.mk as)) (kk : ∀ p vs H1, Ex H H1 → H1 p = some (.tup vs) → Paired (rep K H1) vs as → ∃ Pv : Nat → L2.St → Hp → Prop, Pv 0 σ H1 ∧ (∀ n σ' H', Pv n σ' H' → Ex H1 H') ∧
      (∀ n v x σ' H', as[n]? = some x → rep K H' v x → Pv n σ' H' → g v σ' H' fun σ2 H2 => tu { D with nx := Pv (n + 1), ct := Pv (n + 1), bk := tz D } σ2 H2) ∧ (∀ σ' H', Pv as.length σ' H' → tz D σ' H')) : tSeq (tFor (iTup K tl) g tu) tz D σ H :=
  h H (Ex.refl H) _ fun v H1 e ⟨p, vs, ev, hp, rs⟩ => by
    obtain ⟨Pv, h0, hk, hs, hd⟩ := kk p vs H1 e hp rs
    refine ⟨p, ev, ⟨vs, SqT.of hp⟩, for_tup (D := { D with nx := tz D }) Pv h0 (fun n σ' H' _ q => SqT.of (hk n σ' H' q _ _ hp)) (fun n x σ' H' hx q => ?_) (fun σ' H' q => hd σ' H' (by rw [← (show vs.length = as.length from rs.length)]; exact q))⟩
    obtain ⟨y, hy, ry⟩ := paired_get' rs hx
    exact hs n x y σ' H' hy (rmono (hk n σ' H' q) ry) q
/-- for i, x in enumerate(xs) -/
theorem r_forE1 {tl : TE} {as : List α} (h : EvR K tl σ H as) (kk : ∀ p vs H1, Ex H H1 → H1 p = some (.lst vs) → Paired (rep K H1) vs as → ∃ Pv : Nat → L2.St → Hp → Prop, Pv 0 σ H1 ∧ (∀ n σ' H', Pv n σ' H' → H' p = some (.lst vs) ∧ Paired (rep K H') vs as) ∧
      (∀ n v x σ' H' H2, as[n]? = some x → Ex H' H2 → rep K H2 v x → Pv n σ' H' → tu { D with nx := Pv (n + 1), ct := Pv (n + 1), bk := D.nx } ((σ'.set i (some (.int (n : Int)))).set j (some v)) H2) ∧ (∀ σ' H', Pv as.length σ' H' → D.nx σ' H')) :
    tFor (iEnum K (tCons tl tNil)) (gTup K 2 (gCons (gName i) (gCons (gName j) gNil))) tu D σ H :=
  h H (Ex.refl H) _ fun v H1 e ⟨p, vs, ev, hp, rs⟩ => by
    obtain ⟨Pv, h0, hk, hs, hd⟩ := kk p vs H1 e hp rs
    refine ⟨p, vs, by rw [ev], SqL.of hp, for_it (walk_enum (xs := vs)) (D := D) Pv h0 (fun n σ' H' _ q => SqL.of (hk n σ' H' q).1) (fun n x σ' H' H2 hn q y => ?_) (fun σ' H' q => hd σ' H' (by rw [← rs.length]; exact q))⟩
    obtain ⟨T, x1, y1, rfl, hT, rfl, ex, hy⟩ := y
    have ex := Option.some.inj ex
    subst ex
    obtain ⟨z, hz, rz⟩ := paired_get' (hk n σ' H' q).2 hy
    exact ⟨T, _, rfl, SqT.of upd_same, rfl, _, _, rfl, _, _, rfl, rfl, hs n y1 z σ' H' _ hz (Ex.new hT) (rmono (Ex.new hT) rz) q⟩
/-- for x in a tuple -/
theorem r_forU1 {tl : TE} {as : List α} (h : EvR K tl σ H (Tu.mk as)) (kk : ∀ p vs H1, Ex H H1 → H1 p = some (.tup vs) → Paired (rep K H1) vs as → ∃ Pv : Nat → L2.St → Hp → Prop, Pv 0 σ H1 ∧ (∀ n σ' H', Pv n σ' H' → Ex H1 H') ∧
      (∀ n v x σ' H', as[n]? = some x → rep K H' v x → Pv n σ' H' → g v σ' H' fun σ2 H2 => tu { D with nx := Pv (n + 1), ct := Pv (n + 1), bk := D.nx } σ2 H2) ∧ (∀ σ' H', Pv as.length σ' H' → D.nx σ' H')) : tFor (iTup K tl) g tu D σ H :=
  h H (Ex.refl H) _ fun v H1 e ⟨p, vs, ev, hp, rs⟩ => by
    obtain ⟨Pv, h0, hk, hs, hd⟩ := kk p vs H1 e hp rs
    refine ⟨p, ev, ⟨vs, SqT.of hp⟩, for_tup (D := D) Pv h0 (fun n σ' H' _ q => SqT.of (hk n σ' H' q _ _ hp)) (fun n x σ' H' hx q => ?_) (fun σ' H' q => hd σ' H' (by rw [← (show vs.length = as.length from rs.length)]; exact q))⟩
    obtain ⟨y, hy, ry⟩ := paired_get' rs hx
    exact hs n x y σ' H' hy (rmono (hk n σ' H' q) ry) q
/-- xs[i] = e, xs a list of one's own -/
theorem r_setL [RepT K α] {to ti : TE} {l : Addr} {us : List V} {as : List α} {i : Int} {H0 : Hp} (h0 : H0 l = none) (hex : Ex H0 H) (hl : H l = some (.lst us)) (hs : Paired (rep K H) us as) (hv : EvR K te σ H a) (ho : Ev to σ H (.ref l)) (hi : EvR K ti σ H i) (hi0 : 0 ≤ i) (hi1 : i < (as.length : Int))
    (kk : ∀ us' H2, Ex H0 H2 → H2 l = some (.lst us') → Paired (rep K H2) us' (as.set i.toNat a) → tz D σ H2) : tSeq (tAsg te (gSub to ti rSetL)) tz D σ H :=
  hv H (Ex.refl H) _ fun v H1 e1 r => ho H1 e1 _ fun H2 e2 => hi.ev H2 (e1.trans e2) _ fun H3 e3 => by
    have e13 := (e1.trans e2).trans e3
    have hl3 := e13 _ _ hl
    have hn := not_tup_lst hl3
    have hlen : us.length = as.length := hs.length
    refine ⟨l, us, i, i.toNat, rfl, rfl, hl3, ?_, ?_⟩
    · have := ixN_nat (n := us.length) (j := i.toNat) (by omega)
      rw [Int.toNat_of_nonneg hi0] at this
      exact this
    · exact kk _ _ (Ex.mut (hex.trans e13) h0) upd_same (paired_set (RepT.stab hn (rmono (e2.trans e3) r)) _ (pstab hn (pmono e13 hs)))
/-- [e for i, x in enumerate(xs) if c] -/
def enumC {α β : Type} (as : List α) (c : Nat → α → Bool) (f : Nat → α → β) : List β := (as.zipIdx.filter fun z => c z.2 z.1).map fun z => f z.2 z.1
theorem enumC_step {α β : Type} {as : List α} {c : Nat → α → Bool} {f : Nat → α → β} {n : Nat} {x : α} (hx : as[n]? = some x) : enumC (as.take (n + 1)) c f = enumC (as.take n) c f ++ (if c n x = true then [f n x] else []) := by
  have hn : n < as.length := (List.getElem?_eq_some_iff.mp hx).1
  have hs : as.take (n + 1) = as.take n ++ [x] := by
    rw [List.take_succ, hx]
    rfl
  unfold enumC
  rw [hs, List.zipIdx_append, List.filter_append, List.map_append]
  have hl : (as.take n).length = n := by rw [List.length_take]; omega
  rw [hl]
  congr 1
  simp only [List.zipIdx_cons, List.zipIdx_nil, Nat.zero_add]
  split
  · rename_i h
    simp [h]
  · rename_i h
    simp [h]
theorem evn_lcE [RepT K β] {tl : TE} {as : List α} {vs : List Nat} (c : Nat → α → Bool) (f : Nat → α → β) (h : EvR K tl σ H as) (hz : as.length ≤ 90000) (hw : ∀ v w, wipe (((wipe σ vs).set i (some v)).set j (some w)) vs = wipe σ vs)
    (hc : ∀ (n : Nat) (x : α) (v : V) H1, Ex H H1 → as[n]? = some x → rep K H1 v x → EvT t (((wipe σ vs).set i (some (.int (n : Int)))).set j (some v)) H1 (c n x))
    (he : ∀ (n : Nat) (x : α) (v : V) H1, Ex H H1 → as[n]? = some x → rep K H1 v x → c n x = true → EvR K te (((wipe σ vs).set i (some (.int (n : Int)))).set j (some v)) H1 (f n x)) :
    EvN K (tLc (iEnum K (tCons tl tNil)) (gTup K 2 (gCons (gName i) (gCons (gName j) gNil))) t te vs) σ H (enumC as c f) := fun H0 e Q q => h H0 e _ fun v H1 e1 ⟨p, us, ev, hp, rs⟩ =>
  ⟨p, us, by rw [ev], SqL.of hp, fun Dl hD => lc_it (walk_enum (xs := us)) (fun n H' => Ex H1 H' ∧ ∃ acc, H' Dl = some (.lst acc) ∧ acc.length ≤ n ∧ Paired (rep K H') acc (enumC (as.take n) c f)) ⟨Ex.new hD, [], upd_same, Nat.le_refl _, by rw [List.take_zero]; exact .nil⟩ (fun n H' _ c => SqL.of (c.1 _ _ hp))
    (fun n y H' H'' hn cc yy => by
      obtain ⟨T, x1, y1, rfl, hT, rfl, exx, hy⟩ := yy
      have exx := Option.some.inj exx
      subst exx
      obtain ⟨c1, acc, c2, cl, c3⟩ := cc
      obtain ⟨x, hx, rx⟩ := paired_get' (pmono c1 rs) hy
      have eT := Ex.new (o := .tup [.int (n : Int), y1]) hT
      have c1T := c1.trans eT
      refine ⟨T, _, rfl, SqT.of upd_same, rfl, _, _, rfl, _, _, rfl, rfl, hw _ _, ?_⟩
      have hlen : us.length = as.length := rs.length
      refine hc n x y1 _ ((e.trans e1).trans c1T) hx (rmono eT rx) _ (Ex.refl _) _ fun H3 e3 => ?_
      cases hcn : c n x with
      | true =>
        rw [if_pos rfl]
        refine he n x y1 _ ((e.trans e1).trans c1T) hx (rmono eT rx) hcn H3 e3 _ fun z H4 e4 rz => ⟨acc, e4 _ _ (e3 _ _ (eT _ _ c2)), sz_lt ?_, Ex.mut ((c1T.trans e3).trans e4) hD, _, upd_same, ?_, ?_⟩
        · omega
        · rw [List.length_append]; simp; omega
        · have hnt := not_tup_lst (e4 _ _ (e3 _ _ (eT _ _ c2)))
          rw [enumC_step hx, hcn, if_pos rfl]
          exact paired_append (pstab hnt (pmono ((eT.trans e3).trans e4) c3)) (.cons (RepT.stab hnt rz) .nil)
      | false =>
        rw [if_neg Bool.false_ne_true]
        refine ⟨c1T.trans e3, acc, e3 _ _ (eT _ _ c2), by omega, ?_⟩
        rw [enumC_step hx, hcn, if_neg Bool.false_ne_true, List.append_nil]
        exact pmono (eT.trans e3) c3) (fun H' c => by
      obtain ⟨c1, acc, c2, _, c3⟩ := c
      rw [rs.length, List.take_length] at c3
      exact q _ _ _ (fresh_back e1 hD) (e1.trans c1) c2 c3)⟩
end
end Mt
namespace Mt
open PySem PySem.Spec L2 Evl PyProof.Rows
/-! ### all worths, bit by bit -/
def AllSm (ps : List (Int × Int)) : Prop := ∀ p ∈ ps, Sm p
def sumOf (ps : List (Int × Int)) : Int := ps.foldl (fun acc p => xr acc (worthOf p)) 0
def wN (p : Int × Int) : Nat := (worthOf p).toNat
theorem xr_nonneg (x y : Int) : 0 ≤ xr x y := Int.natCast_nonneg _
theorem fold_nim (ps : List (Int × Int)) : ∀ z : Nat, ps.foldl (fun acc p => xr acc (worthOf p)) (z : Int) = ((z ^^^ nim (ps.map wN) : Nat) : Int) := by
  induction ps with
  | nil => intro z; simp [nim]
  | cons p r ih =>
    intro z
    show r.foldl _ (xr (z : Int) (worthOf p)) = _
    have e : xr (z : Int) (worthOf p) = ((z ^^^ wN p : Nat) : Int) := rfl
    rw [e, ih, List.map_cons]
    show _ = ((z ^^^ (wN p ^^^ nim (r.map wN)) : Nat) : Int)
    rw [← Nat.xor_assoc]
theorem sumOf_nim (ps : List (Int × Int)) : sumOf ps = (nim (ps.map wN) : Nat) := by
  have h := fold_nim ps 0
  rw [Nat.zero_xor] at h
  exact h
theorem sumOf_nonneg (ps : List (Int × Int)) : 0 ≤ sumOf ps := by rw [sumOf_nim]; exact Int.natCast_nonneg _
theorem sumOf_step {ps : List (Int × Int)} {n : Nat} {p : Int × Int} (hx : ps[n]? = some p) : sumOf (ps.take (n + 1)) = xr (sumOf (ps.take n)) (worthOf p) := by
  have hs : ps.take (n + 1) = ps.take n ++ [p] := by
    rw [List.take_succ, hx]
    rfl
  unfold sumOf
  rw [hs, List.foldl_append]
  rfl
theorem wN_of {p : Int × Int} (h : Pos p) : ((wN p : Nat) : Int) = worthOf p := by unfold wN; have := worth_nonneg h; omega
theorem sumOf_set {ps : List (Int × Int)} {i : Nat} {p q : Int × Int} (hx : ps[i]? = some p) : sumOf (ps.set i q) = ((nim (ps.map wN) ^^^ (wN p ^^^ wN q) : Nat) : Int) := by
  rw [sumOf_nim, List.map_set, nim_set (ps.map wN) i (wN q) (wN p) (by rw [List.getElem?_map, hx]; rfl)]
/-! ### the answers' own word -/
def nthP (ps : List (Int × Int)) (i : Int) : Int × Int := ps.getD i.toNat (1, 1)
theorem nthP_ix {ps : List (Int × Int)} {i : Int} (h0 : 0 ≤ i) (h1 : i < (ps.length : Int)) : ps[i.toNat]? = some (nthP ps i) := by
  unfold nthP
  rw [List.getD_eq_getElem?_getD, List.getElem?_eq_getElem (by omega)]
  rfl
theorem nthP_mem {ps : List (Int × Int)} {i : Int} (h0 : 0 ≤ i) (h1 : i < (ps.length : Int)) : nthP ps i ∈ ps := List.mem_of_getElem? (nthP_ix h0 h1)
def showsOf (a : Ans) (ps : List (Int × Int)) : Bool := match a with
  | .lost => decide (sumOf ps = 0)
  | .won i j => if (0 ≤ i ∧ i < (ps.length : Int)) ∧ (1 ≤ j ∧ j ≤ mostOf (nthP ps i)) then decide (sumOf (ps.set i.toNat (takenOf (nthP ps i) j)) = 0) else false
theorem shows_lost {a : Ans} {ps : List (Int × Int)} (h : a.isLost = true) : showsOf a ps = decide (sumOf ps = 0) := by
  cases a with
  | lost => rfl
  | won i j => cases h
theorem shows_won1 {a : Ans} {ps : List (Int × Int)} (h : a.isWon = true) (hc : (0 ≤ a.at_ ∧ a.at_ < (ps.length : Int)) ∧ (1 ≤ a.times ∧ a.times ≤ mostOf (nthP ps a.at_))) : showsOf a ps = decide (sumOf (ps.set a.at_.toNat (takenOf (nthP ps a.at_) a.times)) = 0) := by
  cases a with
  | lost => cases h
  | won i j => unfold showsOf; exact if_pos hc
theorem shows_won2 {a : Ans} {ps : List (Int × Int)} (h : a.isWon = true) (hc : ¬ ((0 ≤ a.at_ ∧ a.at_ < (ps.length : Int)) ∧ (1 ≤ a.times ∧ a.times ≤ mostOf (nthP ps a.at_)))) : showsOf a ps = false := by
  cases a with
  | lost => cases h
  | won i j => unfold showsOf; exact if_neg hc
theorem won_of {a : Ans} (h : a.isLost = false) : a.isWon = true := by cases a <;> first | rfl | cases h
def preL (a : Ans) (ps : List (Int × Int)) : Prop := a.isLost = true ∧ AllSm ps
def preW (a : Ans) (ps : List (Int × Int)) : Prop := a.isWon = true ∧ AllSm ps
section
variable {K : PySem.W.Frag} {mg : Str → Option Value} {CA CL CW : Addr} {σ : L2.St} {H : Hp} {te ta tb : TE} {a : Ans}
theorem evr_shows (T : AnsTxt K mg CA CL CW) {E : XK} {ps : List (Int × Int)} (h : EvR K ta σ H a) (hp : EvR K tb σ H ps) (hs : AllSm ps) :
    EvR K (tAlt (tMeth CL "shows" (Fn2 K preL showsOf) [] E ta (tCons tb tNil)) (tMeth CW "shows" (Fn2 K preW showsOf) [] E ta (tCons tb tNil))) σ H (showsOf a ps) := fun H1 e Q q => by
  cases a with
  | lost =>
    refine .inl (h H1 e _ fun v H2 e2 r => ?_)
    obtain ⟨p, C, dx, h1, h2, h3⟩ := id r
    have ec := T.cL.eq h2
    subst ec h1
    exact ⟨p, dx, [], rfl, h3, rfl, hp H2 (e.trans e2) _ fun w H3 e3 rw_ => ⟨_, w, .lost, ps, rfl, rmono e3 r, rw_, ⟨rfl, hs⟩, fun u H4 e4 ru => q u H4 ((e2.trans e3).trans e4) ru⟩⟩
  | won i j =>
    refine .inr (h H1 e _ fun v H2 e2 r => ?_)
    obtain ⟨p, C, dx, h1, h2, h3⟩ := id r
    have ec := T.cW.eq h2
    subst ec h1
    exact ⟨p, dx, _, rfl, h3, wf_no i j (by decide +kernel) (by decide +kernel), hp H2 (e.trans e2) _ fun w H3 e3 rw_ => ⟨_, w, .won i j, ps, rfl, rmono e3 r, rw_, ⟨rfl, hs⟩, fun u H4 e4 ru => q u H4 ((e2.trans e3).trans e4) ru⟩⟩
end
/-! ### which taking -/
def okB (p : Int × Int) (w t : Int) : Bool := (decide (1 ≤ t) && decide (t ≤ mostOf p)) && decide (worthOf (takenOf p t) = w)
def cands (p : Int × Int) (w : Int) : List Int := [((max p.1 p.2 / min p.1 p.2 - w) - 1), (max p.1 p.2 / min p.1 p.2 - w), mostOf p]
def timesTo (p : Int × Int) (w : Int) : Int := ((cands p w).find? (okB p w)).getD 0
theorem cands_hit {p : Int × Int} {w : Int} (h : Pos p) (h0 : 0 ≤ w) (h1 : w < worthOf p) : ∃ t, (cands p w).find? (okB p w) = some t := by
  obtain ⟨t, c, a, b, e⟩ := worth_hit h h0 h1
  cases hf : (cands p w).find? (okB p w) with
  | some t => exact ⟨t, rfl⟩
  | none =>
    exfalso
    have := List.find?_eq_none.mp hf t (by
      unfold cands hi lo at *
      simp only [List.mem_cons, List.not_mem_nil, or_false]
      exact c)
    apply this
    unfold okB
    simp [a, b, e]
theorem timesTo_ok {p : Int × Int} {w : Int} (h : Pos p) (h0 : 0 ≤ w) (h1 : w < worthOf p) : 1 ≤ timesTo p w ∧ timesTo p w ≤ mostOf p ∧ worthOf (takenOf p (timesTo p w)) = w := by
  obtain ⟨t, ht⟩ := cands_hit h h0 h1
  have hk := List.find?_some ht
  unfold timesTo
  rw [ht]
  unfold okB at hk
  simp only [Bool.and_eq_true, decide_eq_true_eq] at hk
  exact ⟨hk.1.1, hk.1.2, hk.2⟩
theorem find_at {α : Type} {f : α → Bool} {x : α} : ∀ {l : List α} {n : Nat}, (∀ (m : Nat) (y : α), m < n → l[m]? = some y → f y = false) → l[n]? = some x → f x = true → l.find? f = some x
  | [], n, _, h, _ => by simp at h
  | a :: r, 0, _, h, hx => by
    have e : a = x := by simpa using h
    subst e
    rw [List.find?_cons, hx]
  | a :: r, n + 1, hm, h, hx => by
    rw [List.find?_cons, hm 0 a (Nat.succ_pos n) rfl]
    exact find_at (n := n) (fun m y h1 h2 => hm (m + 1) y (Nat.succ_lt_succ h1) (by simpa using h2)) (by simpa using h) hx
/-! ### who wins -/
def toldGo (s : Int) : Nat → List (Int × Int) → Ans
  | _, [] => .lost
  | n, p :: r => if xr (worthOf p) s < worthOf p then .won n (timesTo p (xr (worthOf p) s)) else toldGo s (n + 1) r
def toldOf (ps : List (Int × Int)) : Ans := if sumOf ps = 0 then .lost else toldGo (sumOf ps) 0 ps
theorem toldGo_drop {s : Int} {ps : List (Int × Int)} {n : Nat} {p : Int × Int} (hx : ps[n]? = some p) : toldGo s n (ps.drop n) = if xr (worthOf p) s < worthOf p then .won n (timesTo p (xr (worthOf p) s)) else toldGo s (n + 1) (ps.drop (n + 1)) := by
  obtain ⟨hn, he⟩ := List.getElem?_eq_some_iff.mp hx
  rw [List.drop_eq_getElem_cons hn, he]
  rfl
theorem toldGo_won (s : Int) (ps : List (Int × Int)) : ∀ n : Nat, (∃ (i : Nat) (p : Int × Int), ps[i]? = some p ∧ xr (worthOf p) s < worthOf p) →
    ∃ (i : Nat) (p : Int × Int), ps[i]? = some p ∧ xr (worthOf p) s < worthOf p ∧ toldGo s n ps = .won ((n + i : Nat) : Int) (timesTo p (xr (worthOf p) s)) := by
  induction ps with
  | nil => rintro n ⟨i, p, h, _⟩; simp at h
  | cons q r ih =>
    rintro n ⟨i, p, h, hl⟩
    by_cases c : xr (worthOf q) s < worthOf q
    · exact ⟨0, q, rfl, c, by unfold toldGo; rw [if_pos c]; rfl⟩
    · cases i with
      | zero =>
        have e : q = p := by simpa using h
        subst e
        exact absurd hl c
      | succ i =>
        obtain ⟨i', p', h1, h2, h3⟩ := ih (n + 1) ⟨i, p, by simpa using h, hl⟩
        refine ⟨i' + 1, p', by simpa using h1, h2, ?_⟩
        unfold toldGo
        rw [if_neg c, h3, show n + 1 + i' = n + (i' + 1) by omega]
theorem told_lost {ps : List (Int × Int)} (h : sumOf ps = 0) : toldOf ps = .lost := if_pos h
theorem told_won {ps : List (Int × Int)} (hs : AllSm ps) (h : sumOf ps ≠ 0) : ∃ (i : Nat) (p : Int × Int), ps[i]? = some p ∧ xr (worthOf p) (sumOf ps) < worthOf p ∧ toldOf ps = .won (i : Int) (timesTo p (xr (worthOf p) (sumOf ps))) := by
  have hn : nim (ps.map wN) ≠ 0 := by
    intro z
    rw [sumOf_nim, z] at h
    exact h rfl
  obtain ⟨i, w, hw, hlt⟩ := nim_hit hn
  rw [List.getElem?_map] at hw
  cases hp : ps[i]? with
  | none => rw [hp] at hw; cases hw
  | some p =>
    rw [hp] at hw
    have hw : wN p = w := Option.some.inj hw
    subst hw
    have hpos := (hs p (List.mem_of_getElem? hp)).pos
    obtain ⟨i', p', h1, h2, h3⟩ := toldGo_won (sumOf ps) ps 0 ⟨i, p, hp, by
      rw [← wN_of hpos, sumOf_nim]
      unfold xr
      rw [Int.toNat_natCast, Int.toNat_natCast]
      exact Int.ofNat_lt.mpr hlt⟩
    exact ⟨i', p', h1, h2, by unfold toldOf; rw [if_neg h, h3, Nat.zero_add]⟩
theorem told_shows {ps : List (Int × Int)} (hs : AllSm ps) : showsOf (toldOf ps) ps = true := by
  by_cases h : sumOf ps = 0
  · rw [told_lost h]
    exact decide_eq_true h
  · obtain ⟨i, p, h1, h2, h3⟩ := told_won hs h
    have hpos := (hs p (List.mem_of_getElem? h1)).pos
    obtain ⟨a, b, c⟩ := timesTo_ok hpos (xr_nonneg _ _) h2
    have hi := (List.getElem?_eq_some_iff.mp h1).1
    have hn : nthP ps (i : Int) = p := by
      have := nthP_ix (ps := ps) (i := (i : Int)) (by omega) (by omega)
      rw [Int.toNat_natCast, h1] at this
      exact (Option.some.inj this).symm
    rw [h3]
    unfold showsOf
    simp only
    rw [hn, if_pos ⟨⟨by omega, by omega⟩, a, b⟩, Int.toNat_natCast, sumOf_set h1]
    apply decide_eq_true
    have e : wN (takenOf p (timesTo p (xr (worthOf p) (sumOf ps)))) = wN p ^^^ nim (ps.map wN) := by
      unfold wN
      rw [c, sumOf_nim]
      unfold xr
      rw [Int.toNat_natCast, Int.toNat_natCast]
      rfl
    rw [e, ← Nat.xor_assoc (wN p), Nat.xor_self, Nat.zero_xor, Nat.xor_self]
    rfl
theorem told_isLost {ps : List (Int × Int)} (hs : AllSm ps) : (toldOf ps).isLost = decide (sumOf ps = 0) := by
  by_cases h : sumOf ps = 0
  · rw [told_lost h, decide_eq_true h]; rfl
  · obtain ⟨i, p, _, _, h3⟩ := told_won hs h
    rw [h3, decide_eq_false h]
    rfl
theorem told_isWon {ps : List (Int × Int)} (hs : AllSm ps) : (toldOf ps).isWon = !decide (sumOf ps = 0) := by
  by_cases h : sumOf ps = 0
  · rw [told_lost h, decide_eq_true h]; rfl
  · obtain ⟨i, p, _, _, h3⟩ := told_won hs h
    rw [h3, decide_eq_false h]
    rfl
theorem told_at {ps : List (Int × Int)} (hs : AllSm ps) (h : (toldOf ps).isWon = true) : (0 ≤ (toldOf ps).at_ ∧ (toldOf ps).at_ < (ps.length : Int)) ∧ (1 ≤ (toldOf ps).times ∧ (toldOf ps).times ≤ mostOf (nthP ps (toldOf ps).at_)) ∧ sumOf (ps.set (toldOf ps).at_.toNat (takenOf (nthP ps (toldOf ps).at_) (toldOf ps).times)) = 0 := by
  have hsh := told_shows hs
  by_cases hc : (0 ≤ (toldOf ps).at_ ∧ (toldOf ps).at_ < (ps.length : Int)) ∧ (1 ≤ (toldOf ps).times ∧ (toldOf ps).times ≤ mostOf (nthP ps (toldOf ps).at_))
  · rw [shows_won1 h hc] at hsh
    exact ⟨hc.1, hc.2, of_decide_eq_true hsh⟩
  · rw [shows_won2 h hc] at hsh
    cases hsh
theorem AllSm.set {ps : List (Int × Int)} (h : AllSm ps) {q : Int × Int} (hq : Sm q) (i : Nat) : AllSm (ps.set i q) := fun p hp => by
  rcases List.mem_or_eq_of_mem_set hp with c | c
  · exact h p c
  · exact c ▸ hq
/-- a taking behind lost ones -/
theorem sum_taken {ps : List (Int × Int)} {i : Nat} {p : Int × Int} {t : Int} (hs : AllSm ps) (h : sumOf ps = 0) (hx : ps[i]? = some p) (h1 : 1 ≤ t) (h2 : t ≤ mostOf p) : sumOf (ps.set i (takenOf p t)) ≠ 0 := by
  have hp := (hs p (List.mem_of_getElem? hx))
  have hz : nim (ps.map wN) = 0 := by
    rw [sumOf_nim] at h
    exact Int.ofNat.inj h
  rw [sumOf_set hx, hz, Nat.zero_xor]
  intro z
  have z : wN p ^^^ wN (takenOf p t) = 0 := Int.ofNat.inj z
  have e : wN p = wN (takenOf p t) := by
    have h := congrArg (fun k => k ^^^ wN (takenOf p t)) z
    simp only [Nat.xor_assoc, Nat.xor_self, Nat.xor_zero, Nat.zero_xor] at h
    exact h
  have e2 : worthOf (takenOf p t) = worthOf p := by
    rw [← wN_of hp.pos, ← wN_of (taken_pos hp.pos h1 h2), e]
  exact worth_ne hp.pos h1 h2 e2
theorem nim_lt {b : Nat} : ∀ {ws : List Nat}, (∀ w ∈ ws, w < 2 ^ b) → nim ws < 2 ^ b
  | [], _ => Nat.two_pow_pos b
  | w :: r, h => Nat.xor_lt_two_pow (h w List.mem_cons_self) (nim_lt fun x hx => h x (List.mem_cons_of_mem _ hx))
theorem sumOf_bt {b : Nat} {ps : List (Int × Int)} (h : ∀ p ∈ ps, Bt b (worthOf p)) : Bt b (sumOf ps) := by
  rw [sumOf_nim]
  unfold Bt
  rw [Int.natAbs_natCast]
  refine nim_lt fun w hw => ?_
  obtain ⟨p, hp, rfl⟩ := List.mem_map.mp hw
  have := h p hp
  unfold Bt at this
  unfold wN
  omega
theorem and_of {a b : Prop} [Decidable a] [Decidable b] (h : (decide a && decide b) = true) : a ∧ b := by simpa using h
theorem nand_of {a b : Prop} [Decidable a] [Decidable b] (h : (!(decide a && decide b)) = false) : a ∧ b := by simpa using h
end Mt
namespace PySem
open Sem (wp)
open AutoSeq1 (wpAny_loadPart')
set_option maxRecDepth 100000
theorem mt_enumerate_newT (l : Addr) (items : Array Value) (n : Nat) (dct : Option Addr) (sl : Array (Option Value)) :
    Meets (Builtin.«enumerate.__new__» ⟨[.type "enumerate", .ref l], []⟩) (fun _ R s => s.heap.get? l = some { cls := .type "tuple", dict := dct, data := .seq items n, slots := sl } ∧
      R (.ok (.ret (.ref (s.heap.push { cls := .type "tuple_iterator", data := .fields #[.ref l, .int 0 0] }).objs.size)))
        { s with heap := (s.heap.push { cls := .type "tuple_iterator", data := .fields #[.ref l, .int 0 0] }).push { cls := .type "enumerate", data := .fields #[.none, .bool false, .ref s.heap.objs.size, rawInt 0, .none, .none] } }) :=
  .of_wp fun prog w A R s h => by
    obtain ⟨hp, g, d, tk, os⟩ := s; obtain ⟨hl, h⟩ := h
    have hsub := sub_enumerate
    have hL : Heap.IsTuple (Shared.heap ⟨hp, g, d, tk, os⟩) l items := ⟨_, hl, rfl, n, rfl⟩
    wp_walk using wpAny_loadPart' hl
    refine wpAny_stack_any fun st => wpAny_pure ?_
    split
    · rename_i c _ _ _ _ _
      cases (c == Value.type "enumerate")
      · wp_walk using wpAny_loadPart' hl, wpAny_pyIter_tuple hL
        exact ⟨_, rfl, h⟩
      · wp_walk using wpAny_loadPart' hl, wpAny_pyIter_tuple hL
        exact ⟨_, rfl, h⟩
    · wp_walk using wpAny_loadPart' hl, wpAny_pyIter_tuple hL
      exact ⟨_, rfl, h⟩
theorem mt_call_enumerate_tuple {prog : Program} {w : World} {A : Around} {E : Value → Shared → Prop} {s : Shared} {l : Addr} {items : Array Value} {Q : Value → Shared → Prop} (hL : s.heap.IsTuple l items)
    (h : ∀ h', IsEnum h' (s.heap.objs.size + 1) s.heap.objs.size 0 .none → h'.IsTupleIter s.heap.objs.size l 0 → h'.objs.size = s.heap.objs.size + 2 →
      (∀ b o, s.heap.get? b = some o → h'.get? b = some o) → Q (.ref (s.heap.objs.size + 1)) { s with heap := h' }) :
    wpAny (model prog w) A (call (.type "enumerate") [.ref l]) Q E s := by
  obtain ⟨⟨c, dct, dt, sl⟩, hl, hc, n, hd⟩ := hL
  replace hc : c = .type "tuple" := hc
  replace hd : dt = .seq items n := hd
  subst hc hd
  refine callType_new F.called_enumerate (by decide) (F.typeCall_enumerate_1 _) (F.newCall_enumerate_1 _) (fun obj => F.args_object_init_2 obj _) F.entry_enumerate_new
    (mt_enumerate_newT l items n dct sl) ⟨hl, ?_⟩
  have hz : (s.heap.push { cls := .type "tuple_iterator", data := .fields #[.ref l, .int 0 0] }).objs.size = s.heap.objs.size + 1 := Heap.size_push ..
  show _ ∧ _
  rw [hz]
  have he : IsEnum ((s.heap.push { cls := .type "tuple_iterator", data := .fields #[.ref l, .int 0 0] }).push
      { cls := .type "enumerate", data := .fields #[.none, .bool false, .ref s.heap.objs.size, rawInt 0, .none, .none] }) (s.heap.objs.size + 1) s.heap.objs.size 0 .none := by
    have := Heap.get?_push_size (s.heap.push { cls := .type "tuple_iterator", data := .fields #[.ref l, .int 0 0] })
      (o := { cls := .type "enumerate", data := .fields #[.none, .bool false, .ref s.heap.objs.size, rawInt 0, .none, .none] }) rfl
    rw [hz] at this; exact this
  refine ⟨⟨_, he, rfl⟩, h _ he ⟨_, Heap.get?_push_of_some _ (Heap.get?_push_size _ rfl), rfl, rfl⟩ (by rw [Heap.size_push, hz]) fun b o x => Heap.get?_push_of_some _ (Heap.get?_push_of_some _ x)⟩
theorem mt_pyNext_enum_endT {prog : Program} {w : World} {A : Around} {E : Value → Shared → Prop} {s : Shared} {e it l : Addr} {i : Nat} {items : Array Value} {old : Value} {Q : Option Value → Shared → Prop} (hh : A.handled = none)
    (he : IsEnum s.heap e it i old) (hit : s.heap.IsTupleIter it l i) (hl : s.heap.IsTuple l items) (hx : items[i]? = none)
    (hQ : ∀ h', Heap.ExtBut it s.heap h' → Q none { s with heap := h' }) : wpAny (model prog w) A (pyNext (.ref e)) Q E s := by
  have hT : s.TypeIs (.ref e) "enumerate" := ⟨_, he, rfl⟩
  unfold pyNext
  refine wpAny_bind (wpAny_attempt (wpAny_callSpecial?_slot (name := Str.ofString "__next__") hT F.slot_enumerate_next
    (wpAny_call_entry F.slot_enumerate_next hT F.entry_enumerate_next ?_ (F.args_enumerate_next_1 _))))
  show wpAny _ _ (field (.ref e) 2 >>= _) _ _ _
  refine wpAny_bind (wpAny_field he rfl (x := .ref it) rfl ?_)
  refine wpAny_bind (wpAny_nextOf_tuple_end hh hit hl hx fun h' x he' hx' => ?_)
  obtain ⟨o, ho, hc⟩ := hx'
  refine wpAny_bind (wpAny_isInstance (T := "StopIteration") (b := true) ⟨o, ho, hc⟩ isSubtype_stop ?_)
  exact wpAny_pure (hQ _ he')
end PySem
namespace L2
open PySem PySem.Spec PyProof.Rows
/-- the tuple at a, each item in a new pair with its place -/
def IteT (K : PySem.W.Frag) (a : Addr) : It :=
  ⟨fun i H => ∃ (xs : List V) (x : V), SqT K H a xs ∧ xs[i]? = some x, fun i H v H' => ∃ T x, v = .ref T ∧ H T = none ∧ H' = upd H T (.tup [.int (i : Nat), x]) ∧ ∀ xs, SqT K H a xs → xs[i]? = some x, fun i H => ∃ xs : List V, SqT K H a xs ∧ xs.length ≤ i⟩
theorem tup_apart {h : Heap} {a it : Addr} {items : Array Value} {i : Nat} (p : h.IsTuple a items) (q : h.IsTupleIter it a i) : a ≠ it := fun e => by
  obtain ⟨o, h1, h2, _⟩ := p
  obtain ⟨o', h3, h4, _⟩ := q
  rw [← e, h1] at h3
  cases h3
  rw [h2] at h4
  exact absurd h4 (by decide)
theorem tup_apart2 {h : Heap} {a e it : Addr} {items : Array Value} {i : Int} {old : Value} (p : h.IsTuple a items) (q : IsEnum h e it i old) : e ≠ a := fun z => by
  obtain ⟨o, h1, h2, _⟩ := p
  have q : h.get? e = _ := q
  rw [z, h1] at q
  cases q
  exact absurd (show Value.type "enumerate" = Value.type "tuple" from h2) (by decide)
theorem turn_enumT {P : Program} {w : World} {K : PySem.W.Frag} {elts : List Expr} {kk : Nat} {tpos : PySem.Pos} (a e it : Addr) :
    Turn P w K (.Tuple elts kk tpos) (IteT K a) [e, it] e (fun i h => (∃ old, IsEnum h e it ((i : Nat) : Int) old) ∧ h.IsTupleIter it a i ∧ e ≠ it) where
  mem := by simp
  obj := fun i h st b hb => by
    obtain ⟨⟨old, he⟩, ⟨o, ho, hc, hd⟩, _⟩ := st
    have e' : b = e ∨ b = it := by simpa using hb
    rcases e' with z | z
    · rw [z]; exact ⟨_, he, fun v q => nomatch q⟩
    · rw [z]; exact ⟨o, ho, fun v q => by rw [hd] at q; cases q⟩
  keep := fun i h h' st k => let ⟨⟨old, he⟩, hi, hne⟩ := st; ⟨⟨old, k e (by simp) _ he⟩, hi.at fun o q => k it (by simp) o q, hne⟩
  item := by
    intro X hP hw hK hc i pins s σ H E I hf st hg
    subst hP hw hK
    obtain ⟨⟨old, he⟩, hit, hne⟩ := st
    obtain ⟨xs, x, hq, hx⟩ := hg
    obtain ⟨its, rv, p, hz⟩ := I.tuple hq
    obtain ⟨u, hu, ru⟩ := rv.get hx
    have hel : e < s.heap.objs.size := Heap.lt_size he
    have hil : it < s.heap.objs.size := by obtain ⟨_, q, _⟩ := hit; exact Heap.lt_size q
    have hlt : i < its.toArray.size := by
      have := (List.getElem?_eq_some_iff.mp hu).1
      simpa using this
    refine wpAny_pyNext_enum_itemD (Draws.tuple (A := X.A.in1) (I.ok.hd hc) it a (tup_apart p hit) its.toArray) he ⟨hit, p⟩ hlt hne (by
      intro hm
      rcases List.mem_cons.mp hm with c | c
      · exact hne c
      · exact tup_apart2 p he (List.mem_singleton.mp c)) fun x' h' tk hP ho hit' hT hsz hk => ?_
    have hxu : x' = u := by
      have hP : its.toArray[i]? = some x' := hP
      have h2 : its.toArray[i]? = some u := by simpa using hu
      rw [h2] at hP
      exact (Option.some.inj hP).symm
    subst hxu
    refine ⟨_, rfl, wpAny_letOwnedTupleGo_enum (s := { s with heap := h', toks := tk + 1 }) ho fun h'' he' sb => ?_⟩
    have hT2 : h''.get? s.heap.objs.size = some { cls := .type "tuple", data := .seq #[.int i tk, x'] } := (sb.2 _ (Nat.ne_of_gt hel)).trans hT
    have new : ObjOk X.prog X.w (upd H s.heap.objs.size (.tup [.int (i : Nat), x])) h'' s.heap.objs.size (.tup [.int (i : Nat), x]) :=
      ⟨by show 2 ≤ sizeLine; decide, [.int i tk, x'], .cons ⟨_, rfl⟩ (.cons ru .nil), ⟨_, hT2, rfl, _, rfl⟩⟩
    have I1 : Inv X pins σ (upd H s.heap.objs.size (.tup [.int (i : Nat), x])) { s with heap := h'', toks := tk + 1 } :=
      I.turnedNew (ch := [e, it]) (fun b ob hb q => (sb.2 b (fun z => hb (by simp [z]))).trans (hk b ob (fun z => hb (by simp [z])) (fun z => hb (by simp [z])) q)) hf (Nat.le_refl _) new
    refine ⟨.ref s.heap.objs.size, _, I1, rfl, ⟨_, x, rfl, I.hok.fresh (Nat.le_refl _), rfl, fun ys hy => by rw [I.tuple_inj hy hq]; exact hx⟩, ⟨⟨x', ?_⟩, hit'.1.at fun o q => (sb.2 it (Ne.symm hne)).trans q, hne⟩, fun b hb => ?_⟩
    · have e1 : ((i + 1 : Nat) : Int) = (i : Int) + 1 := by omega
      rw [e1]; exact he'
    · have hb' : b < s.heap.objs.size := by
        have e' : b = e ∨ b = it := by simpa using hb
        rcases e' with z | z
        · rw [z]; exact hel
        · rw [z]; exact hil
      rw [upd_ne (Nat.ne_of_lt hb')]
      exact (hf b hb).1
  done := by
    intro X hP hw hK hc i pins s σ H E I hf st hg
    subst hP hw hK
    obtain ⟨⟨old, he⟩, hit, hne⟩ := st
    obtain ⟨xs, hq, hx⟩ := hg
    obtain ⟨its, rv, p, hz⟩ := I.tuple hq
    obtain ⟨f0, f1, f2, f3, f4, f5⟩ := hf it (by simp)
    have hl := rv.length
    exact mt_pyNext_enum_endT (I.ok.hd hc) he hit p (by simp; omega) fun h' eb => ⟨rfl, I.turned (t' := s.toks) (fun b o hb q => eb b o hb q) f0 f1 f3 f4 f5⟩
  self := fun A i s Q E st h => let ⟨⟨_, he⟩, _⟩ := st; wpAny_pyIter_enum he h
def iEnumT (K : PySem.W.Frag) (ta : TA) : TI := fun σ H R => ta σ H fun vs H1 => ∃ a xs, vs = [.ref a] ∧ SqT K H1 a xs ∧ R (IteT K a) H1
theorem pi_enumT {X : Cx} {e : Expr} {ta : TA} {p pos tpos : PySem.Pos} {elts : List Expr} {kk : Nat} (hg : Gl X "enumerate") (hm : X.mg "enumerate" = none) (ha : PA X [e] ta) (hs : starEach [e] X.env = [(false, eval e X.env)] := by rfl) :
    PI X (.Tuple elts kk tpos) (.Call (.Name "enumerate" p) [e] [] pos) (iEnumT X.K ta) := by
  refine ⟨fun pins s σ H R I h => ?_⟩
  refine Call_ (ld_blt I hg hm boot_enumerate (PyProof.Rows.callWith_type1 (thn (ha.run pos pins s σ H _ I h) fun us s1 ⟨vs, H1, I1, r1, q1⟩ => ?_) hs rfl))
  obtain ⟨a, xs, ex, hq, q⟩ := q1
  subst ex
  cases r1 with
  | cons r rr =>
    cases rr
    cases r
    obtain ⟨its, rv, p', hz⟩ := I1.tuple hq
    refine mt_call_enumerate_tuple p' fun h' he hit hsz hk => wpAny_pyIter_enum he ?_
    have I2 : Inv X pins σ H1 { s1 with heap := h' } := I1.kept (t' := s1.toks) hk
    refine ⟨s1.heap.objs.size + 1, [s1.heap.objs.size + 1, s1.heap.objs.size], _, _, H1, rfl, I2, turn_enumT a (s1.heap.objs.size + 1) s1.heap.objs.size, ⟨⟨.none, he⟩, hit, Nat.succ_ne_self _⟩, fun b hb => ?_, q⟩
    have e' : b = s1.heap.objs.size + 1 ∨ b = s1.heap.objs.size := by simpa using hb
    have hle : s1.heap.objs.size ≤ b := by
      rcases e' with z | z
      · rw [z]; exact Nat.le_add_right _ _
      · rw [z]; exact Nat.le_refl _
    exact I1.fpOk hle (I1.hok.fresh hle)
theorem walk_enumT {K : PySem.W.Frag} {a : Addr} {xs : List V} : Walk (IteT K a) xs.length (fun H => SqT K H a xs) (YPair (fun i => some (.int (i : Nat))) (fun i => xs[i]?)) := by
  refine ⟨fun i _ hi q => ⟨xs, xs[i], q, by simp [hi]⟩, fun _ q => ⟨xs, q, Nat.le_refl _⟩, fun i H v H' _ q y => ?_⟩
  obtain ⟨T, x, h1, h2, h3, h4⟩ := y
  exact ⟨T, .int (i : Nat), x, h1, h2, h3, rfl, h4 xs q⟩
end L2
namespace Mt
open PySem PySem.Spec L2 Evl PyProof.Rows
/-! ### a dict whose keys are tuples of pairs -/
def kOf (ps : List (Int × Int)) : NestedKey := .tup (ps.map fun p => .tup [.num p.1, .num p.2])
theorem kOf_inj {ps qs : List (Int × Int)} (h : kOf ps = kOf qs) : ps = qs := by
  have h := NestedKey.tup.inj h
  induction ps generalizing qs with
  | nil => cases qs with
    | nil => rfl
    | cons q qs => cases h
  | cons p ps ih => cases qs with
    | nil => cases h
    | cons q qs =>
      simp only [List.map_cons, List.cons.injEq, NestedKey.tup.injEq, NestedKey.num.injEq] at h
      rw [ih (congrArg NestedKey.tup h.2) h.2, Prod.ext h.1.1 h.1.2.1]
abbrev NdE := NestedKey × Addr × Value
def NdP (P : Program) (w : World) (d : Addr) (xs : List NdE) : Heap → Prop := fun h => xs.length ≤ sizeLine ∧ (d == sysModules) = false ∧ ∃ o es ep, h.get? d = some o ∧ o.ExactDict ∧ o.data = .dict es ep ∧ es.toList = xs.map (entryOfKey (nestedKind P w)) ∧ (xs.map (·.1)).Nodup
def NdO (P : Program) (w : World) (d : Addr) (xs : List NdE) : HO := .ext (NdP P w d xs)
/-- what is known: at d a dict with the keys and truths of l -/
structure DN (P : Program) (w : World) (K : PySem.W.Frag) (H : Hp) (d : Addr) (l : List (List (Int × Int) × Bool)) : Prop where
  ex : ∃ xs, H d = some (NdO P w d xs) ∧ Paired (fun (x : NdE) (e : List (Int × Int) × Bool) => x.1 = kOf e.1 ∧ rep K H (.ref x.2.1) (Tu.mk e.1) ∧ x.2.2 = Value.bool e.2) xs l
section
variable {X : Cx} {pins : List (Addr × Obj)} {σ : L2.St} {H : Hp} {s : Shared}
theorem nd_all (I : Inv X pins σ H s) : ∀ {vs : List V} {us : List Value} {ps : List (Int × Int)}, Vals vs us → Paired (rep X.K H) vs ps → NestedAll s.heap (ps.map fun p => .tup [.num p.1, .num p.2]) us
  | _, _, _, .nil, .nil => .nil
  | _, _, _, .cons rv t, .cons (b := p) ⟨q, x, y, h1, h2, h3, h4⟩ t2 => by
    subst h1
    obtain rfl : _ = Value.ref q := rv
    have h3 : x = V.int p.1 := h3
    have h4 : y = V.int p.2 := h4
    subst h3 h4
    obtain ⟨_, its, r, o, e1, e2, n, e3⟩ := (show ObjOk X.prog X.w H s.heap q (.tup [.int p.1, .int p.2]) from I.hok q _ h2)
    refine .cons (.tup e1 e2 e3 ?_) (nd_all I t t2)
    cases r with
    | cons r1 r => cases r with
      | cons r2 r => cases r with
        | nil =>
          obtain ⟨t1, rfl⟩ := (show ∃ t, _ = Value.int p.1 t from r1)
          obtain ⟨t2, rfl⟩ := (show ∃ t, _ = Value.int p.2 t from r2)
          exact .cons (.int _ _) (.cons (.int _ _) .nil)
theorem depth_pairs : ∀ ps : List (Int × Int), NestedKey.depthAll (ps.map fun p => NestedKey.tup [.num p.1, .num p.2]) ≤ 3
  | [] => by simp [NestedKey.depthAll]
  | p :: ps => by
    have := depth_pairs ps
    simp only [List.map_cons, NestedKey.depthAll, NestedKey.depth]
    omega
theorem nd_key (I : Inv X pins σ H s) {b : Addr} {ps : List (Int × Int)} (r : rep X.K H (.ref b) (Tu.mk ps)) : (nestedKind X.prog X.w).is s.heap (kOf ps) b := by
  obtain ⟨p, vs, h1, h2, h3⟩ := r
  cases h1
  obtain ⟨_, its, rv, o, e1, e2, n, e3⟩ := (show ObjOk X.prog X.w H s.heap b (.tup vs) from I.hok b _ h2)
  refine ⟨.tup e1 e2 e3 (nd_all I rv h3), ?_⟩
  have := depth_pairs ps
  show NestedKey.depth (.tup _) ≤ 8
  simp only [NestedKey.depth]
  omega
theorem nd_of (I : Inv X pins σ H s) {d : Addr} {l : List (List (Int × Int) × Bool)} (D : DN X.prog X.w X.K H d l) : ∃ xs, H d = some (NdO X.prog X.w d xs) ∧ xs.length ≤ sizeLine ∧ (d == sysModules) = false ∧ s.heap.DictOfH (nestedKind X.prog X.w) d xs ∧
    Paired (fun (x : NdE) (e : List (Int × Int) × Bool) => x.1 = kOf e.1 ∧ rep X.K H (.ref x.2.1) (Tu.mk e.1) ∧ x.2.2 = Value.bool e.2) xs l := by
  obtain ⟨xs, hd, hp⟩ := D.ex
  obtain ⟨⟨h1, h2, o, es, ep, h3, h4, h5, h6, h7⟩, _, _⟩ := (show ObjOk X.prog X.w H s.heap d (.ext (NdP X.prog X.w d xs)) from I.hok d _ hd)
  refine ⟨xs, hd, h1, h2, ⟨o, es, ep, h3, h4, h5, h6, fun x hx => ?_, h7⟩, hp⟩
  obtain ⟨i, hi⟩ := List.mem_iff_getElem?.mp hx
  obtain ⟨e, he, r1, r2, r3⟩ := paired_get' hp hi
  rw [r1]
  exact nd_key I r2
end
theorem at_some {K : PySem.W.Frag} {H : Hp} {ps : List (Int × Int)} : ∀ {xs : List NdE} {l : List (List (Int × Int) × Bool)}, Paired (fun (x : NdE) (e : List (Int × Int) × Bool) => x.1 = kOf e.1 ∧ rep K H (.ref x.2.1) (Tu.mk e.1) ∧ x.2.2 = Value.bool e.2) xs l →
    (atKey xs (kOf ps)).isSome = l.any (fun e => decide (e.1 = ps))
  | _, _, .nil => rfl
  | _, _, .cons (a := x) (b := e) r t => by
    have ih := at_some (ps := ps) t
    by_cases c : e.1 = ps
    · have : x.1 = kOf ps := by rw [r.1, c]
      simp [atKey, this, c]
    · have : ¬ x.1 = kOf ps := fun z => c (kOf_inj (r.1.symm.trans z))
      simp only [atKey, if_neg this, List.any_cons, decide_eq_false c, Bool.false_or] at ih ⊢
      simpa [atKey, this] using ih
theorem at_get {K : PySem.W.Frag} {H : Hp} {ps : List (Int × Int)} {r : Bool} : ∀ {xs : List NdE} {l : List (List (Int × Int) × Bool)}, Paired (fun (x : NdE) (e : List (Int × Int) × Bool) => x.1 = kOf e.1 ∧ rep K H (.ref x.2.1) (Tu.mk e.1) ∧ x.2.2 = Value.bool e.2) xs l →
    (∀ e ∈ l, e.1 = ps → e.2 = r) → l.any (fun e => decide (e.1 = ps)) = true → ∃ p, atKey xs (kOf ps) = some p ∧ p.2 = Value.bool r
  | _, _, .nil, _, h => by cases h
  | _, _, .cons (a := x) (b := e) rr t, hv, h => by
    by_cases c : e.1 = ps
    · have h1 : x.1 = kOf ps := by rw [rr.1, c]
      refine ⟨x.2, by simp [atKey, h1], ?_⟩
      rw [rr.2.2, hv e List.mem_cons_self c]
    · have h1 : ¬ x.1 = kOf ps := fun z => c (kOf_inj (rr.1.symm.trans z))
      rw [List.any_cons, decide_eq_false c, Bool.false_or] at h
      obtain ⟨p, hp, hp2⟩ := at_get t (fun e he => hv e (List.mem_cons_of_mem _ he)) h
      exact ⟨p, by simpa [atKey, h1] using hp, hp2⟩
/-- the entry of ps, then r -/
def putN (l : List (List (Int × Int) × Bool)) (ps : List (Int × Int)) (r : Bool) : List (List (Int × Int) × Bool) := if (l.any fun e => decide (e.1 = ps)) = true then l.map (fun e => if e.1 = ps then (e.1, r) else e) else l ++ [(ps, r)]
theorem putN_mem {l : List (List (Int × Int) × Bool)} {ps : List (Int × Int)} {r : Bool} {e : List (Int × Int) × Bool} (h : e ∈ putN l ps r) : e ∈ l ∨ e = (ps, r) := by
  unfold putN at h
  split at h
  · obtain ⟨e0, h0, rfl⟩ := List.mem_map.mp h
    by_cases c : e0.1 = ps
    · rw [if_pos c, c]; exact .inr rfl
    · rw [if_neg c]; exact .inl h0
  · rcases List.mem_append.mp h with c | c
    · exact .inl c
    · exact .inr (List.mem_singleton.mp c)
theorem putN_key {l : List (List (Int × Int) × Bool)} (ps : List (Int × Int)) (r : Bool) : (putN l ps r).any (fun e => decide (e.1 = ps)) = true := by
  unfold putN
  split
  · rename_i h
    obtain ⟨e, he, hp⟩ := List.any_eq_true.mp h
    have hp := of_decide_eq_true hp
    exact List.any_eq_true.mpr ⟨(e.1, r), List.mem_map.mpr ⟨e, he, by rw [if_pos hp]⟩, decide_eq_true hp⟩
  · rw [List.any_append]
    simp
/-- y not in d -/
def tNNotIn (P : Program) (w : World) (K : PySem.W.Frag) (ty td : TE) : TE := fun σ H Q => ty σ H fun y H1 => td σ H1 fun x H2 => ∃ d b l ps, x = .ref d ∧ y = .ref b ∧ DN P w K H2 d l ∧ rep K H2 (.ref b) (Tu.mk ps) ∧ Q (.bl (!l.any fun e => decide (e.1 = ps))) H2
/-- d[y] -/
def tNGet (P : Program) (w : World) (K : PySem.W.Frag) (td ty : TE) : TE := fun σ H Q => td σ H fun x H1 => ty σ H1 fun y H2 => ∃ d b l ps r, x = .ref d ∧ y = .ref b ∧ DN P w K H2 d l ∧ rep K H2 (.ref b) (Tu.mk ps) ∧ (∀ e ∈ l, e.1 = ps → e.2 = r) ∧ (l.any fun e => decide (e.1 = ps)) = true ∧ Q (.bl r) H2
/-- d[y] = v -/
def sNPut (P : Program) (w : World) (K : PySem.W.Frag) (td ty tv : TE) : TS := fun D σ H => tv σ H fun v H1 => td σ H1 fun x H2 => ty σ H2 fun y H3 => ∃ d b l ps r, x = .ref d ∧ y = .ref b ∧ v = .bl r ∧ DN P w K H3 d l ∧ rep K H3 (.ref b) (Tu.mk ps) ∧ l.length < sizeLine ∧
  ∀ xs l', DN P w K (upd H3 d (NdO P w d xs)) d l' → l' = putN l ps r → D.nx σ (upd H3 d (NdO P w d xs))
/-- {} -/
def tNNew (P : Program) (w : World) : TE := fun _ H Q => ∀ p, H p = none → Q (.ref p) (upd H p (NdO P w p []))
theorem ndp_stable {P : Program} {w : World} {d : Addr} {xs : List NdE} (h1 h2 : Heap) (x : NdP P w d xs h1) (k : ∀ o, h1.get? d = some o → h2.get? d = some o) : NdP P w d xs h2 := by
  obtain ⟨a, b, o, es, ep, c, r⟩ := x
  exact ⟨a, b, o, es, ep, k o c, r⟩
section
variable {X : Cx} {pins : List (Addr × Obj)} {σ : L2.St} {H : Hp} {s : Shared} {o i e value : Expr} {pos pos' tpos : PySem.Pos} {td ty tv : TE}
theorem nd_room (hu : X.A.units + 64 < cLine) : (nestedKind X.prog X.w).room X.A.in1 := by show X.A.units + 1 + 8 < cLine; omega
theorem pc_nnotin (hu : X.A.units + 64 < cLine) (hi : PE X i ty) (ho : PE X o td) : PC X .NotIn i o (tNNotIn X.prog X.w X.K ty td) := by
  refine ⟨fun pins s σ H Q I h => ?_⟩
  refine thn (hi.run pins s σ H _ I h) fun iv s1 ⟨y, H1, I1, ry, q1⟩ => thn (ho.run pins s1 σ H1 _ I1 q1) fun u s2 ⟨x, H2, I2, rx, d, b, l, ps, ex, ey, D, r, q2⟩ => ?_
  subst ex ey
  obtain rfl : u = Value.ref d := rx
  obtain rfl : iv = Value.ref b := ry
  obtain ⟨xs, hd, z1, z2, dd, hp⟩ := nd_of I2 D
  refine wpAny_notIn_heap (nd_room hu) (nd_key I2 r) z2 dd ?_
  rw [at_some hp]
  exact ⟨.bl (!l.any fun e => decide (e.1 = ps)), H2, I2.tok _, rfl, q2⟩
theorem pe_nget (hu : X.A.units + 64 < cLine) (ho : PE X o td) (hi : PE X i ty) (hs : NoSl i) : PE X (.Subscript o i pos) (tNGet X.prog X.w X.K td ty) := by
  refine ⟨fun pins s σ H Q I h => ?_⟩
  refine subD_of PySem.F.slot_dict_getitem.lookup hs (thn (ho.run pins s σ H _ I h) fun u s1 ⟨x, H1, I1, rx, q1⟩ => thn (hi.run pins s1 σ H1 _ I1 q1) fun iv s2 ⟨y, H2, I2, ry, d, b, l, ps, r, ex, ey, D, rr, hv, ha, q2⟩ => ?_)
  subst ex ey
  obtain rfl : u = Value.ref d := rx
  obtain rfl : iv = Value.ref b := ry
  obtain ⟨xs, hd, z1, z2, dd, hp⟩ := nd_of I2 D
  obtain ⟨p, hp1, hp2⟩ := at_get hp hv ha
  refine ⟨dd.typeIs, wpAny_getItem_heap (nd_room hu) (nd_key I2 rr) dd hp1 ?_⟩
  rw [hp2]
  exact ⟨.bl r, H2, I2.tok _, rfl, q2⟩
theorem tu_upd {K : PySem.W.Frag} {H : Hp} {d : Addr} {ob : HO} {v : V} {ps : List (Int × Int)} (hn : ∀ xs, H d ≠ some (.tup xs)) (r : rep K H v (Tu.mk ps)) : rep K (upd H d ob) v (Tu.mk ps) := by
  obtain ⟨p, vs, h1, h2, h3⟩ := r
  exact ⟨p, vs, h1, by rw [upd_ne (tup_ne hn h2)]; exact h2, pstab hn h3⟩
theorem stored_paired {K : PySem.W.Frag} {H : Hp} {b : Addr} {ps : List (Int × Int)} {r : Bool} {xs : List NdE} {l : List (List (Int × Int) × Bool)} (rb : rep K H (.ref b) (Tu.mk ps))
    (hp : Paired (fun (x : NdE) (e : List (Int × Int) × Bool) => x.1 = kOf e.1 ∧ rep K H (.ref x.2.1) (Tu.mk e.1) ∧ x.2.2 = Value.bool e.2) xs l) :
    Paired (fun (x : NdE) (e : List (Int × Int) × Bool) => x.1 = kOf e.1 ∧ rep K H (.ref x.2.1) (Tu.mk e.1) ∧ x.2.2 = Value.bool e.2) (storedH xs (kOf ps) b (.bool r)) (putN l ps r) := by
  unfold storedH putN
  rw [at_some hp]
  split
  · rename_i hany
    clear hany
    induction hp with
    | nil => exact .nil
    | @cons x e xs l q t ih =>
      refine .cons ?_ ih
      by_cases c : e.1 = ps
      · have h1 : x.1 = kOf ps := by rw [q.1, c]
        dsimp only
        rw [if_pos c]
        unfold putAt
        rw [if_pos h1]
        exact ⟨q.1, q.2.1, rfl⟩
      · have h1 : ¬ x.1 = kOf ps := fun z => c (kOf_inj (q.1.symm.trans z))
        dsimp only
        rw [if_neg c]
        unfold putAt
        rw [if_neg h1]
        exact q
  · exact paired_append hp (.cons ⟨rfl, rb, rfl⟩ .nil)
theorem ps_nput (hu : X.A.units + 64 < cLine) (ho : PE X o td) (hi : PE X i ty) (hv : PE X value tv) (hs : swapsWith value (some (.Subscript o i pos')) pos.line X.env = pure false) :
    PS X (.Assign [.Subscript o i pos'] value pos) (sNPut X.prog X.w X.K td ty tv) := by
  refine ⟨fun pins s σ H D I h => ?_⟩
  refine wpAny_Assign_Subscript (thn (hv.run pins s σ H _ I h) fun rv s1 ⟨v, H1, I1, rrv, q1⟩ => thn (ho.run pins s1 σ H1 _ I1 q1) fun u s2 ⟨x, H2, I2, rx, q2⟩ => thn (hi.run pins s2 σ H2 _ I2 q2) fun iv s3 ⟨y, H3, I3, ry, d, b, l, ps, r, ex, ey, ev, DD, rr, hl, q3⟩ => ?_) hs
  subst ex ey ev
  obtain rfl : u = Value.ref d := rx
  obtain rfl : iv = Value.ref b := ry
  obtain rfl : rv = Value.bool r := rrv
  obtain ⟨xs, hd, z1, z2, dd, hp⟩ := nd_of I3 DD
  refine wpAny_setItem_heap (hsz := z1) (nd_room hu) (nd_key I3 rr) dd fun h' dd' hsb => ?_
  have hn : ∀ ys, H3 d ≠ some (.tup ys) := fun ys z => by rw [hd] at z; cases z
  obtain ⟨q, es, ep, hq, h2, h3, h4, _, h5⟩ := dd'
  have hlen : (storedH xs (kOf ps) b (.bool r)).length ≤ sizeLine := by
    rw [(stored_paired rr hp).length]
    unfold putN
    split
    · rw [List.length_map]; omega
    · rw [List.length_append]; show l.length + 1 ≤ _; omega
  have new : ObjOk X.prog X.w (upd H3 d (NdO X.prog X.w d (storedH xs (kOf ps) b (.bool r)))) h' d (NdO X.prog X.w d (storedH xs (kOf ps) b (.bool r))) :=
    ⟨⟨hlen, z2, q, es, ep, hq, h2, h3, h4, h5⟩, ⟨q, hq⟩, ndp_stable⟩
  refine ⟨σ, _, d_write I3 (by rw [hd]; exact True.intro) hsb ⟨q, hq⟩ new, q3 _ (putN l ps r) ⟨⟨_, upd_same, ?_⟩⟩ rfl⟩
  exact Paired.mapP (stored_paired rr hp) fun _ _ z => ⟨z.1, tu_upd hn z.2.1, z.2.2⟩
theorem pe_nnew : PE X (.Dict [] [] pos) (tNNew X.prog X.w) := ⟨fun pins s σ H Q I h => by
  have hd : (s.heap.objs.size == sysModules) = false := beq_eq_false_iff_ne.mpr (Ne.symm (Nat.ne_of_lt I.big))
  refine wpAny_Dict_empty ⟨.ref s.heap.objs.size, _, I.laid (a := s.heap.objs.size) (o := NdO X.prog X.w s.heap.objs.size []) (t' := s.toks) (fun _ _ q => Heap.get?_push_of_some _ q) (Nat.le_refl _) ?_, rfl, h _ (I.hok.fresh (Nat.le_refl _))⟩
  exact ⟨⟨Nat.zero_le _, hd, _, #[], 0, Heap.get?_push_size _ rfl, ⟨rfl, rfl, rfl⟩, rfl, rfl, List.nodup_nil⟩, ⟨_, Heap.get?_push_size _ rfl⟩, ndp_stable⟩⟩
end
end Mt
namespace Mt
open PySem PySem.Spec L2 Evl PyProof.Rows
/-! ### the law's own: pairs in order -/
def normP (p : Int × Int) : Int × Int := (min p.1 p.2, max p.1 p.2)
theorem hi_norm (p : Int × Int) : hi (normP p) = hi p := by unfold hi normP; simp only; omega
theorem lo_norm (p : Int × Int) : lo (normP p) = lo p := by unfold lo normP; simp only; omega
theorem worth_norm (p : Int × Int) : worthOf (normP p) = worthOf p := by unfold worthOf; rw [hi_norm, lo_norm]
theorem sum_perm {qs ps : List (Int × Int)} (h : qs.Perm (ps.map normP)) : sumOf qs = sumOf ps := by
  rw [sumOf_nim, sumOf_nim, nim_perm (h.map wN), List.map_map]
  have e : wN ∘ normP = wN := by
    funext p
    show (worthOf (normP p)).toNat = (worthOf p).toNat
    rw [worth_norm]
  rw [e]
def InW (W : Int) (p : Int × Int) : Prop := 1 ≤ p.1 ∧ p.1 ≤ W ∧ 1 ≤ p.2 ∧ p.2 ≤ W
def Fits (n : Nat) (W : Int) (ps : List (Int × Int)) : Prop := ps.length = n ∧ ∀ p ∈ ps, InW W p
def Box (ps : List (Int × Int)) : Prop := Fits 1 30 ps ∨ Fits 2 9 ps ∨ Fits 3 5 ps
theorem InW.pos {W : Int} {p : Int × Int} (h : InW W p) : Pos p := ⟨by have := h.1; omega, by have := h.2.2.1; omega⟩
theorem InW.norm {W : Int} {p : Int × Int} (h : InW W p) : InW W (normP p) := by
  obtain ⟨a, b, c, d⟩ := h
  unfold InW normP
  simp only
  omega
theorem InW.taken {W : Int} {p : Int × Int} {t : Int} (h : InW W p) (h1 : 1 ≤ t) (h2 : t ≤ mostOf p) : InW W (takenOf p t) := by
  have hp := taken_pos h.pos h1 h2
  have hl := taken_le h.pos h1 h2
  obtain ⟨a, b, c, d⟩ := h
  have := hp.1
  have := hp.2
  exact ⟨by omega, by omega, by omega, by omega⟩
theorem InW.sm {W : Int} {p : Int × Int} (h : InW W p) (hW : W ≤ 30) : Sm p := by
  refine ⟨h.pos, (bt_of (lo := 0) (hi := 30) 6 ?_ ?_ (by decide) (by decide)).mono (by decide), (bt_of (lo := 0) (hi := 30) 6 ?_ ?_ (by decide) (by decide)).mono (by decide)⟩
  · have := h.1; omega
  · have := h.2.1; omega
  · have := h.2.2.1; omega
  · have := h.2.2.2; omega
theorem Fits.perm {n : Nat} {W : Int} {ps qs : List (Int × Int)} (h : Fits n W ps) (hp : qs.Perm (ps.map normP)) : Fits n W qs := by
  refine ⟨by rw [hp.length_eq, List.length_map, h.1], fun q hq => ?_⟩
  obtain ⟨p, hp2, rfl⟩ := List.mem_map.mp (hp.mem_iff.mp hq)
  exact (h.2 p hp2).norm
theorem Box.perm {ps qs : List (Int × Int)} (h : Box ps) (hp : qs.Perm (ps.map normP)) : Box qs := by
  rcases h with h | h | h
  · exact .inl (h.perm hp)
  · exact .inr (.inl (h.perm hp))
  · exact .inr (.inr (h.perm hp))
theorem Fits.set {n : Nat} {W : Int} {ps : List (Int × Int)} {i : Nat} {p : Int × Int} {t : Int} (h : Fits n W ps) (hx : ps[i]? = some p) (h1 : 1 ≤ t) (h2 : t ≤ mostOf p) : Fits n W (ps.set i (takenOf p t)) := by
  refine ⟨by rw [List.length_set, h.1], fun q hq => ?_⟩
  rcases List.mem_or_eq_of_mem_set hq with c | c
  · exact h.2 q c
  · rw [c]; exact (h.2 p (List.mem_of_getElem? hx)).taken h1 h2
theorem Box.set {ps : List (Int × Int)} {i : Nat} {p : Int × Int} {t : Int} (h : Box ps) (hx : ps[i]? = some p) (h1 : 1 ≤ t) (h2 : t ≤ mostOf p) : Box (ps.set i (takenOf p t)) := by
  rcases h with h | h | h
  · exact .inl (h.set hx h1 h2)
  · exact .inr (.inl (h.set hx h1 h2))
  · exact .inr (.inr (h.set hx h1 h2))
theorem Box.inW {ps : List (Int × Int)} (h : Box ps) : ∀ p ∈ ps, InW 30 p := fun p hp => by
  rcases h with h | h | h
  · exact h.2 p hp
  · obtain ⟨a, b, c, d⟩ := h.2 p hp; exact ⟨a, by omega, c, by omega⟩
  · obtain ⟨a, b, c, d⟩ := h.2 p hp; exact ⟨a, by omega, c, by omega⟩
theorem Box.sm {ps : List (Int × Int)} (h : Box ps) : AllSm ps := fun p hp => (h.inW p hp).sm (by decide)
theorem Box.len {ps : List (Int × Int)} (h : Box ps) : ps.length ≤ 3 := by
  rcases h with h | h | h <;> (have := h.1; omega)
/-! ### how many takings at most -/
def size1 (p : Int × Int) : Nat := (hi p - 1).toNat
def size (ps : List (Int × Int)) : Nat := (ps.map size1).sum
theorem size1_norm (p : Int × Int) : size1 (normP p) = size1 p := by unfold size1; rw [hi_norm]
theorem size_perm {ps qs : List (Int × Int)} (hp : qs.Perm (ps.map normP)) : size qs = size ps := by
  unfold size
  rw [(hp.map size1).sum_nat, List.map_map]
  have e : size1 ∘ normP = size1 := funext fun p => size1_norm p
  rw [e]
theorem size1_taken {p : Int × Int} {t : Int} (h : Pos p) (h1 : 1 ≤ t) (h2 : t ≤ mostOf p) : size1 (takenOf p t) < size1 p := by
  have ne := most_lt h h1 h2
  have hp := taken_pos h h1 h2
  have a := h.1
  have b := h.2
  have hx := hp.1
  have hy := hp.2
  unfold size1 hi
  unfold takenOf at hx hy ⊢
  split at hx
  · rename_i c
    rw [if_pos c] at hy ⊢
    simp only at hx hy ⊢
    have := Int.mul_le_mul_of_nonneg_right h1 (show 0 ≤ p.2 by omega)
    omega
  · rename_i c
    rw [if_neg c] at hy ⊢
    simp only at hx hy ⊢
    have := Int.mul_le_mul_of_nonneg_right h1 (show 0 ≤ p.1 by omega)
    omega
theorem size_set : ∀ {ps : List (Int × Int)} {i : Nat} {p q : Int × Int}, ps[i]? = some p → size1 q < size1 p → size (ps.set i q) < size ps
  | [], i, p, q, h, _ => by simp at h
  | x :: ps, 0, p, q, h, hq => by
    have e := Option.some.inj h
    subst e
    unfold size
    simp only [List.set_cons_zero, List.map_cons, List.sum_cons]
    omega
  | x :: ps, i + 1, p, q, h, hq => by
    have := size_set (ps := ps) (i := i) (p := p) (q := q) (by simpa using h) hq
    unfold size at this ⊢
    simp only [List.set_cons_succ, List.map_cons, List.sum_cons]
    omega
theorem size_le {W : Int} : ∀ {ps : List (Int × Int)}, (∀ p ∈ ps, InW W p) → size ps ≤ ps.length * (W - 1).toNat
  | [], _ => by simp [size]
  | p :: ps, h => by
    have := size_le (fun q hq => h q (List.mem_cons_of_mem _ hq))
    have hp := h p List.mem_cons_self
    have : size1 p ≤ (W - 1).toNat := by
      obtain ⟨a, b, c, d⟩ := hp
      unfold size1 hi
      omega
    unfold size at *
    simp only [List.map_cons, List.sum_cons, List.length_cons, Nat.succ_mul]
    omega
theorem Box.size {ps : List (Int × Int)} (h : Box ps) : size ps ≤ 29 := by
  rcases h with h | h | h
  · have := size_le h.2; rw [h.1] at this; exact Nat.le_trans this (by decide)
  · have := size_le h.2; rw [h.1] at this; exact Nat.le_trans this (by decide)
  · have := size_le h.2; rw [h.1] at this; exact Nat.le_trans this (by decide)
/-! ### how many positions at most -/
def numsW (W : Nat) : List Int := (List.range W).map fun n : Nat => (n : Int) + 1
def pairsW (W : Nat) : List (Int × Int) := (numsW W).flatMap fun a => (numsW W).map fun b => (a, b)
def tups (l : List (Int × Int)) : Nat → List (List (Int × Int))
  | 0 => [[]]
  | n + 1 => l.flatMap fun p => (tups l n).map fun ps => p :: ps
theorem mem_nums {W : Nat} {a : Int} (h : 1 ≤ a ∧ a ≤ W) : a ∈ numsW W := List.mem_map.mpr ⟨(a - 1).toNat, List.mem_range.mpr (by omega), by omega⟩
theorem mem_pairsW {W : Nat} {p : Int × Int} (h : InW W p) : p ∈ pairsW W := List.mem_flatMap.mpr ⟨p.1, mem_nums ⟨h.1, h.2.1⟩, List.mem_map.mpr ⟨p.2, mem_nums ⟨h.2.2.1, h.2.2.2⟩, rfl⟩⟩
theorem mem_tups {l : List (Int × Int)} : ∀ {ps : List (Int × Int)}, (∀ p ∈ ps, p ∈ l) → ps ∈ tups l ps.length
  | [], _ => List.mem_singleton.mpr rfl
  | p :: ps, h => List.mem_flatMap.mpr ⟨p, h p List.mem_cons_self, List.mem_map.mpr ⟨ps, mem_tups fun q hq => h q (List.mem_cons_of_mem _ hq), rfl⟩⟩
theorem flatMap_len {α β : Type} {f : α → List β} {k : Nat} (h : ∀ a, (f a).length = k) : ∀ l : List α, (l.flatMap f).length = l.length * k
  | [] => by simp
  | a :: l => by rw [List.flatMap_cons, List.length_append, h, flatMap_len h l, List.length_cons, Nat.succ_mul, Nat.add_comm]
theorem pairsW_len (W : Nat) : (pairsW W).length = W * W := by
  unfold pairsW
  have hn : (numsW W).length = W := by unfold numsW; rw [List.length_map, List.length_range]
  rw [flatMap_len (k := W) (fun a => by rw [List.length_map, hn]), hn]
theorem tups_len (l : List (Int × Int)) : ∀ n, (tups l n).length = l.length ^ n
  | 0 => rfl
  | n + 1 => by
    show (l.flatMap fun p => (tups l n).map fun ps => p :: ps).length = _
    rw [flatMap_len (k := l.length ^ n) (fun a => by rw [List.length_map, tups_len l n]), Nat.pow_succ, Nat.mul_comm]
def univ : List (List (Int × Int)) := tups (pairsW 30) 1 ++ (tups (pairsW 9) 2 ++ tups (pairsW 5) 3)
theorem univ_len : univ.length = 23086 := by
  unfold univ
  rw [List.length_append, List.length_append, tups_len, tups_len, tups_len, pairsW_len, pairsW_len, pairsW_len]
theorem Box.mem {ps : List (Int × Int)} (h : Box ps) : ps ∈ univ := by
  unfold univ
  rcases h with h | h | h
  · have := mem_tups (l := pairsW 30) fun p hp => mem_pairsW (h.2 p hp)
    rw [h.1] at this
    exact List.mem_append_left _ this
  · have := mem_tups (l := pairsW 9) fun p hp => mem_pairsW (h.2 p hp)
    rw [h.1] at this
    exact List.mem_append_right _ (List.mem_append_left _ this)
  · have := mem_tups (l := pairsW 5) fun p hp => mem_pairsW (h.2 p hp)
    rw [h.1] at this
    exact List.mem_append_right _ (List.mem_append_right _ this)
theorem nodup_len {α : Type} [DecidableEq α] : ∀ {l m : List α}, l.Nodup → (∀ x ∈ l, x ∈ m) → l.length ≤ m.length
  | [], _, _, _ => Nat.zero_le _
  | a :: l, m, h, hm => by
    have h := List.nodup_cons.mp h
    have ha := hm a List.mem_cons_self
    have := nodup_len (l := l) (m := m.erase a) h.2 fun x hx => (List.mem_erase_of_ne (fun e => h.1 (by rw [← e]; exact hx))).mpr (hm x (List.mem_cons_of_mem _ hx))
    rw [List.length_erase_of_mem ha] at this
    have := List.length_pos_of_mem ha
    rw [List.length_cons]
    omega
/-! ### what is known of who wins -/
def wonB (ps : List (Int × Int)) : Bool := !decide (sumOf ps = 0)
structure Good (l : List (List (Int × Int) × Bool)) : Prop where
  all : ∀ e ∈ l, Box e.1 ∧ e.2 = wonB e.1
  nod : (l.map (·.1)).Nodup
theorem Good.nil : Good [] := ⟨fun _ h => (by cases h), List.nodup_nil⟩
theorem Good.len {l : List (List (Int × Int) × Bool)} (h : Good l) : l.length ≤ 23086 := by
  have := nodup_len h.nod (m := univ) fun x hx => by
    obtain ⟨e, he, rfl⟩ := List.mem_map.mp hx
    exact (h.all e he).1.mem
  rw [List.length_map, univ_len] at this
  exact this
theorem Good.put {l : List (List (Int × Int) × Bool)} {ps : List (Int × Int)} (h : Good l) (hb : Box ps) : Good (putN l ps (wonB ps)) := by
  refine ⟨fun e he => ?_, ?_⟩
  · rcases putN_mem he with c | c
    · exact h.all e c
    · rw [c]; exact ⟨hb, rfl⟩
  · unfold putN
    split
    · have e : (l.map fun e => if e.1 = ps then (e.1, wonB ps) else e).map (·.1) = l.map (·.1) := by
        rw [List.map_map]
        refine List.map_congr_left fun e _ => ?_
        show (if e.1 = ps then (e.1, wonB ps) else e).1 = e.1
        split <;> rfl
      rw [e]
      exact h.nod
    · rename_i hn
      rw [List.map_append, List.nodup_append]
      refine ⟨h.nod, by simp, fun a ha b hb e => ?_⟩
      obtain ⟨x, hx, rfl⟩ := List.mem_map.mp ha
      have hb : b = ps := by simpa using hb
      exact hn (List.any_eq_true.mpr ⟨x, hx, decide_eq_true (e.trans hb)⟩)
theorem Good.get {l : List (List (Int × Int) × Bool)} (h : Good l) (ps : List (Int × Int)) : ∀ e ∈ l, e.1 = ps → e.2 = wonB ps := fun e he hp => by rw [(h.all e he).2, hp]
end Mt
namespace Mt
open PySem PySem.Spec L2 Evl PyProof.Rows
/-! ### what stands whatever is written to dicts -/
def ExM (H H' : Hp) : Prop := (∀ b xs, H b = some (.lst xs) → H' b = some (.lst xs)) ∧ ∀ b xs, H b = some (.tup xs) → H' b = some (.tup xs)
def ExE (H H' : Hp) : Prop := ∀ b o, H b = some o → (∀ φ, o ≠ .ext φ) → H' b = some o
def ExD (H H' : Hp) : Prop := ∀ b o, H b = some o → (∀ kvs, o ≠ .dT kvs) → H' b = some o
theorem ExE.m {H H' : Hp} (e : ExE H H') : ExM H H' := ⟨fun b xs h => e b _ h (fun _ z => by cases z), fun b xs h => e b _ h (fun _ z => by cases z)⟩
theorem ExD.m {H H' : Hp} (e : ExD H H') : ExM H H' := ⟨fun b xs h => e b _ h (fun _ z => by cases z), fun b xs h => e b _ h (fun _ z => by cases z)⟩
theorem ExE.of {H H' : Hp} (e : Ex H H') : ExE H H' := fun b o h _ => e b o h
theorem ExD.of {H H' : Hp} (e : Ex H H') : ExD H H' := fun b o h _ => e b o h
theorem ExE.trans {H H' H'' : Hp} (e : ExE H H') (e2 : ExE H' H'') : ExE H H'' := fun b o h n => e2 b o (e b o h n) n
theorem ExD.trans {H H' H'' : Hp} (e : ExD H H') (e2 : ExD H' H'') : ExD H H'' := fun b o h n => e2 b o (e b o h n) n
theorem ExE.put {H : Hp} {d : Addr} {φ : Heap → Prop} {ob : HO} (hd : H d = some (.ext φ)) : ExE H (upd H d ob) := fun b o h n => by
  have : b ≠ d := fun e => by rw [e, hd] at h; exact n φ (Option.some.inj h).symm
  rw [upd_ne this]
  exact h
theorem ExD.put {H : Hp} {d : Addr} {kvs : List (List Key × V)} {ob : HO} (hd : H d = some (.dT kvs)) : ExD H (upd H d ob) := fun b o h n => by
  have : b ≠ d := fun e => by rw [e, hd] at h; exact n kvs (Option.some.inj h).symm
  rw [upd_ne this]
  exact h
class RepN (K : PySem.W.Frag) (α : Type) [Rep K α] : Prop where
  mon : ∀ {H H' : Hp} {v : V} {a : α}, ExM H H' → rep K H v a → rep K H' v a
instance {K : PySem.W.Frag} : RepN K Int := ⟨fun _ h => h⟩
instance {K : PySem.W.Frag} : RepN K Bool := ⟨fun _ h => h⟩
instance {K : PySem.W.Frag} {α β : Type} [Rep K α] [Rep K β] [RepN K α] [RepN K β] : RepN K (α × β) := ⟨fun e ⟨p, x, y, h1, h2, h3, h4⟩ => ⟨p, x, y, h1, e.2 _ _ h2, RepN.mon e h3, RepN.mon e h4⟩⟩
theorem nmono {K : PySem.W.Frag} {α : Type} [Rep K α] [RepN K α] {H H' : Hp} (e : ExM H H') {vs : List V} {xs : List α} (h : Paired (rep K H) vs xs) : Paired (rep K H') vs xs := Paired.mapP h fun _ _ q => RepN.mon e q
instance {K : PySem.W.Frag} {α : Type} [Rep K α] [RepN K α] : RepN K (List α) := ⟨fun e ⟨p, vs, h1, h2, h3⟩ => ⟨p, vs, h1, e.1 _ _ h2, nmono e h3⟩⟩
instance {K : PySem.W.Frag} {α : Type} [Rep K α] [RepN K α] : RepN K (Tu α) := ⟨fun e ⟨p, vs, h1, h2, h3⟩ => ⟨p, vs, h1, e.2 _ _ h2, nmono e h3⟩⟩
theorem DN.is {P : Program} {w : World} {K : PySem.W.Frag} {H : Hp} {d : Addr} {l : List (List (Int × Int) × Bool)} (D : DN P w K H d l) : ∃ φ, H d = some (.ext φ) := by
  obtain ⟨xs, h, _⟩ := D.ex
  exact ⟨_, h⟩
theorem DN.mono {P : Program} {w : World} {K : PySem.W.Frag} {H H' : Hp} {d : Addr} {l : List (List (Int × Int) × Bool)} (D : DN P w K H d l) (e : Ex H H') : DN P w K H' d l := by
  obtain ⟨xs, h, hp⟩ := D.ex
  exact ⟨xs, e _ _ h, Paired.mapP hp fun _ _ z => ⟨z.1, rmono e z.2.1, z.2.2⟩⟩
theorem DN.keep {P : Program} {w : World} {K : PySem.W.Frag} {H H' : Hp} {d : Addr} {l : List (List (Int × Int) × Bool)} (D : DN P w K H d l) (e : ExD H H') : DN P w K H' d l := by
  obtain ⟨xs, h, hp⟩ := D.ex
  exact ⟨xs, e _ _ h (fun _ z => by cases z), Paired.mapP hp fun _ _ z => ⟨z.1, RepN.mon e.m z.2.1, z.2.2⟩⟩
theorem perm_paired {α β : Type} {F : α → β → Prop} {xs ys : List α} (h : ys.Perm xs) : ∀ {as : List β}, Paired F xs as → ∃ bs : List β, bs.Perm as ∧ Paired F ys bs := by
  induction h with
  | nil => intro as h; cases h; exact ⟨[], .nil, .nil⟩
  | cons x _ ih => intro as h; cases h with
    | cons r t => obtain ⟨bs, h1, h2⟩ := ih t; exact ⟨_ :: bs, h1.cons _, .cons r h2⟩
  | swap x y l => intro as h; cases h with
    | cons r t => cases t with
      | cons r2 t => exact ⟨_ :: _ :: _, .swap _ _ _, .cons r2 (.cons r t)⟩
  | trans _ _ ih1 ih2 => intro as h; obtain ⟨bs, h1, h2⟩ := ih2 h; obtain ⟨cs, h3, h4⟩ := ih1 h2; exact ⟨cs, h3.trans h1, h4⟩
/-- _law_sorted: pairs in some order, each the lesser number first -/
def spSort (K : PySem.W.Frag) : Sp := fun vs H Q _ => ∃ v ps, vs = [v] ∧ rep K H v (ps : List (Int × Int)) ∧ ps.length ≤ 100000 ∧ ∀ u qs H', Ex H H' → qs.Perm (ps.map normP) → rep K H' u (Tu.mk qs) → Q u H'
theorem spSort.len {K : PySem.W.Frag} {vs : List V} {H : Hp} {Q : VK} {E : XK} (h : spSort K vs H Q E) : vs.length = 1 := by obtain ⟨v, ps, rfl, _⟩ := h; rfl
/-- _law_won -/
def spWon (P : Program) (w : World) (K : PySem.W.Frag) (n : Nat) : Sp := fun vs H Q _ => ∃ v d ps l, vs = [v, .ref d] ∧ rep K H v (Tu.mk ps) ∧ DN P w K H d l ∧ Good l ∧ Box ps ∧ size ps < n ∧ ∀ H' l', ExE H H' → DN P w K H' d l' → Good l' → Q (.bl (wonB ps)) H'
theorem spWon.len {P : Program} {w : World} {K : PySem.W.Frag} {n : Nat} {vs : List V} {H : Hp} {Q : VK} {E : XK} (h : spWon P w K n vs H Q E) : vs.length = 2 := by obtain ⟨v, d, ps, l, rfl, _⟩ := h; rfl
section
variable {K : PySem.W.Frag} {σ : L2.St} {H H' : Hp} {ta tb tc te : TE} {t u : TT} {α β γ : Type} [Rep K α] [Rep K β] [Rep K γ] {a : α} {b : β} {D : Ends} {tu tw tz : TS} {g : TG} {i j k n : Nat}
theorem evn_listU {as : List α} (ha : EvR K ta σ H (Tu.mk as)) : EvN K (tCB (rListS K) (tCons ta tNil)) σ H as := fun H1 e Q q => ha H1 e _ fun v H2 e2 ⟨p, vs, ev, hp, rs⟩ =>
  ⟨p, vs, by rw [ev], .inr (SqT.of hp), fun l hl => q l vs _ (fresh_back e2 hl) (e2.trans (Ex.new hl)) upd_same (pmono (Ex.new hl) rs)⟩
/-- for i, x in enumerate(a tuple) -/
theorem r_forET {tl : TE} {as : List α} {p : Addr} {vs : List V} (h : Ev tl σ H (.ref p)) (Pv : Nat → L2.St → Hp → Prop) (h0 : ∀ H1, Ex H H1 → Pv 0 σ H1) (hl : H p = some (.tup vs)) (hk : ∀ n σ' H', Pv n σ' H' → H' p = some (.tup vs) ∧ Paired (rep K H') vs as) (hlen : vs.length = as.length)
      (hs : ∀ n v x σ' H' H2, as[n]? = some x → Ex H' H2 → rep K H2 v x → Pv n σ' H' → tu { D with nx := Pv (n + 1), ct := Pv (n + 1), bk := tz D } ((σ'.set i (some (.int (n : Int)))).set j (some v)) H2) (hd : ∀ σ' H', Pv as.length σ' H' → tz D σ' H') :
    tSeq (tFor (iEnumT K (tCons tl tNil)) (gTup K 2 (gCons (gName i) (gCons (gName j) gNil))) tu) tz D σ H :=
  h H (Ex.refl H) _ fun H1 e => by
    refine ⟨p, vs, rfl, SqT.of (e _ _ hl), for_it (walk_enumT (xs := vs)) (D := { D with nx := tz D }) Pv (h0 H1 e) (fun n σ' H' _ q => SqT.of (hk n σ' H' q).1) (fun n x σ' H' H2 hn q y => ?_) (fun σ' H' q => hd σ' H' (by rw [← hlen]; exact q))⟩
    obtain ⟨T, x1, y1, rfl, hT, rfl, ex, hy⟩ := y
    have ex := Option.some.inj ex
    subst ex
    obtain ⟨z, hz, rz⟩ := paired_get' (hk n σ' H' q).2 hy
    exact ⟨T, _, rfl, SqT.of upd_same, rfl, _, _, rfl, _, _, rfl, rfl, hs n y1 z σ' H' _ hz (Ex.new hT) (rmono (Ex.new hT) rz) q⟩
/-- a call of _law_sorted, then _law_won upon it and the dict in a name -/
theorem x_won {P : Program} {w : World} {E1 E2 : XK} {ps : List (Int × Int)} {l : List (List (Int × Int) × Bool)} {d : Addr} {m : Nat} {Q : VK} (ha : EvR K ta σ H ps) (hd : σ[i]? = some (some (.ref d))) (D : DN P w K H d l) (G : Good l) (hb : Box ps) (hs : size ps < m)
    (k : ∀ H1 l', ExE H H1 → DN P w K H1 d l' → Good l' → Q (.bl (wonB ps)) H1) : tCall (spWon P w K m) [] E1 (tCons (tCall (spSort K) [] E2 (tCons ta tNil)) (tCons (tVar i) tNil)) σ H Q :=
  ha H (Ex.refl H) _ fun v H1 e1 r => ⟨v, ps, rfl, r, by have := hb.len; omega, fun u qs H2 e2 hp r2 => ⟨_, hd, u, d, qs, l, rfl, r2, D.mono (e1.trans e2), G, hb.perm hp, by rw [size_perm hp]; exact hs, fun H3 l' e3 D3 G3 => by
    have e : wonB qs = wonB ps := by unfold wonB; rw [sum_perm hp]
    rw [e]
    exact k H3 l' ((ExE.of (e1.trans e2)).trans e3) D3 G3⟩⟩
/-- return tuple(sorted(..)) -/
theorem x_sorted {ps : List (Int × Int)} (h : EvN K te σ H ps) (k : ∀ u qs H', Ex H H' → qs.Perm ps → rep K H' u (Tu.mk qs) → D.rt u H') :
    tRet (tCB (fun xs H Q => ∃ p ys, xs = [.ref p] ∧ ((SqL K H p ys ∧ ∀ l, H l = none → Q (.ref l) (upd H l (.tup ys))) ∨ (SqT K H p ys ∧ Q (.ref p) H))) (tCons (tCB (rSortedP K) (tCons te tNil)) tNil)) D σ H :=
  h H (Ex.refl _) _ fun p us H2 hp e2 hl hs => ⟨p, us, rfl, SqL.of hl, fun x hx => by
    obtain ⟨i, hi⟩ := List.mem_iff_getElem?.mp hx
    obtain ⟨y, _, ⟨t, a, b, h1, h2, h3, h4⟩⟩ := paired_get' hs hi
    exact ⟨t, _, _, h1, by rw [h2, show a = _ from h3, show b = _ from h4]⟩, fun ys q hperm hq => ⟨q, ys, rfl, .inl ⟨SqL.of upd_same, fun t ht => by
    obtain ⟨bs, hb, hys⟩ := perm_paired hperm hs
    have e3 := (Ex.new (o := .lst ys) hq).trans (Ex.new (o := .tup ys) ht)
    exact k _ bs _ (e2.trans e3) hb ⟨t, ys, rfl, upd_same, pmono e3 hys⟩⟩⟩⟩
end
/-- what is known, as a thing of its own -/
structure Kn (P : Program) (w : World) where
  l : List (List (Int × Int) × Bool)
instance repKn {P : Program} {w : World} {K : PySem.W.Frag} : Rep K (Kn P w) := ⟨fun H v a => ∃ d, v = .ref d ∧ DN P w K H d a.l ∧ Good a.l, fun e ⟨d, h1, h2, h3⟩ => ⟨d, h1, h2.mono e, h3⟩⟩
def ExX (H H' : Hp) : Prop := ExE H H'
theorem ExX.trans {H H' H'' : Hp} (e : ExX H H') (e2 : Ex H' H'') : ExX H H'' := ExE.trans e (ExE.of e2)
section
variable {K : PySem.W.Frag} {σ : L2.St} {H H' : Hp} {ta tb tc te : TE} {D : Ends} {tz : TS} {i j k n : Nat} {P : Program} {w : World}
theorem x_wonK {E1 E2 : XK} {ps : List (Int × Int)} {v : V} {a : Kn P w} {Q : VK} (ha : EvR K ta σ H ps) (hd : σ[i]? = some (some v)) (h : rep K H v a) (hb : Box ps)
    (kk : ∀ H1 (b : Kn P w), ExE H H1 → rep K H1 v b → Q (.bl (wonB ps)) H1) : tCall (spWon P w K 30) [] E1 (tCons (tCall (spSort K) [] E2 (tCons ta tNil)) (tCons (tVar i) tNil)) σ H Q := by
  obtain ⟨d, h1, h2, h3⟩ := h
  subst h1
  exact x_won ha hd h2 h3 hb (by have := hb.size; omega) fun H1 l' e D' G' => kk H1 ⟨l'⟩ e ⟨d, rfl, D', G'⟩
theorem r_wonK {E1 E2 : XK} {ps : List (Int × Int)} {v : V} {a : Kn P w} (ha : EvR K ta σ H ps) (hd : σ[i]? = some (some v)) (h : rep K H v a) (hb : Box ps)
    (kk : ∀ H1 (b : Kn P w), ExE H H1 → rep K H1 v b → tz D (σ.set j (some (.bl (wonB ps)))) H1) : tSeq (tAsg (tCall (spWon P w K 30) [] E1 (tCons (tCall (spSort K) [] E2 (tCons ta tNil)) (tCons (tVar i) tNil))) (gName j)) tz D σ H :=
  x_wonK (Q := fun x H1 => gName j x σ H1 (tz D)) ha hd h hb kk
theorem r_retNotWon {E1 E2 : XK} {ps : List (Int × Int)} {v : V} {a : Kn P w} (ha : EvR K ta σ H ps) (hd : σ[i]? = some (some v)) (h : rep K H v a) (hb : Box ps)
    (kk : ∀ H1 (b : Kn P w), ExE H H1 → rep K H1 v b → D.rt (.bl (!wonB ps)) H1) : tRet (tNotV (tCall (spWon P w K 30) [] E1 (tCons (tCall (spSort K) [] E2 (tCons ta tNil)) (tCons (tVar i) tNil)))) D σ H :=
  x_wonK (Q := fun x H1 => ∃ c, x = .bl c ∧ D.rt (.bl (!c)) H1) ha hd h hb fun H1 b e r => ⟨_, rfl, kk H1 b e r⟩
end
/-- _law_right -/
def spRight (P : Program) (w : World) (K : PySem.W.Frag) : Sp := fun vs H Q _ => ∃ v u a, ∃ b : Kn P w, vs = [v, u] ∧ rep K H v (a : List (Int × Int)) ∧ rep K H u b ∧ Box a ∧ ∀ H' (b' : Kn P w), ExE H H' → rep K H' u b' → Q (.bl true) H'
theorem spRight.len {P : Program} {w : World} {K : PySem.W.Frag} {vs : List V} {H : Hp} {Q : VK} {E : XK} (h : spRight P w K vs H Q E) : vs.length = 2 := by obtain ⟨v, u, a, b, rfl, _⟩ := h; rfl
end Mt
namespace Mt
open PySem PySem.Spec L2 Evl PyProof.Rows
/-! ### how many takings at the least, at the most -/
theorem taken_mm {p : Int × Int} {t : Int} (ne : p.1 ≠ p.2) : max (takenOf p t).1 (takenOf p t).2 = max (hi p - t * lo p) (lo p) ∧ min (takenOf p t).1 (takenOf p t).2 = min (hi p - t * lo p) (lo p) := by
  unfold takenOf
  by_cases c : p.1 > p.2
  · rw [if_pos c]
    have e1 : hi p = p.1 := by unfold hi; omega
    have e2 : lo p = p.2 := by unfold lo; omega
    rw [e1, e2]
    exact ⟨rfl, rfl⟩
  · rw [if_neg c]
    have e1 : hi p = p.2 := by unfold hi; omega
    have e2 : lo p = p.1 := by unfold lo; omega
    rw [e1, e2]
    exact ⟨Int.max_comm _ _, Int.min_comm _ _⟩
/-- the last of a row, by its rest -/
def shortR (r : List Int) : Int := (r.length : Int) - 1 + (if decide (1 < r.getLast?.getD 0) = true then 1 else 0)
theorem short_R (p : Int × Int) : shortOf p = shortR (rowOf p) := rfl
theorem shortR_cons {q : Int} {r : List Int} (h : r ≠ []) : shortR (q :: r) = shortR r + 1 := by
  unfold shortR
  have hl : (q :: r).getLast? = r.getLast? := by
    cases r with
    | nil => exact absurd rfl h
    | cons a r => rw [List.getLast?_cons_cons]
  rw [hl, List.length_cons]
  omega
theorem shortR_last {r : List Int} {x : Int} (h : r.getLast? = some x) (h1 : 1 < x) : shortR r = (r.length : Int) := by
  unfold shortR
  rw [h, if_pos (decide_eq_true (show 1 < (some x).getD 0 from h1))]
  omega
theorem shortR_one (q : Int) : shortR [q] = if 1 < q then 1 else 0 := by
  unfold shortR
  by_cases c : 1 < q
  · rw [if_pos (decide_eq_true (show 1 < ([q] : List Int).getLast?.getD 0 from c)), if_pos c]; rfl
  · rw [if_neg (by rw [decide_eq_false (show ¬ 1 < ([q] : List Int).getLast?.getD 0 from c)]; decide), if_neg c]; rfl
theorem len_taken {p : Int × Int} {t : Int} (h : Pos p) (h1 : 1 ≤ t) (h2 : t ≤ mostOf p) : longOf (takenOf p t) = longOf p - t ∧ shortOf p - 1 ≤ shortOf (takenOf p t) ∧ (t = mostOf p → shortOf (takenOf p t) = shortOf p - 1) := by
  have ne := most_lt h h1 h2
  have hy := lo_pos h
  have hlt := lo_lt_hi ne
  have s := Spl.of hy hlt
  have hm : mostOf p = if hi p % lo p = 0 then hi p / lo p - 1 else hi p / lo p := by rw [← most_form h]; exact s.most
  obtain ⟨m1, m2⟩ := taken_mm (t := t) ne
  have eT := row_eu (takenOf p t)
  rw [m1, m2] at eT
  have eP : Eu (hi p) (lo p) (rowOf p) (comOf p) := row_eu p
  obtain ⟨rest, er, eR⟩ := eP.pos hy
  have hr0 := Int.emod_nonneg (hi p) (show lo p ≠ 0 by omega)
  have hr1 := Int.emod_lt_of_pos (hi p) hy
  have hdm := Int.mul_ediv_add_emod (hi p) (lo p)
  rw [short_R, short_R]
  unfold longOf
  rw [er]
  generalize hx : hi p = x at *
  generalize hyy : lo p = y at *
  generalize hq : x / y = q at *
  generalize hrr : x % y = r at *
  have hxe : x - t * y = y * (q - t) + r := by rw [← hdm, Int.mul_sub, Int.mul_comm t y]; omega
  have hq1 : 1 ≤ q := by rw [← hq]; exact (Int.le_ediv_iff_mul_le hy).mpr (by omega)
  by_cases ht : t < q
  · -- the first quotient is less
    have hge : y ≤ x - t * y := by
      rw [hxe]
      have := Int.mul_le_mul_of_nonneg_left (show 1 ≤ q - t by omega) (show 0 ≤ y by omega)
      omega
    rw [Int.max_eq_left hge, Int.min_eq_right hge] at eT
    obtain ⟨rest2, er2, eR2⟩ := eT.pos hy
    have d1 : (x - t * y) / y = q - t := by rw [hxe, Int.add_comm, Int.add_mul_ediv_left _ _ (by omega), Int.ediv_eq_zero_of_lt hr0 hr1, Int.zero_add]
    have d2 : (x - t * y) % y = r := by rw [hxe, Int.add_comm, Int.add_mul_emod_self_left, Int.emod_eq_of_lt hr0 hr1]
    rw [d2] at eR2
    have e3 := (eR.det eR2).1
    subst e3
    rw [er2, d1]
    refine ⟨by simp only [List.sum_cons]; omega, ?_, ?_⟩
    · by_cases c : rest2 = []
      · subst c
        rw [shortR_one, shortR_one]
        split <;> split <;> omega
      · rw [shortR_cons c, shortR_cons c]
        omega
    · intro hte
      by_cases c : r = 0
      · rw [if_pos c] at hm
        have e4 := (eR2.non (by omega)).1
        subst e4
        rw [shortR_one, shortR_one, if_neg (by omega), if_pos (by omega)]
        rfl
      · rw [if_neg c] at hm
        omega
  · -- the lesser number comes first
    have hte : t = q ∧ r ≠ 0 := by
      by_cases c : r = 0
      · rw [if_pos c] at hm; omega
      · rw [if_neg c] at hm; exact ⟨by omega, c⟩
    obtain ⟨rfl, hrn⟩ := hte
    have hxr : x - t * y = r := by rw [hxe, Int.sub_self, Int.mul_zero, Int.zero_add]
    rw [hxr, Int.max_eq_right (by omega), Int.min_eq_left (by omega)] at eT
    have e3 := (eR.det eT).1
    have hl := eR.last (by omega) hr1
    obtain ⟨z, hz, hz1⟩ := hl
    have hne : rest ≠ [] := fun c => by rw [c] at hz; cases hz
    rw [e3, shortR_cons hne]
    refine ⟨by simp only [List.sum_cons]; omega, by omega, fun _ => by omega⟩
theorem len_none {p : Int × Int} (h : Pos p) (hm : mostOf p < 1) : shortOf p = 0 ∧ longOf p = 0 := by
  have e : p.1 = p.2 := by
    by_cases c : p.1 = p.2
    · exact c
    · exfalso
      have hy := lo_pos h
      have hlt := lo_lt_hi c
      have s := Spl.of hy hlt
      rw [← most_form h, s.most] at hm
      split at hm
      · have := Spl.q2 (x := hi p) (y := lo p) (q := hi p / lo p) (by rename_i c2; have := s; rw [c2] at this; exact this)
        omega
      · have := s.q1
        omega
  rw [short_R]
  unfold longOf
  rw [row_one h e]
  exact ⟨rfl, rfl⟩
end Mt
namespace Mt
open PySem PySem.Spec L2 Evl PyProof.Rows
/-! ### the dict of lengths -/
def k2 (p : Int × Int) : List Key := [Sum.inl p.1, Sum.inl p.2]
theorem k2_inj {p q : Int × Int} (h : k2 p = k2 q) : p = q := by
  unfold k2 at h
  simp only [List.cons.injEq, Sum.inl.injEq, and_true] at h
  exact Prod.ext h.1 h.2
def insP (l : List (Int × Int)) (p : Int × Int) : List (Int × Int) := if p ∈ l then l else l ++ [p]
theorem insP_mem {l : List (Int × Int)} {p e : Int × Int} : e ∈ insP l p ↔ e ∈ l ∨ e = p := by
  unfold insP
  split
  · rename_i h
    exact ⟨.inl, fun z => z.elim id fun z => z ▸ h⟩
  · rw [List.mem_append, List.mem_singleton]
/-- all but p are right -/
structure DLx (K : PySem.W.Frag) (H : Hp) (d : Addr) (l : List (Int × Int)) (p : Int × Int) (kvs : List (List Key × V)) : Prop where
  at_ : H d = some (.dT kvs)
  keys : kvs.map (·.1) = l.map k2
  all : ∀ e ∈ l, e ≠ p → ∃ v, valV kvs (k2 e) = some v ∧ rep K H v (shortOf e, longOf e)
structure DL (K : PySem.W.Frag) (H : Hp) (d : Addr) (l : List (Int × Int)) : Prop where
  ex : ∃ kvs : List (List Key × V), H d = some (.dT kvs) ∧ kvs.map (·.1) = l.map k2 ∧ ∀ e ∈ l, ∃ v, valV kvs (k2 e) = some v ∧ rep K H v (shortOf e, longOf e)
structure GoodL (l : List (Int × Int)) : Prop where
  nod : l.Nodup
  all : ∀ e ∈ l, InW 30 e
theorem GoodL.nil : GoodL [] := ⟨List.nodup_nil, fun _ h => (by cases h)⟩
theorem GoodL.len {l : List (Int × Int)} (h : GoodL l) : l.length ≤ 900 := by
  have := nodup_len h.nod (m := pairsW 30) fun x hx => mem_pairsW (h.all x hx)
  rw [pairsW_len] at this
  exact this
theorem GoodL.ins {l : List (Int × Int)} {p : Int × Int} (h : GoodL l) (hp : InW 30 p) : GoodL (insP l p) := by
  refine ⟨?_, fun e he => ?_⟩
  · unfold insP
    split
    · exact h.nod
    · rename_i hn
      rw [List.nodup_append]
      refine ⟨h.nod, by simp, fun a ha b hb e => hn ?_⟩
      have hb : b = p := by simpa using hb
      rw [← hb, ← e]; exact ha
  · rcases insP_mem.mp he with c | c
    · exact h.all e c
    · rw [c]; exact hp
theorem any_keys {kvs : List (List Key × V)} {l : List (Int × Int)} (h : kvs.map (·.1) = l.map k2) (p : Int × Int) : (kvs.any fun kv => decide (kv.1 = k2 p)) = decide (p ∈ l) := by
  have e : (kvs.any fun kv => decide (kv.1 = k2 p)) = (kvs.map (·.1)).any fun k => decide (k = k2 p) := by rw [List.any_map] <;> rfl
  rw [e, h, List.any_map]
  by_cases c : p ∈ l
  · rw [decide_eq_true c]
    exact List.any_eq_true.mpr ⟨p, c, decide_eq_true rfl⟩
  · rw [decide_eq_false c]
    refine List.any_eq_false.mpr fun x hx z => c ?_
    have := k2_inj (of_decide_eq_true z)
    rw [← this]; exact hx
theorem keys_put {kvs : List (List Key × V)} {l : List (Int × Int)} (h : kvs.map (·.1) = l.map k2) (p : Int × Int) (v : V) : (putK kvs (k2 p) v).map (·.1) = (insP l p).map k2 := by
  unfold putK insP
  rw [any_keys h]
  by_cases c : p ∈ l
  · rw [decide_eq_true c, if_pos rfl, if_pos c, List.map_map, ← h]
    refine List.map_congr_left fun kv _ => ?_
    show (if kv.1 = k2 p then (kv.1, v) else kv).1 = kv.1
    split <;> rfl
  · rw [decide_eq_false c, if_neg Bool.false_ne_true, if_neg c, List.map_append, List.map_append, h] <;> rfl
theorem ExD.mut {H H' : Hp} {l : Addr} {o : HO} (e : ExD H H') (h : H l = none) : ExD H (upd H' l o) := fun b ob hb n => by
  rw [upd_ne (fun z => by rw [z, h] at hb; cases hb)]
  exact e b ob hb n
section
variable {K : PySem.W.Frag} {H H' : Hp} {d : Addr} {l : List (Int × Int)} {p : Int × Int}
theorem DL.is (D : DL K H d l) : ∃ kvs, H d = some (.dT kvs) := by
  obtain ⟨kvs, h, _⟩ := D.ex
  exact ⟨kvs, h⟩
theorem DL.mono (D : DL K H d l) (e : Ex H H') : DL K H' d l := by
  obtain ⟨kvs, h, h2, h3⟩ := D.ex
  exact ⟨kvs, e _ _ h, h2, fun x hx => by obtain ⟨v, a, r⟩ := h3 x hx; exact ⟨v, a, rmono e r⟩⟩
theorem DL.keep (D : DL K H d l) (e : ExE H H') : DL K H' d l := by
  obtain ⟨kvs, h, h2, h3⟩ := D.ex
  exact ⟨kvs, e _ _ h (fun _ z => by cases z), h2, fun x hx => by obtain ⟨v, a, r⟩ := h3 x hx; exact ⟨v, a, RepN.mon e.m r⟩⟩
/-- an entry stored; it may be right or not -/
theorem DL.put (D : DL K H d l) (v : V) : ∃ kvs, H d = some (.dT kvs) ∧ kvs.length = l.length ∧ DLx K (upd H d (.dT (putK kvs (k2 p) v))) d (insP l p) p (putK kvs (k2 p) v) ∧ valV (putK kvs (k2 p) v) (k2 p) = some v := by
  obtain ⟨kvs, h, h2, h3⟩ := D.ex
  have hn : ∀ xs, H d ≠ some (.tup xs) := fun xs z => by rw [h] at z; cases z
  refine ⟨kvs, h, by have := congrArg List.length h2; rwa [List.length_map, List.length_map] at this, ⟨upd_same, keys_put h2 p v, fun e he ne => ?_⟩, by rw [valV_put, if_pos rfl]⟩
  rcases insP_mem.mp he with c | c
  · obtain ⟨u, hu, r⟩ := h3 e c
    exact ⟨u, by rw [valV_put, if_neg (fun z => ne (k2_inj z))]; exact hu, RepT.stab hn r⟩
  · exact absurd c ne
theorem DLx.mono {kvs : List (List Key × V)} (D : DLx K H d l p kvs) (e : Ex H H') : DLx K H' d l p kvs := ⟨e _ _ D.at_, D.keys, fun x hx ne => by obtain ⟨v, a, r⟩ := D.all x hx ne; exact ⟨v, a, rmono e r⟩⟩
theorem DLx.dl {kvs : List (List Key × V)} {v : V} (D : DLx K H d l p kvs) (hv : valV kvs (k2 p) = some v) (r : rep K H v (shortOf p, longOf p)) : DL K H d l :=
  ⟨kvs, D.at_, D.keys, fun e he => by
    by_cases c : e = p
    · rw [c]; exact ⟨v, hv, r⟩
    · exact D.all e he c⟩
theorem DLx.put {kvs : List (List Key × V)} {v : V} (D : DLx K H d l p kvs) (hp : p ∈ l) (r : rep K H v (shortOf p, longOf p)) : DL K (upd H d (.dT (putK kvs (k2 p) v))) d l := by
  have hn : ∀ xs, H d ≠ some (.tup xs) := fun xs z => by rw [D.at_] at z; cases z
  have hk := keys_put D.keys p v
  rw [show insP l p = l from if_pos hp] at hk
  refine ⟨_, upd_same, hk, fun e he => ?_⟩
  by_cases c : e = p
  · rw [c]; exact ⟨v, by rw [valV_put, if_pos rfl], RepT.stab hn r⟩
  · obtain ⟨u, hu, r2⟩ := D.all e he c
    exact ⟨u, by rw [valV_put, if_neg (fun z => c (k2_inj z))]; exact hu, RepT.stab hn r2⟩
end
/-- _law_lengths -/
def spLen (K : PySem.W.Frag) (n : Nat) : Sp := fun vs H Q _ => ∃ v d p l, vs = [v, .ref d] ∧ rep K H v (p : Int × Int) ∧ DL K H d l ∧ GoodL l ∧ InW 30 p ∧ size1 p < n ∧ ∀ u H' l', ExD H H' → DL K H' d l' → GoodL l' → rep K H' u (shortOf p, longOf p) → Q u H'
theorem spLen.len {K : PySem.W.Frag} {n : Nat} {vs : List V} {H : Hp} {Q : VK} {E : XK} (h : spLen K n vs H Q E) : vs.length = 2 := by obtain ⟨v, d, p, l, rfl, _⟩ := h; rfl
section
variable {K : PySem.W.Frag} {σ : L2.St} {H H' : Hp} {ta tb tc te : TE} {t u : TT} {α β γ : Type} [Rep K α] [Rep K β] [Rep K γ] {a : α} {b : β} {D : Ends} {tu tw tz : TS} {g : TG} {i j k n : Nat}
/-- [e for a, b in pairs] -/
theorem evn_lcQ {tl : TE} {as : List (Int × Int)} {vs : List Nat} (f : Int × Int → Int) (h : EvR K tl σ H as) (hz : as.length ≤ 100000) (hw : ∀ v w, wipe (((wipe σ vs).set i (some v)).set j (some w)) vs = wipe σ vs)
    (he : ∀ (x : Int × Int) H1, Ex H H1 → EvR K te (((wipe σ vs).set i (some (.int x.1))).set j (some (.int x.2))) H1 (f x)) : EvN K (tLc (iList K tl) (gTup K 2 (gCons (gName i) (gCons (gName j) gNil))) tYes te vs) σ H (as.map f) := fun H0 e Q q => h H0 e _ fun v H1 e1 ⟨p, us, ev, hp, rs⟩ =>
  ⟨p, ev, ⟨us, SqL.of hp⟩, fun Dl hD => lc_list (xs := us) (fun n H' => Ex H1 H' ∧ ∃ acc, H' Dl = some (.lst acc) ∧ Paired (rep K H') acc ((as.take n).map f)) ⟨Ex.new hD, [], upd_same, by rw [List.take_zero]; exact .nil⟩ (fun n H' _ c => SqL.of (c.1 _ _ hp))
    (fun n y H' hy c => by
      obtain ⟨x, hx, ⟨tp, ya, yb, e3, hT, ra, rb⟩⟩ := paired_get' rs hy
      have ra : ya = V.int x.1 := ra
      have rb : yb = V.int x.2 := rb
      subst e3 ra rb
      obtain ⟨c1, acc, c2, c3⟩ := c
      refine ⟨tp, _, rfl, SqT.of (c1 _ _ hT), rfl, _, _, rfl, _, _, rfl, rfl, hw _ _, ?_⟩
      refine tyes_i ?_
      refine he x H' ((e.trans e1).trans c1) H' (Ex.refl _) _ fun z H4 e4 rz => ⟨acc, e4 _ _ c2, sz_lt ?_, Ex.mut (c1.trans e4) hD, _, upd_same, ?_⟩
      · rw [c3.length, List.length_map, List.length_take]
        have := (List.getElem?_eq_some_iff.mp hx).1
        omega
      · have hs : as.take (n + 1) = as.take n ++ [x] := take_step hx
        have hn := not_tup_lst (e4 _ _ c2)
        rw [hs, List.map_append]
        exact paired_append (pstab hn (pmono e4 c3)) (.cons (RepT.stab hn rz) .nil)) (fun H' c => by
      obtain ⟨c1, acc, c2, c3⟩ := c
      rw [rs.length, List.take_length] at c3
      exact q _ _ _ (fresh_back e1 hD) (e1.trans c1) c2 c3)⟩
/-- [e for i in range(lo, hi)], e whatever it does -/
theorem lcR_inv {lo hi : Int} {vs : List Nat} {Q : VK} (h0 : EvR K ta σ H lo) (h : EvR K tb σ H hi) (hz : -100000 ≤ lo ∧ lo ≤ 100000 ∧ -100000 ≤ hi ∧ hi ≤ 100000) (hw : ∀ v, wipe ((wipe σ vs).set j (some v)) vs = wipe σ vs) (R : Nat → Addr → Hp → Prop)
    (r0 : ∀ H1 Dl, Ex H H1 → H1 Dl = none → R 0 Dl (upd H1 Dl (.lst [])))
    (rs : ∀ (n : Nat) Dl H', lo + (n : Int) < hi → R n Dl H' → te ((wipe σ vs).set j (some (.int (lo + (n : Int))))) H' fun y H4 => ∃ acc, H4 Dl = some (.lst acc) ∧ acc.length < sizeLine ∧ R (n + 1) Dl (upd H4 Dl (.lst (acc ++ [y]))))
    (q : ∀ Dl H', R (hi - lo).toNat Dl H' → Q (.ref Dl) H') : tLc (iRng2 (tCons ta (tCons tb tNil))) (gName j) tYes te vs σ H Q :=
  h0.ev H (Ex.refl _) _ fun H1 e1 => h.ev H1 e1 _ fun H2 e2 => ⟨lo, hi, rfl, by omega, fun Dl hD => lc_range (Qd := Q (.ref Dl)) (fun n H' => R n Dl H') (r0 H2 Dl (e1.trans e2) hD) (fun n H' hn c => ⟨hw _, tyes_i (rs n Dl H' (by omega) c)⟩) (fun H' c => q Dl H' c)⟩
theorem evr_minL {ns : List Int} {m : Int} (ha : EvR K ta σ H ns) (hm : m ∈ ns) (hle : ∀ y ∈ ns, m ≤ y) : EvR K (tCB (rMin K) (tCons ta tNil)) σ H m := fun H1 e Q q => ha H1 e _ fun v H2 e2 ⟨p, vs, ev, hp, rs⟩ => by
  have hv := paired_ints rs
  subst hv
  refine ⟨p, ns, by rw [ev], SqL.of hp, List.length_pos_of_mem hm, fun m' hm' hle' => ?_⟩
  have : m' = m := Int.le_antisymm (hle' m hm) (hle m' hm')
  exact q _ H2 e2 (by show V.int _ = V.int _; rw [this])
theorem evr_maxL {ns : List Int} {m : Int} (ha : EvR K ta σ H ns) (hm : m ∈ ns) (hle : ∀ y ∈ ns, y ≤ m) : EvR K (tCB (rMax K) (tCons ta tNil)) σ H m := fun H1 e Q q => ha H1 e _ fun v H2 e2 ⟨p, vs, ev, hp, rs⟩ => by
  have hv := paired_ints rs
  subst hv
  refine ⟨p, ns, by rw [ev], SqL.of hp, List.length_pos_of_mem hm, fun m' hm' hle' => ?_⟩
  have : m' = m := Int.le_antisymm (hle m' hm') (hle' m hm)
  exact q _ H2 e2 (by show V.int _ = V.int _; rw [this])
end
end Mt
namespace Mt
open PySem PySem.Spec L2 Evl PyProof.Rows
/-! ### the law's own pairs -/
def k3Wide (x : Int) : Int := [(30 : Int), 9, 5].getD (x % 3).toNat 0
theorem k3_w0 (x : Int) : 0 ≤ x % 3 := Int.emod_nonneg _ (by decide)
theorem k3_w (x : Int) : [(30 : Int), 9, 5][(x % 3).toNat]? = some (k3Wide x) := by
  have h0 := k3_w0 x
  have h1 := Int.emod_lt_of_pos x (show (0 : Int) < 3 by decide)
  unfold k3Wide
  rw [List.getD_eq_getElem?_getD, List.getElem?_eq_getElem (by show _ < 3; omega)]
  rfl
def k3Num : Nat → Int → Int
  | 0, n => n
  | j + 1, n => k3Num j n / 961
def k3One (num x : Int) (j : Nat) : Int × Int := (1 + k3Num j num % k3Wide x, 1 + k3Num j num / 31 % k3Wide x)
def k3Pairs (num x : Int) (m : Nat) : List (Int × Int) := (List.range m).map (k3One num x)
theorem k3_pairs_succ (num x : Int) (m : Nat) : k3Pairs num x (m + 1) = k3Pairs num x m ++ [k3One num x m] := by
  unfold k3Pairs
  rw [List.range_succ, List.map_append] <;> rfl
theorem k3_len (num x : Int) (m : Nat) : (k3Pairs num x m).length = m := by unfold k3Pairs; rw [List.length_map, List.length_range]
theorem k3_in {num x W : Int} (hw : k3Wide x = W) (hp : 0 < W) (m : Nat) : ∀ p ∈ k3Pairs num x m, InW W p := fun p hp2 => by
  obtain ⟨j, _, rfl⟩ := List.mem_map.mp hp2
  have a0 := Int.emod_nonneg (k3Num j num) (show W ≠ 0 by omega)
  have a1 := Int.emod_lt_of_pos (k3Num j num) hp
  have b0 := Int.emod_nonneg (k3Num j num / 31) (show W ≠ 0 by omega)
  have b1 := Int.emod_lt_of_pos (k3Num j num / 31) hp
  unfold k3One
  rw [hw]
  exact ⟨by show 1 ≤ 1 + _; omega, by show 1 + _ ≤ W; omega, by show 1 ≤ 1 + _; omega, by show 1 + _ ≤ W; omega⟩
theorem k3_pos (x : Int) : 0 < k3Wide x := by
  have h := List.mem_of_getElem? (k3_w x)
  simp only [List.mem_cons, List.not_mem_nil, or_false] at h
  omega
theorem k3_box (num x : Int) : Box (k3Pairs num x (1 + x % 3).toNat) := by
  have h0 := k3_w0 x
  have h1 := Int.emod_lt_of_pos x (show (0 : Int) < 3 by decide)
  have hc : x % 3 = 0 ∨ x % 3 = 1 ∨ x % 3 = 2 := by omega
  rcases hc with c | c | c
  · exact .inl ⟨by rw [k3_len, c]; rfl, k3_in (by unfold k3Wide; rw [c]; rfl) (by decide) _⟩
  · exact .inr (.inl ⟨by rw [k3_len, c]; rfl, k3_in (by unfold k3Wide; rw [c]; rfl) (by decide) _⟩)
  · exact .inr (.inr ⟨by rw [k3_len, c]; rfl, k3_in (by unfold k3Wide; rw [c]; rfl) (by decide) _⟩)
theorem InW.sq {p : Int × Int} (h : InW 30 p) : Sq p := ⟨h.pos, (h.sm (by decide)).b1.mono (by decide), (h.sm (by decide)).b2.mono (by decide)⟩
theorem InW.size1 {p : Int × Int} (h : InW 30 p) : size1 p < 30 := by
  obtain ⟨a, b, c, d⟩ := h
  unfold Mt.size1 hi
  omega
section
variable {K : PySem.W.Frag} {σ : L2.St} {H H' : Hp} {ta tb tc te : TE} {D : Ends} {tu tz : TS} {i j k n : Nat} {P : Program} {w : World}
/-- if not _law_right(..): .. -/
theorem r_right {E1 : XK} {ps : List (Int × Int)} {u : V} {a : Kn P w} (ha : EvR K ta σ H ps) (hd : σ[j]? = some (some u)) (h : rep K H u a) (hb : Box ps) (kk : ∀ H1 (b : Kn P w), ExE H H1 → rep K H1 u b → tz D σ H1) :
    tSeq (tIfS (tNot (tB (tCall (spRight P w K) [] E1 (tCons ta (tCons (tVar j) tNil))))) tu tNext) tz D σ H :=
  ha H (Ex.refl _) _ fun v H1 e1 r => ⟨_, hd, v, u, ps, a, rfl, r, rmono e1 h, hb, fun H2 b' e2 h2 => ⟨true, rfl, by
    dsimp only
    rw [if_neg (by decide)]
    exact kk H2 b' ((ExE.of e1).trans e2) h2⟩⟩
/-- return _law_right(..) and .. -/
theorem r_rightAnd {E1 : XK} {ps : List (Int × Int)} {u : V} {a : Kn P w} (ha : EvR K ta σ H ps) (hd : σ[j]? = some (some u)) (h : rep K H u a) (hb : Box ps) (kk : ∀ H1 (b : Kn P w), ExE H H1 → rep K H1 u b → tb σ H1 D.rt) :
    tRet (tAndV (tCall (spRight P w K) [] E1 (tCons ta (tCons (tVar j) tNil))) tb) D σ H :=
  ha H (Ex.refl _) _ fun v H1 e1 r => ⟨_, hd, v, u, ps, a, rfl, r, rmono e1 h, hb, fun H2 b' e2 h2 => ⟨true, rfl, by
    rw [if_pos rfl]
    exact kk H2 b' ((ExE.of e1).trans e2) h2⟩⟩
/-- if a pair != _law_lengths(..): .. -/
theorem r_lens {E1 : XK} {p : Int × Int} {v : V} {d : Addr} {l : List (Int × Int)} (ha : EvR K ta σ H (shortOf p, longOf p)) (hi : σ[i]? = some (some v)) (hj : σ[j]? = some (some (.ref d))) (h : rep K H v p) (DD : DL K H d l) (G : GoodL l) (hp : InW 30 p)
    (kk : ∀ H1 l', ExD H H1 → DL K H1 d l' → GoodL l' → D.nx σ H1) :
    tIfS (tTest (tOp (rNeD K) ta (tCall (spLen K 30) [] E1 (tCons (tVar i) (tCons (tVar j) tNil))))) tu tNext D σ H :=
  ha H (Ex.refl _) _ fun x H1 e1 r => ⟨_, hi, _, hj, v, d, p, l, rfl, rmono e1 h, DD.mono e1, G, hp, hp.size1, fun y H2 l' e2 D2 G2 r2 => by
    refine ⟨_, _, RepD.dp (RepN.mon e2.m r), RepD.dp r2, shaped_of (Nat.le_of_ble_eq_true rfl) _, shaped_of (Nat.le_of_ble_eq_true rfl) _, ?_⟩
    refine ⟨false, by rw [RepD.eqv, decide_eq_true rfl] <;> rfl, ?_⟩
    dsimp only
    rw [if_neg Bool.false_ne_true]
    exact kk H2 l' ((ExD.of e1).trans e2) D2 G2⟩
end
/-- the law: what is asked is True -/
def FnZ (K : PySem.W.Frag) (pre : Scr → Prop) : Sp := fun vs H Q _ => ∃ v a, vs = [v] ∧ rep K H v (a : Scr) ∧ pre a ∧ ∀ u H', rep K H' u true → Q u H'
theorem FnZ.len {K : PySem.W.Frag} {pre : Scr → Prop} {vs : List V} {H : Hp} {Q : VK} {E : XK} (h : FnZ K pre vs H Q E) : vs.length = 1 := by obtain ⟨v, a, rfl, _⟩ := h; rfl
theorem k3_last : Box [(2, 5), (3, 4)] := .inr (.inl ⟨rfl, fun p hp => by
  simp only [List.mem_cons, List.not_mem_nil, or_false] at hp
  rcases hp with rfl | rfl
  · exact ⟨by decide, by decide, by decide, by decide⟩
  · exact ⟨by decide, by decide, by decide, by decide⟩⟩)
theorem k3_58 : Sq (5, 8) := InW.sq ⟨by decide, by decide, by decide, by decide⟩
theorem k3_27 : Sq (2, 7) := InW.sq ⟨by decide, by decide, by decide, by decide⟩
theorem k3_44 : decide ((shortOf (5, 8), longOf (2, 7)) = ((4 : Int), (4 : Int))) = true := by decide +kernel
end Mt
namespace Mt
open PySem PySem.Spec L2 Evl PyProof.Rows
def top (i : Nat) : Stmt := PySem.Challenge.pw_manytimes_k03_tried.main.body.getD i (.Pass ⟨0, 0, 0, 0⟩)
/-- what the walk asks of the module's names -/
structure Txt (K : PySem.W.Frag) (mg : Str → Option Value) (CA CL CW : Addr) : Prop where
  z_all : mg "all" = none
  z_bool : mg "bool" = none
  z_enumerate : mg "enumerate" = none
  z_int : mg "int" = none
  z_isinstance : mg "isinstance" = none
  z_len : mg "len" = none
  z_list : mg "list" = none
  z_max : mg "max" = none
  z_min : mg "min" = none
  z_range : mg "range" = none
  z_sorted : mg "sorted" = none
  z_sum : mg "sum" = none
  z_tuple : mg "tuple" = none
  g_MOST : ∃ t, mg "MOST" = some (.int 100 t)
  ans : AnsTxt K mg CA CL CW
section
variable {P : Program} {w : World} {K : PySem.W.Frag} {mg : Str → Option Value} {base : Heap} {CA CL CW : Addr}
abbrev s_is_number : Stmt := top 7
theorem sc_is_number : FnScope ["thing"] ["thing"] (defScope s_is_number) := ⟨rfl, rfl, rfl, by decide +kernel, rfl, by decide +kernel, by decide +kernel⟩
set_option maxHeartbeats 4000000 in
theorem ok_is_number {f : Addr} {fd : FuncData} (F : Fun K "is_number" "is_number" s_is_number f fd) (T : Txt K mg CA CL CW) : FnOk P w K mg base CX0 1 f fd ["thing"] (Fn1 K (α := Int) (β := Bool) (fun _ => True) (fun _ => true)) := by
  refine F.ok sc_is_number (fun vs H Q E h => h.len) (fun cdv A outer s H vs Q E hr h => ?_)
  obtain ⟨v_thing, p_thing, rfl, h_thing, pre, k⟩ := h
  have hu := hr.units
  have ex := Ex.refl H
  have hu1 := hu_of hr
  refine ⟨_, (pss_one (ps_ret (pe_and (pe_callB call_isi (by rfl) T.z_isinstance (by decide +kernel) (pa_cons (pv 0) (pa_cons (pe_bltn (v := .ty "int") (by rfl) T.z_int (by decide +kernel) rfl) pa_nil))) (pe_one (pe_not (pe_callB call_isi (by rfl) T.z_isinstance (by decide +kernel) (pa_cons (pv 0) (pa_cons (pe_bltn (v := .ty "bool") (by rfl) T.z_bool (by decide +kernel) rfl) pa_nil)))))))), ?_⟩
  refine r_ret (K := K) (evr_andV (evr_isi (K := K) (tn := "int") (n := "int") (b := true) (evr_var rfl h_thing) rfl (by decide +kernel)) (fun hbo => (evr_notV (evr_isi (K := K) (tn := "int") (n := "bool") (b := false) (evr_var rfl h_thing) rfl (by decide +kernel))))) (fun v_ret H1 e1 hh => ?_)
  exact k _ _ (ex.trans e1) (hh)
abbrev s_is_pair : Stmt := top 8
theorem sc_is_pair : FnScope ["thing", "one"] ["thing"] (defScope s_is_pair) := ⟨rfl, rfl, rfl, by decide +kernel, rfl, by decide +kernel, by decide +kernel⟩
set_option maxHeartbeats 4000000 in
theorem ok_is_pair {f : Addr} {fd : FuncData} (F : Fun K "is_pair" "is_pair" s_is_pair f fd) (T : Txt K mg CA CL CW) (G_is_number : Cal P w K mg base CX0 1 "is_number" ["thing"] (Fn1 K (α := Int) (β := Bool) (fun _ => True) (fun _ => true))) : FnOk P w K mg base CX0 2 f fd ["thing"] (Fn1 K (α := (Int × Int)) (β := Bool) Pos (fun _ => true)) := by
  refine F.ok sc_is_pair (fun vs H Q E h => h.len) (fun cdv A outer s H vs Q E hr h => ?_)
  obtain ⟨v_thing, p_thing, rfl, h_thing, pre, k⟩ := h
  have hu := hr.units
  have ex := Ex.refl H
  have hu1 := hu_of hr
  refine ⟨_, (pss_one (ps_ret (pe_and (pe_callB call_isi (by rfl) T.z_isinstance (by decide +kernel) (pa_cons (pv 0) (pa_cons (pe_bltn (v := .ty "tuple") (by rfl) T.z_tuple (by decide +kernel) rfl) pa_nil))) (pe_and (pe_cmpR op_eq (pe_callB call_len_seq (by rfl) T.z_len (by decide +kernel) (pa_cons (pv 0) pa_nil)) pe_int (nomark _)) (pe_one (pe_callB (cr_all rfl) (by rfl) T.z_all (by decide +kernel) (pa_cons (pe_lc (own := [("one", 1)]) (g := gName 1) (tt := tYes) rfl sc_is_pair.nd (pi_tup (pv 0)) (blkOk_by (own := [("one", 1)]) (N := ["thing", "one"]) (sc := defScope s_is_pair) (by decide +kernel)) (fun _ _ _ _ _ => pg_name (i := 1) sc_is_pair.nd rfl (Or.inl rfl)) (fun _ _ _ _ _ => pts_nil) (fun _ _ _ _ _ => (pe_and (pe_cal G_is_number (hr.mono (by decide)) (by rfl) (pa_cons (pv 1) pa_nil)) (pe_one (pe_cmpR op_gt (pv 1) pe_int (nomark _)))))) pa_nil))))))), ?_⟩
  refine r_ret (K := K) (evr_andV (evr_isi (K := K) (tn := "tuple") (n := "tuple") (b := true) (evr_var rfl h_thing) rfl (by decide +kernel)) (fun hbo => (evr_andV (evr_eqI (evr_lenP (evr_var rfl h_thing)) (evr_int 2)) (fun hbo => (evr_all (evr_n (evn_lcP (f := fun xc : Int => (((fun _ => true) xc) && (decide (0 < xc)))) (evr_var rfl h_thing) (fun _ => rfl) (fun xc vxc Hcx ecx hmem hxc => (evr_andV (evr_call1 (evr_var rfl hxc) trivial) (fun hbo1 => (evr_gt (evr_var rfl hxc) (evr_int 0)))))))))))) (fun v_ret H1 e1 hh => ?_)
  exact k _ _ (ex.trans e1) (rep_eq hh (by rw [all_num _ pre]; rfl))
abbrev s_asked_pair : Stmt := top 9
theorem sc_asked_pair : FnScope ["pair"] ["pair"] (defScope s_asked_pair) := ⟨rfl, rfl, rfl, by decide +kernel, rfl, by decide +kernel, by decide +kernel⟩
set_option maxHeartbeats 4000000 in
theorem ok_asked_pair {f : Addr} {fd : FuncData} (F : Fun K "asked_pair" "asked_pair" s_asked_pair f fd) (T : Txt K mg CA CL CW) (G_is_pair : Cal P w K mg base CX0 2 "is_pair" ["thing"] (Fn1 K (α := (Int × Int)) (β := Bool) Pos (fun _ => true))) : FnOk P w K mg base CX0 3 f fd ["pair"] (Fn1 K (α := (Int × Int)) (β := Unit) Pos (fun _ => ())) := by
  refine F.ok sc_asked_pair (fun vs H Q E h => h.len) (fun cdv A outer s H vs Q E hr h => ?_)
  obtain ⟨v_pair, p_pair, rfl, h_pair, pre, k⟩ := h
  have hu := hr.units
  have ex := Ex.refl H
  have hu1 := hu_of hr
  refine ⟨_, (pss_one (ps_if (pt_not (pt_val (pe_cal G_is_pair (hr.mono (by decide)) (by rfl) (pa_cons (pv 0) pa_nil)))) pss_never pss_nil)), ?_⟩
  refine r_guard1 (et_not (evt_B (evr_call1 (evr_var rfl h_pair) pre))) (rfl) (fun H1 e1 => ?_)
  have ex := ex.trans e1
  have h_pair := rmono e1 h_pair
  exact k V.non _ ex rfl
abbrev s_most_of : Stmt := top 11
theorem sc_most_of : FnScope ["pair"] ["pair"] (defScope s_most_of) := ⟨rfl, rfl, rfl, by decide +kernel, rfl, by decide +kernel, by decide +kernel⟩
set_option maxHeartbeats 4000000 in
theorem ok_most_of {f : Addr} {fd : FuncData} (F : Fun K "most_of" "most_of" s_most_of f fd) (T : Txt K mg CA CL CW) : FnOk P w K mg base CX0 1 f fd ["pair"] (Fn1 K (α := (Int × Int)) (β := Int) Sm mostOf) := by
  refine F.ok sc_most_of (fun vs H Q E h => h.len) (fun cdv A outer s H vs Q E hr h => ?_)
  obtain ⟨v_pair, p_pair, rfl, h_pair, pre, k⟩ := h
  have hu := hr.units
  have ex := Ex.refl H
  have hu1 := hu_of hr
  refine ⟨_, (pss_one (ps_ret (pe_ifExp (pt_cmpR op_ne (pe_ix ix_tup (pv 0) pe_int (fun _ _ => rfl)) (pe_ix ix_tup (pv 0) pe_int (fun _ _ => rfl)) (nomark _)) (pe_op op_fdivX (pe_op op_sub (pe_callB (call_maxP rfl) (by rfl) T.z_max (by decide +kernel) (pa_cons (pv 0) pa_nil)) pe_int) (pe_callB (call_minP rfl) (by rfl) T.z_min (by decide +kernel) (pa_cons (pv 0) pa_nil))) pe_int))), ?_⟩
  refine r_ret (K := K) (evr_if (evt_test (evr_neI (evr_fst (evr_var rfl h_pair)) (evr_snd (evr_var rfl h_pair)))) (fun hif => (evr_div (evr_sub (evr_maxP (evr_var rfl h_pair)) (evr_int 1)) (evr_minP (evr_var rfl h_pair)) (pre.div _))) (fun hif => (evr_int 0))) (fun v_ret H1 e1 hh => ?_)
  exact k _ _ (ex.trans e1) (rep_eq hh (by unfold mostOf hi lo; by_cases c : p_pair.1 = p_pair.2 <;> simp [c]))
abbrev s_taken_of : Stmt := top 12
theorem sc_taken_of : FnScope ["pair", "times"] ["pair", "times"] (defScope s_taken_of) := ⟨rfl, rfl, rfl, by decide +kernel, rfl, by decide +kernel, by decide +kernel⟩
set_option maxHeartbeats 4000000 in
theorem ok_taken_of {f : Addr} {fd : FuncData} (F : Fun K "taken_of" "taken_of" s_taken_of f fd) (T : Txt K mg CA CL CW) : FnOk P w K mg base CX0 1 f fd ["pair", "times"] (Fn2 K (α := (Int × Int)) (β := Int) (γ := (Int × Int)) (fun p t => Sm p ∧ 1 ≤ t ∧ t ≤ mostOf p) takenOf) := by
  refine F.ok sc_taken_of (fun vs H Q E h => h.len) (fun cdv A outer s H vs Q E hr h => ?_)
  obtain ⟨v_pair, v_times, p_pair, p_times, rfl, h_pair, h_times, pre, k⟩ := h
  have hu := hr.units
  have ex := Ex.refl H
  have hu1 := hu_of hr
  refine ⟨_, (pss_cons (ps_if (pt_cmpR op_gt (pe_ix ix_tup (pv 0) pe_int (fun _ _ => rfl)) (pe_ix ix_tup (pv 0) pe_int (fun _ _ => rfl)) (nomark _)) (pss_one (ps_ret (pe_tup (pa_cons (pe_op op_sub (pe_ix ix_tup (pv 0) pe_int (fun _ _ => rfl)) (pe_op op_mulX (pv 1) (pe_ix ix_tup (pv 0) pe_int (fun _ _ => rfl)))) (pa_cons (pe_ix ix_tup (pv 0) pe_int (fun _ _ => rfl)) pa_nil))))) pss_nil) (pss_one (ps_ret (pe_tup (pa_cons (pe_ix ix_tup (pv 0) pe_int (fun _ _ => rfl)) (pa_cons (pe_op op_sub (pe_ix ix_tup (pv 0) pe_int (fun _ _ => rfl)) (pe_op op_mulX (pv 1) (pe_ix ix_tup (pv 0) pe_int (fun _ _ => rfl)))) pa_nil)))))), ?_⟩
  refine q_when (evt_test (evr_gt (evr_fst (evr_var rfl h_pair)) (evr_snd (evr_var rfl h_pair)))) (fun hb1 H1 e1 => ?_) (fun hb1 H1 e1 => ?_)
  · have ex := ex.trans e1
    have h_pair := rmono e1 h_pair
    have h_times := rmono e1 h_times
    refine r_ret (K := K) (evr_tup (evr_sub (evr_fst (evr_var rfl h_pair)) (evr_mul (evr_var rfl h_times) (evr_snd (evr_var rfl h_pair)) ((pre.1.most.le (by omega) pre.2.2).mulOk pre.1.b2 (by decide)))) (evr_snd (evr_var rfl h_pair))) (fun v_ret H1 e1 hh => ?_)
    exact k _ _ (ex.trans e1) (rep_eq hh (by unfold takenOf; rw [if_pos (of_decide_eq_true hb1)]))
  · have ex := ex.trans e1
    have h_pair := rmono e1 h_pair
    have h_times := rmono e1 h_times
    refine r_ret (K := K) (evr_tup (evr_fst (evr_var rfl h_pair)) (evr_sub (evr_snd (evr_var rfl h_pair)) (evr_mul (evr_var rfl h_times) (evr_fst (evr_var rfl h_pair)) ((pre.1.most.le (by omega) pre.2.2).mulOk pre.1.b1 (by decide))))) (fun v_ret H1 e1 hh => ?_)
    exact k _ _ (ex.trans e1) (rep_eq hh (by unfold takenOf; rw [if_neg (of_decide_eq_false hb1)]))
abbrev s_worth_of : Stmt := top 13
theorem sc_worth_of : FnScope ["pair", "high", "low"] ["pair"] (defScope s_worth_of) := ⟨rfl, rfl, rfl, by decide +kernel, rfl, by decide +kernel, by decide +kernel⟩
set_option maxHeartbeats 4000000 in
theorem ok_worth_of {f : Addr} {fd : FuncData} (F : Fun K "worth_of" "worth_of" s_worth_of f fd) (T : Txt K mg CA CL CW) : FnOk P w K mg base CX0 1 f fd ["pair"] (Fn1 K (α := (Int × Int)) (β := Int) Sm worthOf) := by
  refine F.ok sc_worth_of (fun vs H Q E h => h.len) (fun cdv A outer s H vs Q E hr h => ?_)
  obtain ⟨v_pair, p_pair, rfl, h_pair, pre, k⟩ := h
  have hu := hr.units
  have ex := Ex.refl H
  have hu1 := hu_of hr
  refine ⟨_, (pss_cons (ps_par (i := 1) (j := 2) rfl sc_worth_of.nd rfl rfl (by decide) rfl rfl (pa_cons (pe_callB (call_maxP rfl) (by rfl) T.z_max (by decide +kernel) (pa_cons (pv 0) pa_nil)) (pa_cons (pe_callB (call_minP rfl) (by rfl) T.z_min (by decide +kernel) (pa_cons (pv 0) pa_nil)) pa_nil)) rfl) (pss_one (ps_ret (pe_op op_fdivX (pe_op op_sub (pe_op op_mulX (pv 1) (pv 1)) (pe_op op_mulX (pv 2) (pv 2))) (pe_op op_mulX (pv 1) (pv 2)))))), ?_⟩
  refine r_par (K := K) (evr_maxP (evr_var rfl h_pair)) (evr_minP (evr_var rfl h_pair)) (fun v_high v_low H1 e1 hh hh2 => ?_)
  have ex := ex.trans e1
  have h_pair := rmono e1 h_pair
  have h_high := hh
  have h_low := hh2
  refine r_ret (K := K) (evr_div (evr_sub (evr_mul (evr_var rfl h_high) (evr_var rfl h_high) (pre.hi.mulOk pre.hi (by decide))) (evr_mul (evr_var rfl h_low) (evr_var rfl h_low) (pre.lo.mulOk pre.lo (by decide)))) (evr_mul (evr_var rfl h_high) (evr_var rfl h_low) (pre.hi.mulOk pre.lo (by decide))) (pre.worthDiv _)) (fun v_ret H1 e1 hh => ?_)
  exact k _ _ (ex.trans e1) (hh)
abbrev s_l_most : Stmt := top 29
theorem sc_l_most : FnScope ["_law_pair_here"] ["_law_pair_here"] (defScope s_l_most) := ⟨rfl, rfl, rfl, by decide +kernel, rfl, by decide +kernel, by decide +kernel⟩
set_option maxHeartbeats 4000000 in
theorem ok_l_most {f : Addr} {fd : FuncData} (F : Fun K "_law_most" "_law_most" s_l_most f fd) (T : Txt K mg CA CL CW) : FnOk P w K mg base CX0 1 f fd ["_law_pair_here"] (Fn1 K (α := (Int × Int)) (β := Int) Sm mostOf) := by
  refine F.ok sc_l_most (fun vs H Q E h => h.len) (fun cdv A outer s H vs Q E hr h => ?_)
  obtain ⟨v_pair_here, p_pair_here, rfl, h_pair_here, pre, k⟩ := h
  have hu := hr.units
  have ex := Ex.refl H
  have hu1 := hu_of hr
  refine ⟨_, (pss_one (ps_ret (pe_op op_fdivX (pe_op op_sub (pe_callB (call_maxP rfl) (by rfl) T.z_max (by decide +kernel) (pa_cons (pv 0) pa_nil)) pe_int) (pe_callB (call_minP rfl) (by rfl) T.z_min (by decide +kernel) (pa_cons (pv 0) pa_nil))))), ?_⟩
  refine r_ret (K := K) (evr_div (evr_sub (evr_maxP (evr_var rfl h_pair_here)) (evr_int 1)) (evr_minP (evr_var rfl h_pair_here)) (pre.div _)) (fun v_ret H1 e1 hh => ?_)
  exact k _ _ (ex.trans e1) (rep_eq hh (most_form pre.pos))
abbrev s_l_behind : Stmt := top 30
theorem sc_l_behind : FnScope ["_law_pair_here", "_law_times"] ["_law_pair_here", "_law_times"] (defScope s_l_behind) := ⟨rfl, rfl, rfl, by decide +kernel, rfl, by decide +kernel, by decide +kernel⟩
set_option maxHeartbeats 4000000 in
theorem ok_l_behind {f : Addr} {fd : FuncData} (F : Fun K "_law_behind" "_law_behind" s_l_behind f fd) (T : Txt K mg CA CL CW) : FnOk P w K mg base CX0 1 f fd ["_law_pair_here", "_law_times"] (Fn2 K (α := (Int × Int)) (β := Int) (γ := (Int × Int)) (fun p t => Sm p ∧ 1 ≤ t ∧ t ≤ mostOf p) takenOf) := by
  refine F.ok sc_l_behind (fun vs H Q E h => h.len) (fun cdv A outer s H vs Q E hr h => ?_)
  obtain ⟨v_pair_here, v_times, p_pair_here, p_times, rfl, h_pair_here, h_times, pre, k⟩ := h
  have hu := hr.units
  have ex := Ex.refl H
  have hu1 := hu_of hr
  refine ⟨_, (pss_cons (ps_if (pt_cmpR op_gt (pe_ix ix_tup (pv 0) pe_int (fun _ _ => rfl)) (pe_ix ix_tup (pv 0) pe_int (fun _ _ => rfl)) (nomark _)) (pss_one (ps_ret (pe_tup (pa_cons (pe_op op_sub (pe_ix ix_tup (pv 0) pe_int (fun _ _ => rfl)) (pe_op op_mulX (pv 1) (pe_ix ix_tup (pv 0) pe_int (fun _ _ => rfl)))) (pa_cons (pe_ix ix_tup (pv 0) pe_int (fun _ _ => rfl)) pa_nil))))) pss_nil) (pss_one (ps_ret (pe_tup (pa_cons (pe_ix ix_tup (pv 0) pe_int (fun _ _ => rfl)) (pa_cons (pe_op op_sub (pe_ix ix_tup (pv 0) pe_int (fun _ _ => rfl)) (pe_op op_mulX (pv 1) (pe_ix ix_tup (pv 0) pe_int (fun _ _ => rfl)))) pa_nil)))))), ?_⟩
  refine q_when (evt_test (evr_gt (evr_fst (evr_var rfl h_pair_here)) (evr_snd (evr_var rfl h_pair_here)))) (fun hb1 H1 e1 => ?_) (fun hb1 H1 e1 => ?_)
  · have ex := ex.trans e1
    have h_pair_here := rmono e1 h_pair_here
    have h_times := rmono e1 h_times
    refine r_ret (K := K) (evr_tup (evr_sub (evr_fst (evr_var rfl h_pair_here)) (evr_mul (evr_var rfl h_times) (evr_snd (evr_var rfl h_pair_here)) ((pre.1.most.le (by omega) pre.2.2).mulOk pre.1.b2 (by decide)))) (evr_snd (evr_var rfl h_pair_here))) (fun v_ret H1 e1 hh => ?_)
    exact k _ _ (ex.trans e1) (rep_eq hh (by unfold takenOf; rw [if_pos (of_decide_eq_true hb1)]))
  · have ex := ex.trans e1
    have h_pair_here := rmono e1 h_pair_here
    have h_times := rmono e1 h_times
    refine r_ret (K := K) (evr_tup (evr_fst (evr_var rfl h_pair_here)) (evr_sub (evr_snd (evr_var rfl h_pair_here)) (evr_mul (evr_var rfl h_times) (evr_fst (evr_var rfl h_pair_here)) ((pre.1.most.le (by omega) pre.2.2).mulOk pre.1.b1 (by decide))))) (fun v_ret H1 e1 hh => ?_)
    exact k _ _ (ex.trans e1) (rep_eq hh (by unfold takenOf; rw [if_neg (of_decide_eq_false hb1)]))
abbrev s_l_number : Stmt := top 27
theorem sc_l_number : FnScope ["_law_cell", "_law_at", "_law_whole_here", "_law_mixed", "_law_more"] ["_law_cell", "_law_at", "_law_whole_here"] (defScope s_l_number) := ⟨rfl, rfl, rfl, by decide +kernel, rfl, by decide +kernel, by decide +kernel⟩
set_option maxHeartbeats 4000000 in
theorem ok_l_number {f : Addr} {fd : FuncData} (F : Fun K "_law_number" "_law_number" s_l_number f fd) (T : Txt K mg CA CL CW) : FnOk P w K mg base CX0 1 f fd ["_law_cell", "_law_at", "_law_whole_here"] (Fn3 K (α := Int) (β := Int) (γ := Int) (δ := Int) (fun cell at_ _ => Bt 1048576 cell ∧ 0 ≤ at_ ∧ at_ ≤ 100000) lawNumber) := by
  refine F.ok sc_l_number (fun vs H Q E h => h.len) (fun cdv A outer s H vs Q E hr h => ?_)
  obtain ⟨v_cell, v_at, v_whole_here, p_cell, p_at, p_whole_here, rfl, h_cell, h_at, h_whole_here, pre, k⟩ := h
  have hu := hr.units
  have ex := Ex.refl H
  have hu1 := hu_of hr
  refine ⟨_, (pss_cons (ps_if (pt_cmpR op_ge (pv 0) (pe_op op_pow pe_int pe_int) (nomark _)) (pss_one (ps_ret (pe_op op_fdivX (pv 0) (pe_op op_add pe_int (pe_op op_mod (pv 1) pe_int))))) pss_nil) (pss_cons (ps_set (i := 3) sc_l_number.nd rfl (Or.inl rfl) (pe_op op_mod (pe_op op_add (pe_op op_mulX (pe_op op_add (pv 0) (pe_op op_mulX pe_int (pv 1))) pe_int) (pv 2)) pe_int)) (pss_cons (ps_set (i := 4) sc_l_number.nd rfl (Or.inl rfl) (pe_op op_mulX (pv 3) (pe_op op_add (pe_op op_add (pv 0) (pe_op op_mulX pe_int (pv 1))) pe_int))) (pss_one (ps_ret (pe_op op_fdivX (pe_op op_mulX (pe_op op_mulX (pv 4) (pe_op op_add (pe_op op_add (pv 3) (pv 0)) pe_int)) (pe_op op_add (pe_op op_mulX (pv 3) (pv 3)) pe_int)) (pe_op op_add pe_int (pv 1)))))))), ?_⟩
  refine q_when (evt_test (evr_ge (evr_var rfl h_cell) (evr_pow (evr_int 10) (evr_int 18) pow_ok))) (fun hb1 H1 e1 => ?_) (fun hb1 H1 e1 => ?_)
  · have ex := ex.trans e1
    have h_cell := rmono e1 h_cell
    have h_at := rmono e1 h_at
    have h_whole_here := rmono e1 h_whole_here
    refine r_ret (K := K) (evr_div (evr_var rfl h_cell) (evr_add (evr_int 1) (evr_mod (evr_var rfl h_at) (evr_int 7) (show (0 : Int) < 7 by decide))) (div_small (by omega) (by omega))) (fun v_ret H1 e1 hh => ?_)
    exact k _ _ (ex.trans e1) (rep_eq hh (by unfold lawNumber; rw [if_pos (of_decide_eq_true hb1)]))
  · have ex := ex.trans e1
    have h_cell := rmono e1 h_cell
    have h_at := rmono e1 h_at
    have h_whole_here := rmono e1 h_whole_here
    refine r_asg (K := K) (evr_mod (evr_add (evr_mul (evr_add (evr_var rfl h_cell) (evr_mul (evr_int 977) (evr_var rfl h_at) (num_m1 pre.2))) (evr_int 48271) (num_m2 pre.1 pre.2)) (evr_var rfl h_whole_here)) (evr_int 2147483647) (show (0 : Int) < 2147483647 by decide)) (fun v_mixed H1 e1 hh => ?_)
    have ex := ex.trans e1
    have h_cell := rmono e1 h_cell
    have h_at := rmono e1 h_at
    have h_whole_here := rmono e1 h_whole_here
    have h_mixed := hh
    have h_mixed : rep K H1 v_mixed (lnMixed p_cell p_at p_whole_here) := hh
    refine r_asg (K := K) (evr_mul (evr_var rfl h_mixed) (evr_add (evr_add (evr_var rfl h_cell) (evr_mul (evr_int 31) (evr_var rfl h_at) (num_m3 pre.2))) (evr_int 7)) (num_m4 pre.1 pre.2)) (fun v_more H1 e1 hh => ?_)
    have ex := ex.trans e1
    have h_cell := rmono e1 h_cell
    have h_at := rmono e1 h_at
    have h_whole_here := rmono e1 h_whole_here
    have h_mixed := rmono e1 h_mixed
    have h_more := hh
    have h_more : rep K H1 v_more (lnMore p_cell p_at p_whole_here) := hh
    refine r_ret (K := K) (evr_div (evr_mul (evr_mul (evr_var rfl h_more) (evr_add (evr_add (evr_var rfl h_mixed) (evr_var rfl h_cell)) (evr_int 5)) (num_m6 pre.1 pre.2)) (evr_add (evr_mul (evr_var rfl h_mixed) (evr_var rfl h_mixed) num_m5) (evr_int 11)) (num_m7 pre.1 pre.2)) (evr_add (evr_int 1009) (evr_var rfl h_at)) (div_small (by omega) (by omega))) (fun v_ret H1 e1 hh => ?_)
    exact k _ _ (ex.trans e1) (rep_eq hh (by unfold lawNumber; rw [if_neg (of_decide_eq_false hb1)]))
end
end Mt

namespace Mt
open PySem PySem.Spec L2 Evl PyProof.Rows
section
variable {P : Program} {w : World} {K : PySem.W.Frag} {mg : Str → Option Value} {base : Heap} {CA CL CW : Addr}
abbrev s_asked_pairs : Stmt := top 10
theorem sc_asked_pairs : FnScope ["pairs", "pair"] ["pairs"] (defScope s_asked_pairs) := ⟨rfl, rfl, rfl, by decide +kernel, rfl, by decide +kernel, by decide +kernel⟩
set_option maxHeartbeats 4000000 in
theorem ok_asked_pairs {f : Addr} {fd : FuncData} (F : Fun K "asked_pairs" "asked_pairs" s_asked_pairs f fd) (T : Txt K mg CA CL CW) (G_is_pair : Cal P w K mg base CX0 2 "is_pair" ["thing"] (Fn1 K (α := (Int × Int)) (β := Bool) Pos (fun _ => true))) : FnOk P w K mg base CX0 3 f fd ["pairs"] (Fn1 K (α := (List (Int × Int))) (β := Unit) (fun ps => AllSm ps ∧ ps.length ≤ 100) (fun _ => ())) := by
  refine F.ok sc_asked_pairs (fun vs H Q E h => h.len) (fun cdv A outer s H vs Q E hr h => ?_)
  obtain ⟨v_pairs, p_pairs, rfl, h_pairs, pre, k⟩ := h
  have hu := hr.units
  have ex := Ex.refl H
  have hu1 := hu_of hr
  refine ⟨_, (pss_one (ps_if (PW.pt (pw_or (pt_not (pt_val (pe_callB call_isi (by rfl) T.z_isinstance (by decide +kernel) (pa_cons (pv 0) (pa_cons (pe_bltn (v := .ty "list") (by rfl) T.z_list (by decide +kernel) rfl) pa_nil))))) (pw_or (pt_cmpR op_gt (pe_callB call_len_seq (by rfl) T.z_len (by decide +kernel) (pa_cons (pv 0) pa_nil)) (pe_globI (by rfl) T.g_MOST) (nomark _)) (pw_or1 (pt_not (pt_val (pe_callB (cr_all rfl) (by rfl) T.z_all (by decide +kernel) (pa_cons (pe_lc (own := [("pair", 1)]) (g := gName 1) (tt := tYes) rfl sc_asked_pairs.nd (pi_list (pv 0)) (blkOk_by (own := [("pair", 1)]) (N := ["pairs", "pair"]) (sc := defScope s_asked_pairs) (by decide +kernel)) (fun _ _ _ _ _ => pg_name (i := 1) sc_asked_pairs.nd rfl (Or.inl rfl)) (fun _ _ _ _ _ => pts_nil) (fun _ _ _ _ _ => (pe_cal G_is_pair (hr.mono (by decide)) (by rfl) (pa_cons (pv 1) pa_nil)))) pa_nil)))))))) pss_never pss_nil)), ?_⟩
  refine r_guard1 (et_or (et_not (evt_B (evr_isi (K := K) (tn := "list") (n := "list") (b := true) (evr_var rfl h_pairs) rfl (by decide +kernel)))) (fun hbo => (et_or (evt_test (evr_gt (evr_lenL (evr_var rfl h_pairs)) (evr_int 100))) (fun hbo => (et_not (evt_B (evr_all (evr_n (evn_lcL (f := fun xc : (Int × Int) => ((fun _ => true) xc)) (evr_var rfl h_pairs) (by have h := pre.2; omega) (fun _ => rfl) (fun nxc xc vxc Hcx ecx hmem hxc => (evr_call1 (evr_var rfl hxc) ((pre.1 _ (List.mem_of_getElem? hmem)).pos)))))))))))) (by have h := pre.2; simp; omega) (fun H1 e1 => ?_)
  have ex := ex.trans e1
  have h_pairs := rmono e1 h_pairs
  exact k V.non _ ex rfl
abbrev s_sum_of : Stmt := top 20
theorem sc_sum_of : FnScope ["pairs", "found", "pair"] ["pairs"] (defScope s_sum_of) := ⟨rfl, rfl, rfl, by decide +kernel, rfl, by decide +kernel, by decide +kernel⟩
set_option maxHeartbeats 4000000 in
theorem ok_sum_of {f : Addr} {fd : FuncData} (F : Fun K "sum_of" "sum_of" s_sum_of f fd) (T : Txt K mg CA CL CW) (G_worth_of : Cal P w K mg base CX0 1 "worth_of" ["pair"] (Fn1 K (α := (Int × Int)) (β := Int) Sm worthOf)) : FnOk P w K mg base CX0 2 f fd ["pairs"] (Fn1 K (α := (List (Int × Int))) (β := Int) AllSm sumOf) := by
  refine F.ok sc_sum_of (fun vs H Q E h => h.len) (fun cdv A outer s H vs Q E hr h => ?_)
  obtain ⟨v_pairs, p_pairs, rfl, h_pairs, pre, k⟩ := h
  have hu := hr.units
  have ex := Ex.refl H
  have hu1 := hu_of hr
  refine ⟨_, (pss_cons (ps_set (i := 1) sc_sum_of.nd rfl (Or.inl rfl) pe_int) (pss_cons (ps_for PassesOwn.never rfl (pi_list (pv 0)) (pg_name (i := 2) sc_sum_of.nd rfl (Or.inl rfl)) (pss_one (ps_set (i := 1) sc_sum_of.nd rfl (Or.inl rfl) (pe_op op_xor (pv 1) (pe_cal G_worth_of (hr.mono (by decide)) (by rfl) (pa_cons (pv 2) pa_nil)))))) (pss_one (ps_ret (pv 1))))), ?_⟩
  refine r_asg (K := K) (evr_int 0) (fun v_found H1 e1 hh => ?_)
  have ex := ex.trans e1
  have h_pairs := rmono e1 h_pairs
  have h_found := hh
  refine r_forL (K := K) (evr_var rfl h_pairs) (fun lp lvs H1 e1 hlp hlrs => ?_)
  have ex := ex.trans e1
  have h_pairs := rmono e1 h_pairs
  have h_found := rmono e1 h_found
  refine ⟨fun (n : Nat) (σ' : L2.St) (H' : Hp) => Ex H1 H' ∧ ∃ (o_2 : Option V), ∃ (w_found : V), σ' = [some v_pairs, some w_found, o_2] ∧ rep K H' w_found (sumOf (p_pairs.take n) : Int), ?_, ?_, ?_, ?_⟩
  · refine ⟨Ex.refl _, _, _, rfl, ?_⟩
    · exact rep_eq h_found (by rw [List.take_zero]; rfl)
  · rintro n σ' H' ⟨exn, _⟩
    exact ⟨exn _ _ hlp, pmono exn hlrs⟩
  · rintro n v_pair x_pair σ' H' hx h_pair ⟨exn, o_2, w_found, rfl, h_found⟩
    have ex := ex.trans exn
    have h_pairs := rmono exn h_pairs
    have exb1 := exn
    refine r_asg1 (K := K) (evr_xor (evr_var rfl h_found) (evr_call1 (evr_var rfl h_pair) (pre _ (List.mem_of_getElem? hx))) (sumOf_nonneg _) (worth_nonneg (pre _ (List.mem_of_getElem? hx)).pos)) (fun v_found H1 e1 hh => ?_)
    have ex := ex.trans e1
    have exb1 := exb1.trans e1
    have h_pairs := rmono e1 h_pairs
    have h_pair := rmono e1 h_pair
    have h_found := hh
    refine ⟨?_, _, _, rfl, ?_⟩
    · exact exb1
    · exact rep_eq h_found (sumOf_step hx).symm
  · rintro σ' H' ⟨exn, o_2, w_found, rfl, h_found⟩
    have ex := ex.trans exn
    have h_pairs := rmono exn h_pairs
    refine r_ret (K := K) (evr_var rfl h_found) (fun v_ret H1 e1 hh => ?_)
    exact k _ _ (ex.trans e1) (rep_eq hh (by rw [List.take_length]))
abbrev s_W_init : Stmt := inClass (top 22) 0
theorem sc_W_init : FnScope ["self", "at", "times"] ["self", "at", "times"] (defScope s_W_init) := ⟨rfl, rfl, rfl, by decide +kernel, rfl, by decide +kernel, by decide +kernel⟩
set_option maxHeartbeats 4000000 in
theorem ok_W_init {f : Addr} {fd : FuncData} (F : Fun K "__init__" "Won.__init__" s_W_init f fd) (T : Txt K mg CA CL CW) : FnOk P w K mg base CX0 1 f fd ["self", "at", "times"] (spInitW CW) := by
  refine F.ok sc_W_init (fun vs H Q E h => h.len) (fun cdv A outer s H vs Q E hr h => ?_)
  obtain ⟨p, dx, i, j, rfl, hp, k⟩ := h
  have hu := hr.units
  have ex := Ex.refl H
  have hu1 := hu_of hr
  refine ⟨_, (pss_cons (ps_fld (pv 0) (pv 1) rfl) (pss_one (ps_fld (pv 0) (pv 2) rfl))), ?_⟩
  refine ⟨_, rfl, _, rfl, p, CW, dx, [], rfl, hp, T.ans.cW.cl, T.ans.nA, (by show 0 < 1000; decide), _, rfl, _, rfl, p, CW, dx, _, rfl, upd_same, T.ans.cW.cl, T.ans.nT, (by show 1 < 1000; decide), ?_⟩
  exact k _ (by rw [upd_same]; rfl) fun b o hb hne => by rw [upd_ne hne, upd_ne hne]; exact hb
abbrev s_times_to : Stmt := top 24
theorem sc_times_to : FnScope ["pair", "worth", "most", "whole", "times"] ["pair", "worth"] (defScope s_times_to) := ⟨rfl, rfl, rfl, by decide +kernel, rfl, by decide +kernel, by decide +kernel⟩
set_option maxHeartbeats 4000000 in
theorem ok_times_to {f : Addr} {fd : FuncData} (F : Fun K "times_to" "times_to" s_times_to f fd) (T : Txt K mg CA CL CW) (G_most_of : Cal P w K mg base CX0 1 "most_of" ["pair"] (Fn1 K (α := (Int × Int)) (β := Int) Sm mostOf)) (G_worth_of : Cal P w K mg base CX0 1 "worth_of" ["pair"] (Fn1 K (α := (Int × Int)) (β := Int) Sm worthOf)) (G_taken_of : Cal P w K mg base CX0 1 "taken_of" ["pair", "times"] (Fn2 K (α := (Int × Int)) (β := Int) (γ := (Int × Int)) (fun p t => Sm p ∧ 1 ≤ t ∧ t ≤ mostOf p) takenOf)) : FnOk P w K mg base CX0 2 f fd ["pair", "worth"] (Fn2 K (α := (Int × Int)) (β := Int) (γ := Int) (fun p w => Sm p ∧ 0 ≤ w ∧ w < worthOf p) timesTo) := by
  refine F.ok sc_times_to (fun vs H Q E h => h.len) (fun cdv A outer s H vs Q E hr h => ?_)
  obtain ⟨v_pair, v_worth, p_pair, p_worth, rfl, h_pair, h_worth, pre, k⟩ := h
  have hu := hr.units
  have ex := Ex.refl H
  have hu1 := hu_of hr
  refine ⟨_, (pss_cons (ps_set (i := 2) sc_times_to.nd rfl (Or.inl rfl) (pe_cal G_most_of (hr.mono (by decide)) (by rfl) (pa_cons (pv 0) pa_nil))) (pss_cons (ps_set (i := 3) sc_times_to.nd rfl (Or.inl rfl) (pe_op op_fdivX (pe_callB (call_maxP rfl) (by rfl) T.z_max (by decide +kernel) (pa_cons (pv 0) pa_nil)) (pe_callB (call_minP rfl) (by rfl) T.z_min (by decide +kernel) (pa_cons (pv 0) pa_nil)))) (pss_cons (ps_for PassesOwn.never rfl (pi_tup (pe_tup (pa_cons (pe_op op_sub (pe_op op_sub (pv 3) (pv 1)) pe_int) (pa_cons (pe_op op_sub (pv 3) (pv 1)) (pa_cons (pv 2) pa_nil))))) (pg_name (i := 4) sc_times_to.nd rfl (Or.inl rfl)) (pss_one (ps_if (PW.pt (pw_and (pt_chain op_le op_le pe_int (pv 4) (pv 2)) (pw_and1 (pt_cmpR op_eq (pe_cal G_worth_of (hr.mono (by decide)) (by rfl) (pa_cons (pe_cal G_taken_of (hr.mono (by decide)) (by rfl) (pa_cons (pv 0) (pa_cons (pv 4) pa_nil))) pa_nil)) (pv 1) (nomark _))))) (pss_one (ps_ret (pv 4))) pss_nil))) (pss_one (ps_ret pe_non))))), ?_⟩
  refine r_asg (K := K) (evr_call1 (evr_var rfl h_pair) pre.1) (fun v_most H1 e1 hh => ?_)
  have ex := ex.trans e1
  have h_pair := rmono e1 h_pair
  have h_worth := rmono e1 h_worth
  have h_most := hh
  refine r_asg (K := K) (evr_div (evr_maxP (evr_var rfl h_pair)) (evr_minP (evr_var rfl h_pair)) (pre.1.div _)) (fun v_whole H1 e1 hh => ?_)
  have ex := ex.trans e1
  have h_pair := rmono e1 h_pair
  have h_worth := rmono e1 h_worth
  have h_most := rmono e1 h_most
  have h_whole := hh
  refine r_forU (K := K) (evr_tu (els_cons (evr_sub (evr_sub (evr_var rfl h_whole) (evr_var rfl h_worth)) (evr_int 1)) (els_cons (evr_sub (evr_var rfl h_whole) (evr_var rfl h_worth)) (els_cons (evr_var rfl h_most) els_nil))) (by show _ ≤ 100000; simp)) (fun lp lvs H1 e1 hlp hlrs => ?_)
  have ex := ex.trans e1
  have h_pair := rmono e1 h_pair
  have h_worth := rmono e1 h_worth
  have h_most := rmono e1 h_most
  have h_whole := rmono e1 h_whole
  refine ⟨fun (n : Nat) (σ' : L2.St) (H' : Hp) => Ex H1 H' ∧ ∃ (o_4 : Option V), σ' = [some v_pair, some v_worth, some v_most, some v_whole, o_4] ∧ (∀ (m : Nat) (y : Int), m < n → (cands p_pair p_worth)[m]? = some y → okB p_pair p_worth y = false), ?_, ?_, ?_, ?_⟩
  · refine ⟨Ex.refl _, _, rfl, ?_⟩
    · exact fun m y hm => by omega
  · rintro n σ' H' ⟨exn, _⟩
    exact exn
  · rintro n v_times x_times σ' H' hx h_times ⟨exn, o_4, rfl, hextra⟩
    have ex := ex.trans exn
    have h_pair := rmono exn h_pair
    have h_worth := rmono exn h_worth
    have h_most := rmono exn h_most
    have h_whole := rmono exn h_whole
    have exb1 := exn
    refine s_when (et_and (evt_test (evr_chain (g := (fun i j => decide (i ≤ j))) (g' := (fun i j => decide (i ≤ j))) (evr_int 1) (evr_var rfl h_times) (fun hch => (evr_var rfl h_most)))) (fun hbo => (evt_test (evr_eqI (evr_call1 (evr_call2 (evr_var rfl h_pair) (evr_var rfl h_times) ⟨pre.1, and_of hbo⟩) (pre.1.taken (and_of hbo).1 (and_of hbo).2)) (evr_var rfl h_worth))))) (fun hb1 H1 e1 => ?_) (fun hb1 H1 e1 => ?_)
    · have ex := ex.trans e1
      have exb1 := exb1.trans e1
      have h_pair := rmono e1 h_pair
      have h_worth := rmono e1 h_worth
      have h_most := rmono e1 h_most
      have h_whole := rmono e1 h_whole
      have h_times := rmono e1 h_times
      refine r_ret (K := K) (evr_var rfl h_times) (fun v_ret H1 e1 hh => ?_)
      exact k _ _ (ex.trans e1) (rep_eq hh (by have h := find_at hextra (hx : (cands p_pair p_worth)[n]? = some x_times) hb1; unfold timesTo; rw [h]; rfl))
    · have ex := ex.trans e1
      have exb1 := exb1.trans e1
      have h_pair := rmono e1 h_pair
      have h_worth := rmono e1 h_worth
      have h_most := rmono e1 h_most
      have h_whole := rmono e1 h_whole
      have h_times := rmono e1 h_times
      refine ⟨?_, _, rfl, ?_⟩
      · exact exb1
      · intro m y hm hy
        rcases Nat.lt_succ_iff_lt_or_eq.mp hm with c | c
        · exact hextra m y c hy
        · subst c
          have e : y = x_times := Option.some.inj (hy.symm.trans (hx : (cands p_pair p_worth)[m]? = some x_times))
          subst e
          exact hb1
  · rintro σ' H' ⟨exn, o_4, rfl, hextra⟩
    have ex := ex.trans exn
    have h_pair := rmono exn h_pair
    have h_worth := rmono exn h_worth
    have h_most := rmono exn h_most
    have h_whole := rmono exn h_whole
    obtain ⟨t, ht⟩ := cands_hit pre.1.pos pre.2.1 pre.2.2
    exfalso
    have hm := List.mem_of_find?_eq_some ht
    obtain ⟨m, hm⟩ := List.mem_iff_getElem?.mp hm
    have hl : m < 3 := (List.getElem?_eq_some_iff.mp hm).1
    have := hextra m t hl hm
    rw [List.find?_some ht] at this
    cases this
abbrev s_told : Stmt := top 25
theorem sc_told : FnScope ["pairs", "whole", "at", "pair"] ["pairs"] (defScope s_told) := ⟨rfl, rfl, rfl, by decide +kernel, rfl, by decide +kernel, by decide +kernel⟩
set_option maxHeartbeats 4000000 in
theorem ok_told {f : Addr} {fd : FuncData} (F : Fun K "told" "told" s_told f fd) (T : Txt K mg CA CL CW) (G_asked_pairs : Cal P w K mg base CX0 3 "asked_pairs" ["pairs"] (Fn1 K (α := (List (Int × Int))) (β := Unit) (fun ps => AllSm ps ∧ ps.length ≤ 100) (fun _ => ()))) (G_sum_of : Cal P w K mg base CX0 2 "sum_of" ["pairs"] (Fn1 K (α := (List (Int × Int))) (β := Int) AllSm sumOf)) (G_worth_of : Cal P w K mg base CX0 1 "worth_of" ["pair"] (Fn1 K (α := (Int × Int)) (β := Int) Sm worthOf)) (G_times_to : Cal P w K mg base CX0 2 "times_to" ["pair", "worth"] (Fn2 K (α := (Int × Int)) (β := Int) (γ := Int) (fun p w => Sm p ∧ 0 ≤ w ∧ w < worthOf p) timesTo)) (GW_init : CalW P w K mg base CW) : FnOk P w K mg base CX0 4 f fd ["pairs"] (Fn1 K (α := (List (Int × Int))) (β := Ans) (fun ps => AllSm ps ∧ ps.length ≤ 100) toldOf) := by
  refine F.ok sc_told (fun vs H Q E h => h.len) (fun cdv A outer s H vs Q E hr h => ?_)
  obtain ⟨v_pairs, p_pairs, rfl, h_pairs, pre, k⟩ := h
  have hu := hr.units
  have ex := Ex.refl H
  have hu1 := hu_of hr
  refine ⟨_, (pss_cons (ps_expr (pe_cal G_asked_pairs (hr.mono (by decide)) (by rfl) (pa_cons (pv 0) pa_nil))) (pss_cons (ps_set (i := 1) sc_told.nd rfl (Or.inl rfl) (pe_cal G_sum_of (hr.mono (by decide)) (by rfl) (pa_cons (pv 0) pa_nil))) (pss_cons (ps_if (pt_cmpR op_eq (pv 1) pe_int (nomark _)) (pss_one (ps_ret (pe_make00 T.ans.mkL (by rfl) T.ans.mgL))) pss_nil) (pss_cons (ps_for PassesOwn.never rfl (pi_enum rfl T.z_enumerate (pa_cons (pv 0) pa_nil)) (pg_tup rfl (pgs_cons (pg_name (i := 2) sc_told.nd rfl (Or.inl rfl)) (pgs_cons (pg_name (i := 3) sc_told.nd rfl (Or.inl rfl)) pgs_nil))) (pss_one (ps_if (pt_cmpR op_lt (pe_op op_xor (pe_cal G_worth_of (hr.mono (by decide)) (by rfl) (pa_cons (pv 3) pa_nil)) (pv 1)) (pe_cal G_worth_of (hr.mono (by decide)) (by rfl) (pa_cons (pv 3) pa_nil)) (nomark _)) (pss_one (ps_ret (pe_makW GW_init (hr.mono (by decide)) (by rfl) (pa_cons (pv 2) (pa_cons (pe_cal G_times_to (hr.mono (by decide)) (by rfl) (pa_cons (pv 3) (pa_cons (pe_op op_xor (pe_cal G_worth_of (hr.mono (by decide)) (by rfl) (pa_cons (pv 3) pa_nil)) (pv 1)) pa_nil))) pa_nil))))) pss_nil))) (pss_one (ps_ret (pe_make00 T.ans.mkL (by rfl) T.ans.mgL))))))), ?_⟩
  refine r_drop (K := K) (evr_call1 (evr_var rfl h_pairs) pre) (fun H1 e1 => ?_)
  have ex := ex.trans e1
  have h_pairs := rmono e1 h_pairs
  refine r_asg (K := K) (evr_call1 (evr_var rfl h_pairs) pre.1) (fun v_whole H1 e1 hh => ?_)
  have ex := ex.trans e1
  have h_pairs := rmono e1 h_pairs
  have h_whole := hh
  refine q_when (evt_test (evr_eqI (evr_var rfl h_whole) (evr_int 0))) (fun hb1 H1 e1 => ?_) (fun hb1 H1 e1 => ?_)
  · have ex := ex.trans e1
    have h_pairs := rmono e1 h_pairs
    have h_whole := rmono e1 h_whole
    refine r_ret (K := K) (evr_makeL T.ans) (fun v_ret H1 e1 hh => ?_)
    exact k _ _ (ex.trans e1) (rep_eq hh (told_lost (of_decide_eq_true hb1)).symm)
  · have ex := ex.trans e1
    have h_pairs := rmono e1 h_pairs
    have h_whole := rmono e1 h_whole
    refine r_forE (K := K) (evr_var rfl h_pairs) (fun lp lvs H1 e1 hlp hlrs => ?_)
    have ex := ex.trans e1
    have h_pairs := rmono e1 h_pairs
    have h_whole := rmono e1 h_whole
    refine ⟨fun (n : Nat) (σ' : L2.St) (H' : Hp) => Ex H1 H' ∧ ∃ (o_2 o_3 : Option V), σ' = [some v_pairs, some v_whole, o_2, o_3] ∧ (toldGo (sumOf p_pairs) 0 p_pairs = toldGo (sumOf p_pairs) n (p_pairs.drop n)), ?_, ?_, ?_, ?_⟩
    · refine ⟨Ex.refl _, _, _, rfl, ?_⟩
      · rw [List.drop_zero]
    · rintro n σ' H' ⟨exn, _⟩
      exact ⟨exn _ _ hlp, pmono exn hlrs⟩
    · rintro n v_pair x_pair σ' H' H2 hx exm h_pair ⟨exn, o_2, o_3, rfl, hextra⟩
      have exn := exn.trans exm
      have ex := ex.trans exn
      have h_pairs := rmono exn h_pairs
      have h_whole := rmono exn h_whole
      have h_at : rep K H2 (V.int (n : Int)) (n : Int) := rfl
      have exb1 := exn
      refine s_when (evt_test (evr_lt (evr_xor (evr_call1 (evr_var rfl h_pair) (pre.1 _ (List.mem_of_getElem? hx))) (evr_var rfl h_whole) (worth_nonneg (pre.1 _ (List.mem_of_getElem? hx)).pos) (sumOf_nonneg _)) (evr_call1 (evr_var rfl h_pair) (pre.1 _ (List.mem_of_getElem? hx))))) (fun hb2 H1 e1 => ?_) (fun hb2 H1 e1 => ?_)
      · have ex := ex.trans e1
        have exb1 := exb1.trans e1
        have h_pairs := rmono e1 h_pairs
        have h_whole := rmono e1 h_whole
        have h_pair := rmono e1 h_pair
        have h_at := rmono e1 h_at
        refine r_ret (K := K) (evr_makeW T.ans (evr_var rfl h_at) (evr_call2 (evr_var rfl h_pair) (evr_xor (evr_call1 (evr_var rfl h_pair) (pre.1 _ (List.mem_of_getElem? hx))) (evr_var rfl h_whole) (worth_nonneg (pre.1 _ (List.mem_of_getElem? hx)).pos) (sumOf_nonneg _)) ⟨(pre.1 _ (List.mem_of_getElem? hx)), xr_nonneg _ _, of_decide_eq_true hb2⟩)) (fun v_ret H1 e1 hh => ?_)
        exact k _ _ (ex.trans e1) (rep_eq hh (by unfold toldOf; rw [if_neg (of_decide_eq_false hb1), hextra, toldGo_drop hx, if_pos (of_decide_eq_true hb2)]))
      · have ex := ex.trans e1
        have exb1 := exb1.trans e1
        have h_pairs := rmono e1 h_pairs
        have h_whole := rmono e1 h_whole
        have h_pair := rmono e1 h_pair
        have h_at := rmono e1 h_at
        refine ⟨?_, _, _, rfl, ?_⟩
        · exact exb1
        · rw [hextra, toldGo_drop hx, if_neg (of_decide_eq_false hb2)]
    · rintro σ' H' ⟨exn, o_2, o_3, rfl, hextra⟩
      have ex := ex.trans exn
      have h_pairs := rmono exn h_pairs
      have h_whole := rmono exn h_whole
      exfalso
      obtain ⟨i, p, _, _, h⟩ := told_won pre.1 (of_decide_eq_false hb1)
      unfold toldOf at h
      rw [if_neg (of_decide_eq_false hb1), hextra, List.drop_length] at h
      cases h
abbrev s_l_sorted : Stmt := top 35
theorem sc_l_sorted : FnScope ["_law_pairs", "_law_pair_here"] ["_law_pairs"] (defScope s_l_sorted) := ⟨rfl, rfl, rfl, by decide +kernel, rfl, by decide +kernel, by decide +kernel⟩
set_option maxHeartbeats 4000000 in
theorem ok_l_sorted {f : Addr} {fd : FuncData} (F : Fun K "_law_sorted" "_law_sorted" s_l_sorted f fd) (T : Txt K mg CA CL CW) : FnOk P w K mg base CX0 1 f fd ["_law_pairs"] (spSort K) := by
  refine F.ok sc_l_sorted (fun vs H Q E h => h.len) (fun cdv A outer s H vs Q E hr h => ?_)
  obtain ⟨v_pairs, ps, rfl, h_pairs, hz, k⟩ := h
  refine ⟨_, (pss_one (ps_ret (pe_callTy call_tuple_of (by rfl) T.z_tuple (by decide +kernel) (pa_cons (pe_callB cr_sortedP (by rfl) T.z_sorted (by decide +kernel) (pa_cons (pe_lc (own := [("_law_pair_here", 1)]) (g := gName 1) (tt := tYes) rfl sc_l_sorted.nd (pi_list (pv 0)) (blkOk_by (own := [("_law_pair_here", 1)]) (N := ["_law_pairs", "_law_pair_here"]) (sc := defScope s_l_sorted) (by decide +kernel)) (fun _ _ _ _ _ => pg_name (i := 1) sc_l_sorted.nd rfl (Or.inl rfl)) (fun _ _ _ _ _ => pts_nil)
    (fun _ _ _ _ _ => (pe_tup (pa_cons (pe_callB (show CallR _ (.builtin "min") (rMinP K) from (call_minP rfl)) (by rfl) T.z_min (by decide +kernel) (pa_cons (pv 1) pa_nil)) (pa_cons (pe_callB (show CallR _ (.builtin "max") (rMaxP K) from (call_maxP rfl)) (by rfl) T.z_max (by decide +kernel) (pa_cons (pv 1) pa_nil)) pa_nil))))) pa_nil)) pa_nil)))), ?_⟩
  refine x_sorted (K := K) (evn_lcL (f := normP) (evr_var rfl h_pairs) hz (fun _ => rfl) (fun n x v H1 e hx hv => (evr_tup (evr_minP (evr_var rfl hv)) (evr_maxP (evr_var rfl hv))))) (fun u qs H' e hp r => k u qs H' e hp r)
abbrev s_l_won : Stmt := top 36
theorem sc_l_won : FnScope ["_law_pairs", "_law_known", "_law_found", "_law_at", "_law_pair_here", "_law_times", "_law_after"] ["_law_pairs", "_law_known"] (defScope s_l_won) := ⟨rfl, rfl, rfl, by decide +kernel, rfl, by decide +kernel, by decide +kernel⟩
theorem ok_l_won0 {f : Addr} {fd : FuncData} (F : Fun K "_law_won" "_law_won" s_l_won f fd) : FnOk P w K mg base CX0 5 f fd ["_law_pairs", "_law_known"] (spWon P w K 0) := by
  refine F.ok sc_l_won (fun vs H Q E h => h.len) (fun cdv A outer s H vs Q E hr h => ?_)
  obtain ⟨v_pairs, d, ps, l, rfl, h_pairs, DD, G, hb, hsz, k⟩ := h
  exact absurd hsz (Nat.not_lt_zero _)
set_option maxHeartbeats 8000000 in
theorem ok_l_wonS {n : Nat} {f : Addr} {fd : FuncData} (F : Fun K "_law_won" "_law_won" s_l_won f fd) (T : Txt K mg CA CL CW) (G_l_most : Cal P w K mg base CX0 1 "_law_most" ["_law_pair_here"] (Fn1 K (α := (Int × Int)) (β := Int) Sm mostOf))
    (G_l_behind : Cal P w K mg base CX0 1 "_law_behind" ["_law_pair_here", "_law_times"] (Fn2 K (α := (Int × Int)) (β := Int) (γ := (Int × Int)) (fun p t => Sm p ∧ 1 ≤ t ∧ t ≤ mostOf p) takenOf))
    (G_l_sorted : Cal P w K mg base CX0 1 "_law_sorted" ["_law_pairs"] (spSort K)) (G : Cal P w K mg base CX0 (n + 5) "_law_won" ["_law_pairs", "_law_known"] (spWon P w K n)) :
    FnOk P w K mg base CX0 (n + 6) f fd ["_law_pairs", "_law_known"] (spWon P w K (n + 1)) := by
  refine F.ok sc_l_won (fun vs H Q E h => h.len) (fun cdv A outer s H vs Q E hr h => ?_)
  obtain ⟨v_pairs, d, ps, l, rfl, h_pairs, DD, GG, hb, hsz, k⟩ := h
  have hu := hr.units
  have hu1 := hu_of hr
  refine ⟨_, (pss_cons (ps_if (pt_cmp (pc_nnotin hu (pv 0) (pv 1)) (by with_unfolding_all rfl))
    (pss_cons (ps_set (i := 2) sc_l_won.nd rfl (Or.inl rfl) pe_bl)
    (pss_cons (ps_for PassesOwn.never rfl (pi_enumT rfl T.z_enumerate (pa_cons (pv 0) pa_nil)) (pg_tup rfl (pgs_cons (pg_name (i := 3) sc_l_won.nd rfl (Or.inl rfl)) (pgs_cons (pg_name (i := 4) sc_l_won.nd rfl (Or.inl rfl)) pgs_nil)))
      (pss_one (ps_for PassesOwn.never rfl (pi_range2 rfl T.z_range (pa_cons pe_int (pa_cons (pe_op op_add (pe_cal G_l_most (hr.mono (by omega)) (by rfl) (pa_cons (pv 4) pa_nil)) pe_int) pa_nil))) (pg_name (i := 5) sc_l_won.nd rfl (Or.inl rfl))
        (pss_cons (ps_set (i := 6) sc_l_won.nd rfl (Or.inl rfl) (pe_callTy call_list_of (by rfl) T.z_list (by decide +kernel) (pa_cons (pv 0) pa_nil)))
        (pss_cons (ps_asg (pe_cal G_l_behind (hr.mono (by omega)) (by rfl) (pa_cons (pv 4) (pa_cons (pv 5) pa_nil))) (pg_sub (pv 6) (pv 3) set_list))
        (pss_one (ps_set (i := 2) sc_l_won.nd rfl (Or.inl rfl) (pe_or (pv 2) (pe_one (pe_not (pe_cal G (hr.mono (by omega)) (by rfl) (pa_cons (pe_cal G_l_sorted (hr.mono (by omega)) (by rfl) (pa_cons (pv 6) pa_nil)) (pa_cons (pv 1) pa_nil)))))))))))))
    (pss_one (ps_nput hu (pv 1) (pv 0) (pv 2) rfl)))) pss_nil)
    (pss_one (ps_ret (pe_nget hu (pv 1) (pv 0) (fun _ _ => rfl))))), ?_⟩
  have hsm := hb.sm
  obtain ⟨tp, tvs, etp, htp, htrs⟩ := h_pairs
  subst etp
  have h_pairs : rep K H (.ref tp) (Tu.mk ps) := ⟨tp, tvs, rfl, htp, htrs⟩
  have hlen : tvs.length = ps.length := htrs.length
  refine q_when (b := !l.any fun e => decide (e.1 = ps)) (fun H1 e Q q => ⟨_, rfl, _, rfl, d, tp, l, ps, rfl, rfl, DD.mono e, rmono e h_pairs, _, rfl, q H1 (Ex.refl _)⟩) (fun hbt H1 e1 => ?_) (fun hbf H1 e1 => ?_)
  · refine r_asg (K := K) (evr_bl false) (fun v_found H2 e2 hh => ?_)
    have e : v_found = .bl false := hh
    subst e
    have ex := e1.trans e2
    refine r_forET (K := K) (p := tp) (vs := tvs) (as := ps) (ev_var rfl) (fun n σ' H' => ∃ (o3 o4 o5 o6 : Option V) (fv : Bool) (l' : List (List (Int × Int) × Bool)), σ' = [some (.ref tp), some (.ref d), some (.bl fv), o3, o4, o5, o6] ∧ ExE H H' ∧ DN P w K H' d l' ∧ Good l' ∧ (fv = true → sumOf ps ≠ 0) ∧
      (∀ (i : Nat) p t, i < n → ps[i]? = some p → 1 ≤ t → t ≤ mostOf p → sumOf (ps.set i (takenOf p t)) = 0 → fv = true)) ?_ (ex _ _ htp) ?_ hlen ?_ ?_
    · intro H3 e3
      exact ⟨_, _, _, _, false, l, rfl, ExE.of (ex.trans e3), DD.mono (ex.trans e3), GG, fun h => (by cases h), fun i p t hi => absurd hi (Nat.not_lt_zero _)⟩
    · rintro n σ' H' ⟨o3, o4, o5, o6, fv, l', rfl, en, D', G', hf1, hf2⟩
      exact ⟨en.m.2 _ _ htp, nmono en.m htrs⟩
    · rintro nn v_p p σ' H' H3 hx e3 h_p ⟨o3, o4, o5, o6, fv, l', rfl, en, D', G', hf1, hf2⟩
      have hp := hsm p (List.mem_of_getElem? hx)
      have hpw := hb.inW p (List.mem_of_getElem? hx)
      have hm0 := most_nonneg hp.pos
      have hm1 : mostOf p ≤ 30 := by have := most_le hp.pos; have h2 : hi p ≤ 30 := (by unfold hi; have := hpw.2.1; have := hpw.2.2.2; omega); omega
      have en := en.trans (ExE.of e3)
      have D' := D'.mono e3
      refine r_forR21 (K := K) (evr_int 1) (evr_add (evr_call1 (evr_var rfl h_p) hp) (evr_int 1)) (by omega) (fun H4 e4 => ?_)
      refine ⟨fun m σ' H' => ∃ (o5 o6 : Option V) (fv : Bool) (l' : List (List (Int × Int) × Bool)), σ' = [some (.ref tp), some (.ref d), some (.bl fv), some (.int (nn : Int)), some v_p, o5, o6] ∧ ExE H H' ∧ rep K H' v_p p ∧ DN P w K H' d l' ∧ Good l' ∧ (fv = true → sumOf ps ≠ 0) ∧
        (∀ (i : Nat) p t, i < nn → ps[i]? = some p → 1 ≤ t → t ≤ mostOf p → sumOf (ps.set i (takenOf p t)) = 0 → fv = true) ∧ (∀ t : Int, 1 ≤ t → t < 1 + (m : Int) → sumOf (ps.set nn (takenOf p t)) = 0 → fv = true), ?_, ?_, ?_⟩
      · exact ⟨_, _, fv, l', rfl, en.trans (ExE.of e4), rmono e4 h_p, D'.mono e4, G', hf1, hf2, fun t h1 h2 => by omega⟩
      · rintro m σ' H' hm ⟨o5, o6, fv, l', rfl, en, h_p, D', G', hf1, hf2, hf3⟩
        have ht1 : 1 ≤ 1 + (m : Int) := by omega
        have ht2 : 1 + (m : Int) ≤ mostOf p := by omega
        refine r_asgN (K := K) (evn_listU (evr_var (a := Tu.mk ps) rfl (RepN.mon en.m h_pairs))) (fun la us H5 hn e5 hl hs => ?_)
        refine r_setL (K := K) hn e5 hl hs (evr_call2 (evr_var rfl (rmono e5 h_p)) (evr_varI rfl) ⟨hp, ht1, ht2⟩) (ev_var rfl) (evr_varI rfl) (by omega) (by have := (List.getElem?_eq_some_iff.mp hx).1; omega) (fun us' H6 e6 hl6 hs6 => ?_)
        have hs6 : Paired (rep K H6) us' (ps.set nn (takenOf p (1 + (m : Int)))) := hs6
        cases fv with
        | true =>
          refine ⟨_, rfl, true, rfl, ?_⟩
          rw [if_pos rfl]
          exact ⟨_, _, true, l', rfl, en.trans (ExE.of e6), rmono e6 h_p, D'.mono e6, G', hf1, fun _ _ _ _ _ _ _ _ => rfl, fun _ _ _ _ => rfl⟩
        | false =>
          refine ⟨_, rfl, false, rfl, ?_⟩
          rw [if_neg Bool.false_ne_true]
          have hsz2 := size_set (q := takenOf p (1 + (m : Int))) hx (size1_taken hp.pos ht1 ht2)
          refine x_won (K := K) (ps := ps.set nn (takenOf p (1 + (m : Int)))) (evr_var rfl ⟨la, us', rfl, hl6, hs6⟩) rfl (D'.mono e6) G' (hb.set hx ht1 ht2) (by omega) (fun H7 l7 e7 D7 G7 => ⟨_, rfl, ?_⟩)
          refine ⟨_, _, !wonB (ps.set nn (takenOf p (1 + (m : Int)))), l7, rfl, (en.trans (ExE.of e6)).trans e7, RepN.mon e7.m (rmono e6 h_p), D7, G7, fun hw h0 => ?_, fun i q t hi hq h1 h2 h0 => ?_, fun t h1 h2 h0 => ?_⟩
          · exact sum_taken hsm h0 hx ht1 ht2 (by unfold wonB at hw; simpa using hw)
          · exact absurd (hf2 i q t hi hq h1 h2 h0) (by decide)
          · by_cases c : t < 1 + (m : Int)
            · exact absurd (hf3 t h1 c h0) (by decide)
            · have e : t = 1 + (m : Int) := by omega
              rw [e] at h0
              unfold wonB
              rw [h0] <;> rfl
      · rintro σ' H' ⟨o5, o6, fv, l', rfl, en, h_p, D', G', hf1, hf2, hf3⟩
        refine ⟨_, _, _, _, fv, l', rfl, en, D', G', hf1, fun i q t hi hq h1 h2 h0 => ?_⟩
        by_cases c : i < nn
        · exact hf2 i q t c hq h1 h2 h0
        · have e : i = nn := by omega
          subst e
          have e : q = p := Option.some.inj (hq.symm.trans hx)
          subst e
          exact hf3 t h1 (by omega) h0
    · rintro σ' H' ⟨o3, o4, o5, o6, fv, l', rfl, en, D', G', hf1, hf2⟩
      have hfv : fv = wonB ps := by
        unfold wonB
        by_cases c : sumOf ps = 0
        · rw [decide_eq_true c]
          cases fv with
          | true => exact absurd c (hf1 rfl)
          | false => rfl
        · rw [decide_eq_false c]
          obtain ⟨⟨a0, a1⟩, ⟨b0, b1⟩, h0⟩ := told_at hsm (by rw [told_isWon hsm, decide_eq_false c] <;> rfl)
          exact hf2 _ _ _ (by omega) (nthP_ix a0 a1) b0 b1 h0
      subst hfv
      have hlen2 := G'.len
      refine ⟨_, rfl, _, rfl, _, rfl, d, tp, l', ps, wonB ps, rfl, rfl, rfl, D', RepN.mon en.m h_pairs, Nat.lt_of_le_of_lt hlen2 (by decide), fun xs l'' D'' hl'' => ?_⟩
      have G'' : Good l'' := by rw [hl'']; exact G'.put hb
      obtain ⟨φ, hφ⟩ := D'.is
      have eP := ExE.put (ob := NdO P w d xs) hφ
      exact ⟨_, rfl, _, rfl, d, tp, l'', ps, wonB ps, rfl, rfl, D'', RepN.mon (en.trans eP).m h_pairs, G''.get ps, by rw [hl'']; exact putN_key ps _, k _ l'' (en.trans eP) D'' G''⟩
  · exact ⟨_, rfl, _, rfl, d, tp, l, ps, wonB ps, rfl, rfl, DD.mono e1, rmono e1 h_pairs, GG.get ps, (by simpa using hbf), k H1 l (ExE.of e1) (DD.mono e1) GG⟩
theorem cal_l_won {f : Addr} {fd : FuncData} (F : Fun K "_law_won" "_law_won" s_l_won f fd) (T : Txt K mg CA CL CW) (G_l_most : Cal P w K mg base CX0 1 "_law_most" ["_law_pair_here"] (Fn1 K (α := (Int × Int)) (β := Int) Sm mostOf))
    (G_l_behind : Cal P w K mg base CX0 1 "_law_behind" ["_law_pair_here", "_law_times"] (Fn2 K (α := (Int × Int)) (β := Int) (γ := (Int × Int)) (fun p t => Sm p ∧ 1 ≤ t ∧ t ≤ mostOf p) takenOf))
    (G_l_sorted : Cal P w K mg base CX0 1 "_law_sorted" ["_law_pairs"] (spSort K)) (hm : mg "_law_won" = some (.ref f)) (hk : PySem.W.keepIn K (.ref f) = true) (hb : Binds K fd ["_law_pairs", "_law_known"] []) :
    ∀ n : Nat, FnOk P w K mg base CX0 (n + 5) f fd ["_law_pairs", "_law_known"] (spWon P w K n)
  | 0 => ok_l_won0 F
  | n + 1 => ok_l_wonS F T G_l_most G_l_behind G_l_sorted ⟨⟨_, _, cal_l_won F T G_l_most G_l_behind G_l_sorted hm hk hb n, hm, hk, hb⟩⟩
abbrev s_l_lengths : Stmt := top 37
theorem sc_l_lengths : FnScope ["_law_pair_here", "_law_known", "_law_near", "_law_times", "_law_few", "_law_many"] ["_law_pair_here", "_law_known"] (defScope s_l_lengths) := ⟨rfl, rfl, rfl, by decide +kernel, rfl, by decide +kernel, by decide +kernel⟩
theorem ok_l_lengths0 {f : Addr} {fd : FuncData} (F : Fun K "_law_lengths" "_law_lengths" s_l_lengths f fd) : FnOk P w K mg base CX0 5 f fd ["_law_pair_here", "_law_known"] (spLen K 0) := by
  refine F.ok sc_l_lengths (fun vs H Q E h => h.len) (fun cdv A outer s H vs Q E hr h => ?_)
  obtain ⟨v_pair, d, p, l, rfl, h_pair, DD, G, hb, hsz, k⟩ := h
  exact absurd hsz (Nat.not_lt_zero _)
set_option maxHeartbeats 8000000 in
theorem ok_l_lengthsS {n : Nat} {f : Addr} {fd : FuncData} (F : Fun K "_law_lengths" "_law_lengths" s_l_lengths f fd) (T : Txt K mg CA CL CW) (G_l_most : Cal P w K mg base CX0 1 "_law_most" ["_law_pair_here"] (Fn1 K (α := (Int × Int)) (β := Int) Sm mostOf))
    (G_l_behind : Cal P w K mg base CX0 1 "_law_behind" ["_law_pair_here", "_law_times"] (Fn2 K (α := (Int × Int)) (β := Int) (γ := (Int × Int)) (fun p t => Sm p ∧ 1 ≤ t ∧ t ≤ mostOf p) takenOf))
    (G : Cal P w K mg base CX0 (n + 5) "_law_lengths" ["_law_pair_here", "_law_known"] (spLen K n)) :
    FnOk P w K mg base CX0 (n + 6) f fd ["_law_pair_here", "_law_known"] (spLen K (n + 1)) := by
  refine F.ok sc_l_lengths (fun vs H Q E h => h.len) (fun cdv A outer s H vs Q E hr h => ?_)
  obtain ⟨v_pair, d, p, l, rfl, h_pair, DD, GG, hb, hsz, k⟩ := h
  have hu := hr.units
  have hu1 := hu_of hr
  refine ⟨_, (pss_cons (ps_if (pt_cmp (pc_dnotin hu1 (pv 0) (pv 1)) (by with_unfolding_all rfl))
    (pss_cons (ps_setLc (i := 2) (own := [("_law_times", 3)]) (g := gName 3) (tt := tYes) rfl sc_l_lengths.nd rfl rfl (sw_true rfl rfl rfl (by decide +kernel)) (pi_range2 rfl T.z_range (pa_cons pe_int (pa_cons (pe_op op_add (pe_cal G_l_most (hr.mono (by omega)) (by rfl) (pa_cons (pv 0) pa_nil)) pe_int) pa_nil))) (blkOk_by (own := [("_law_times", 3)]) (N := ["_law_pair_here", "_law_known", "_law_near", "_law_times", "_law_few", "_law_many"]) (sc := defScope s_l_lengths) (by decide +kernel)) (fun _ _ _ _ _ => pg_name (i := 3) sc_l_lengths.nd rfl (Or.inl rfl)) (fun _ _ _ _ _ => pts_nil)
      (fun _ _ _ _ _ => (pe_cal G (hr.mono (by omega)) (by rfl) (pa_cons (pe_cal G_l_behind (hr.mono (by omega)) (by rfl) (pa_cons (pv 0) (pa_cons (pv 3) pa_nil))) (pa_cons (pv 1) pa_nil)))))
    (pss_cons (ps_dput hu1 (pv 1) (pv 0) (pe_tup (pa_cons pe_int (pa_cons pe_int pa_nil))) rfl)
    (pss_one (ps_if (pt_cmpR (op_neD hu) (pv 2) (pe_lst pa_nil) (nomark _))
      (pss_one (ps_dput hu1 (pv 1) (pv 0) (pe_tup (pa_cons (pe_op op_add pe_int (pe_callB (cr_min rfl) (by rfl) T.z_min (by decide +kernel) (pa_cons (pe_lc (own := [("_law_few", 4), ("_law_many", 5)]) (g := gTup K 2 (gCons (gName 4) (gCons (gName 5) gNil))) (tt := tYes) rfl sc_l_lengths.nd (pi_list (pv 2)) (blkOk_by (own := [("_law_few", 4), ("_law_many", 5)]) (N := ["_law_pair_here", "_law_known", "_law_near", "_law_times", "_law_few", "_law_many"]) (sc := defScope s_l_lengths) (by decide +kernel)) (fun _ _ _ _ _ => pg_tup rfl (pgs_cons (pg_name (i := 4) sc_l_lengths.nd rfl (Or.inl rfl)) (pgs_cons (pg_name (i := 5) sc_l_lengths.nd rfl (Or.inl rfl)) pgs_nil))) (fun _ _ _ _ _ => pts_nil) (fun _ _ _ _ _ => (pv 4))) pa_nil)))
        (pa_cons (pe_op op_add pe_int (pe_callB (cr_max rfl) (by rfl) T.z_max (by decide +kernel) (pa_cons (pe_lc (own := [("_law_few", 4), ("_law_many", 5)]) (g := gTup K 2 (gCons (gName 4) (gCons (gName 5) gNil))) (tt := tYes) rfl sc_l_lengths.nd (pi_list (pv 2)) (blkOk_by (own := [("_law_few", 4), ("_law_many", 5)]) (N := ["_law_pair_here", "_law_known", "_law_near", "_law_times", "_law_few", "_law_many"]) (sc := defScope s_l_lengths) (by decide +kernel)) (fun _ _ _ _ _ => pg_tup rfl (pgs_cons (pg_name (i := 4) sc_l_lengths.nd rfl (Or.inl rfl)) (pgs_cons (pg_name (i := 5) sc_l_lengths.nd rfl (Or.inl rfl)) pgs_nil))) (fun _ _ _ _ _ => pts_nil) (fun _ _ _ _ _ => (pv 5))) pa_nil))) pa_nil))) rfl)) pss_nil)))) pss_nil)
    (pss_one (ps_ret (pe_dget hu1 (pv 1) (pv 0) (fun _ _ => rfl))))), ?_⟩
  have hsm := hb.sm (by decide)
  have hm0 := most_nonneg hsm.pos
  have hm1 : mostOf p ≤ 30 := by have := most_le hsm.pos; have h2 : hi p ≤ 30 := (by unfold hi; have := hb.2.1; have := hb.2.2.2; omega); omega
  obtain ⟨tp, xa, xb, etp, htp, hxa, hxb⟩ := h_pair
  subst etp
  have hxa : xa = V.int p.1 := hxa
  have hxb : xb = V.int p.2 := hxb
  subst hxa hxb
  have h_pair : rep K H (.ref tp) p := ⟨tp, _, _, rfl, htp, rfl, rfl⟩
  have hkey : H tp = some (.tup ((k2 p).map kV)) := htp
  obtain ⟨kvs0, hk0, hkk, hka⟩ := DD.ex
  have hsome : (valV kvs0 (k2 p)).isSome = decide (p ∈ l) := by rw [← valV_any, any_keys hkk]
  refine q_when (b := !decide (p ∈ l)) (fun H1 e Q q => ⟨_, rfl, _, rfl, d, valV kvs0 (k2 p), rfl, DGet.t (e _ _ hk0) (e _ _ hkey), _, rfl, by rw [hsome]; exact q H1 (Ex.refl _)⟩) (fun hbt H1 e1 => ?_) (fun hbf H1 e1 => ?_)
  · refine lcR_inv (K := K) (Q := fun x H1 => gName 2 x _ H1 _) (evr_int 1) (evr_add (evr_call1 (evr_var rfl (rmono e1 h_pair)) hsm) (evr_int 1)) (by omega) (fun _ => rfl) (fun m Dl H' => ∃ (acc : List V) (l' : List (Int × Int)), H Dl = none ∧ ExD H H' ∧ DL K H' d l' ∧ GoodL l' ∧ H' Dl = some (.lst acc) ∧ acc.length = m ∧ Paired (rep K H') acc ((List.range m).map fun j : Nat => (shortOf (takenOf p (1 + (j : Int))), longOf (takenOf p (1 + (j : Int)))))) ?_ ?_ ?_
    · intro H2 Dl e2 hD
      have hn := fresh_back (e1.trans e2) hD
      exact ⟨[], l, hn, (ExD.of (e1.trans e2)).mut hn, (DD.mono (e1.trans e2)).mono (Ex.new hD), GG, upd_same, rfl, .nil⟩
    · rintro m Dl H' hlt ⟨acc, l', hn, en, D', G', hacc, hlen, hpr⟩
      have ht1 : 1 ≤ 1 + (m : Int) := by omega
      have ht2 : 1 + (m : Int) ≤ mostOf p := by omega
      refine (evr_call2 (K := K) (evr_var rfl (RepN.mon en.m h_pair)) (evr_varI rfl) ⟨hsm, ht1, ht2⟩) H' (Ex.refl _) _ fun v H3 e3 r => ⟨_, rfl, v, d, takenOf p (1 + (m : Int)), l', rfl, r, D'.mono e3, G', hb.taken ht1 ht2, by have := size1_taken hsm.pos ht1 ht2; omega, fun u H4 l4 e4 D4 G4 r4 => ?_⟩
      have e34 : ExD H' H4 := (ExD.of e3).trans e4
      have hD4 := e34.m.1 _ _ hacc
      have hnt := not_tup_lst hD4
      obtain ⟨kv4, hk4⟩ := D4.is
      have hne : d ≠ Dl := fun z => by rw [z] at hk4; rw [hk4] at hD4; cases hD4
      refine ⟨acc, hD4, sz_lt (by omega), acc ++ [u], l4, hn, (en.trans e34).mut hn, ?_, G4, upd_same, by rw [List.length_append, hlen] <;> rfl, ?_⟩
      · obtain ⟨kv, q1, q2, q3⟩ := D4.ex
        exact ⟨kv, by rw [upd_ne hne]; exact q1, q2, fun x hx => by obtain ⟨y, q4, q5⟩ := q3 x hx; exact ⟨y, q4, RepT.stab hnt q5⟩⟩
      · rw [List.range_succ, List.map_append]
        exact paired_append (pstab hnt (nmono e34.m hpr)) (.cons (RepT.stab hnt r4) .nil)
    · rintro Dl H' ⟨acc, l', hn, en, D', G', hacc, hlen, hpr⟩
      have hcount : (mostOf p + 1 - 1).toNat = (mostOf p).toNat := by omega
      rw [hcount] at hpr hlen
      generalize hnear : ((List.range (mostOf p).toNat).map fun j : Nat => (shortOf (takenOf p (1 + (j : Int))), longOf (takenOf p (1 + (j : Int))))) = near at hpr
      have h_near : rep K H' (.ref Dl) near := ⟨Dl, acc, rfl, hacc, hpr⟩
      have hkey' : H' tp = some (.tup ((k2 p).map kV)) := en.m.2 _ _ hkey
      show sDPut (tVar 1) (tVar 0) (tTup (tCons (tC (V.int 0)) (tCons (tC (V.int 0)) tNil))) _ _ _
      refine (evr_tup (K := K) (evr_int 0) (evr_int 0)) H' (Ex.refl _) _ fun v0 H2 e2 r0 => ?_
      obtain ⟨kvs, hk, hklen, dx, hval⟩ := (D'.mono e2).put (p := p) v0
      have hl9 := G'.len
      have GI := G'.ins hb
      have hpin : p ∈ insP l' p := insP_mem.mpr (.inr rfl)
      refine ⟨_, rfl, _, rfl, d, _, rfl, DPut.t (k := k2 p) hk (e2 _ _ hkey') (Nat.lt_of_le_of_lt (show kvs.length ≤ 900 by omega) (by decide)), ?_⟩
      have e3 : ExD H2 (upd H2 d (.dT (putK kvs (k2 p) v0))) := ExD.put hk
      have en3 : ExD H (upd H2 d (.dT (putK kvs (k2 p) v0))) := (en.trans (ExD.of e2)).trans e3
      have h_near := RepN.mon e3.m (rmono e2 h_near)
      have r0 := RepN.mon e3.m r0
      generalize hH3 : upd H2 d (.dT (putK kvs (k2 p) v0)) = H3 at *
      have hlen1 : (putK kvs (k2 p) v0).length ≤ 901 := by have := length_putK kvs (k2 p) v0; omega
      refine s_when (b := !decide (near = [])) (evt_test (evr_neD (K := K) (evr_var rfl h_near) (evr_list els_nil (Nat.zero_le _)))) (fun hne H4 e4 => ?_) (fun hne H4 e4 => ?_)
      · have hm1' : 1 ≤ mostOf p := by
          rcases Int.lt_or_le (mostOf p) 1 with c | c
          · have hz : (mostOf p).toNat = 0 := by omega
            rw [hz] at hnear
            rw [← hnear] at hne
            cases hne
          · exact c
        have hmem : ∀ x ∈ near, ∃ t : Int, 1 ≤ t ∧ t ≤ mostOf p ∧ x = (shortOf (takenOf p t), longOf (takenOf p t)) := fun x hx => by
          rw [← hnear] at hx
          obtain ⟨j, hj, rfl⟩ := List.mem_map.mp hx
          have := List.mem_range.mp hj
          exact ⟨1 + (j : Int), by omega, by omega, rfl⟩
        have hin : ∀ t : Int, 1 ≤ t → t ≤ mostOf p → (shortOf (takenOf p t), longOf (takenOf p t)) ∈ near := fun t h1 h2 => by
          rw [← hnear]
          exact List.mem_map.mpr ⟨(t - 1).toNat, List.mem_range.mpr (by omega), by rw [show 1 + (((t - 1).toNat : Nat) : Int) = t by omega]⟩
        have hz9 : near.length ≤ 100000 := by rw [← hnear, List.length_map, List.length_range]; omega
        have h_near := rmono e4 h_near
        have evv := evr_tup (K := K) (evr_add (σ := [some (.ref tp), some (.ref d), some (.ref Dl), none, none, none]) (H := H4) (evr_int 1) (evr_minL (m := shortOf p - 1) (evr_n (evn_lcQ (i := 4) (j := 5) (te := tVar 4) (vs := [4, 5]) (f := fun x => x.1) (evr_var (i := 2) rfl h_near) hz9 (fun _ _ => rfl) (fun x H5 e5 => evr_varI rfl)))
            (List.mem_map.mpr ⟨_, hin (mostOf p) hm1' (Int.le_refl _), (len_taken hsm.pos hm1' (Int.le_refl _)).2.2 rfl⟩) (fun y hy => by obtain ⟨x, hx, rfl⟩ := List.mem_map.mp hy; obtain ⟨t, t1, t2, rfl⟩ := hmem x hx; exact (len_taken hsm.pos t1 t2).2.1)))
          (evr_add (evr_int 1) (evr_maxL (m := longOf p - 1) (evr_n (evn_lcQ (i := 4) (j := 5) (te := tVar 5) (vs := [4, 5]) (f := fun x => x.2) (evr_var (i := 2) rfl h_near) hz9 (fun _ _ => rfl) (fun x H5 e5 => evr_varI rfl)))
            (List.mem_map.mpr ⟨_, hin 1 (by omega) hm1', (len_taken hsm.pos (by omega) hm1').1⟩) (fun y hy => by obtain ⟨x, hx, rfl⟩ := List.mem_map.mp hy; obtain ⟨t, t1, t2, rfl⟩ := hmem x hx; have := (len_taken hsm.pos t1 t2).1; show longOf (takenOf p t) ≤ _; omega)))
        refine evv H4 (Ex.refl _) _ fun v1 H5 e5 r1 => ?_
        have r1 : rep K H5 v1 (shortOf p, longOf p) := rep_eq r1 (Prod.ext (by show 1 + (shortOf p - 1) = shortOf p; omega) (by show 1 + (longOf p - 1) = longOf p; omega))
        have dx5 := dx.mono (e4.trans e5)
        refine ⟨_, rfl, _, rfl, d, _, rfl, DPut.t (k := k2 p) dx5.at_ ((e4.trans e5) _ _ (en3.m.2 _ _ hkey)) (Nat.lt_of_le_of_lt hlen1 (by decide)), ?_⟩
        have e6 := ExD.put (ob := .dT (putK (putK kvs (k2 p) v0) (k2 p) v1)) dx5.at_
        have enF := (en3.trans (ExD.of (e4.trans e5))).trans e6
        have g : DGet (upd H5 d (.dT (putK (putK kvs (k2 p) v0) (k2 p) v1))) d (.ref tp) (valV (putK (putK kvs (k2 p) v0) (k2 p) v1) (k2 p)) := DGet.t upd_same (enF.m.2 _ _ hkey)
        rw [valV_put, if_pos rfl] at g
        exact ⟨_, rfl, _, rfl, d, v1, rfl, g, k v1 _ _ enF (dx5.put hpin r1) GI (RepN.mon e6.m r1)⟩
      · have hm0' : mostOf p < 1 := by
          rcases Int.lt_or_le (mostOf p) 1 with c | c
          · exact c
          · exfalso
            have hz : near = [] := by simpa using hne
            have := congrArg List.length hnear
            rw [hz, List.length_map, List.length_range] at this
            simp at this
            omega
        obtain ⟨z1, z2⟩ := len_none hsm.pos hm0'
        have r0 : rep K H3 v0 (shortOf p, longOf p) := rep_eq r0 (by rw [z1, z2])
        have DF := (dx.dl hval r0).mono e4
        have enF := en3.trans (ExD.of e4)
        have g : DGet H4 d (.ref tp) (valV (putK kvs (k2 p) v0) (k2 p)) := DGet.t (dx.mono e4).at_ (enF.m.2 _ _ hkey)
        rw [hval] at g
        exact ⟨_, rfl, _, rfl, d, v0, rfl, g, k v0 H4 _ enF DF GI (rmono e4 r0)⟩
  · have hin : p ∈ l := by simpa using hbf
    obtain ⟨v, hv, r⟩ := hka p hin
    exact ⟨_, rfl, _, rfl, d, v, rfl, by rw [← hv]; exact DGet.t (e1 _ _ hk0) (e1 _ _ hkey), k v H1 l (ExD.of e1) (DD.mono e1) GG (rmono e1 r)⟩
theorem cal_l_lengths {f : Addr} {fd : FuncData} (F : Fun K "_law_lengths" "_law_lengths" s_l_lengths f fd) (T : Txt K mg CA CL CW) (G_l_most : Cal P w K mg base CX0 1 "_law_most" ["_law_pair_here"] (Fn1 K (α := (Int × Int)) (β := Int) Sm mostOf))
    (G_l_behind : Cal P w K mg base CX0 1 "_law_behind" ["_law_pair_here", "_law_times"] (Fn2 K (α := (Int × Int)) (β := Int) (γ := (Int × Int)) (fun p t => Sm p ∧ 1 ≤ t ∧ t ≤ mostOf p) takenOf))
    (hm : mg "_law_lengths" = some (.ref f)) (hk : PySem.W.keepIn K (.ref f) = true) (hb : Binds K fd ["_law_pair_here", "_law_known"] []) :
    ∀ n : Nat, FnOk P w K mg base CX0 (n + 5) f fd ["_law_pair_here", "_law_known"] (spLen K n)
  | 0 => ok_l_lengths0 F
  | n + 1 => ok_l_lengthsS F T G_l_most G_l_behind ⟨⟨_, _, cal_l_lengths F T G_l_most G_l_behind hm hk hb n, hm, hk, hb⟩⟩
abbrev s_l_right : Stmt := top 38
theorem sc_l_right : FnScope ["_law_pairs", "_law_known", "_law_due", "_law_found", "_law_after"] ["_law_pairs", "_law_known"] (defScope s_l_right) := ⟨rfl, rfl, rfl, by decide +kernel, rfl, by decide +kernel, by decide +kernel⟩
set_option maxHeartbeats 4000000 in
theorem ok_l_right {f : Addr} {fd : FuncData} (F : Fun K "_law_right" "_law_right" s_l_right f fd) (T : Txt K mg CA CL CW) (G_l_won : Cal P w K mg base CX0 35 "_law_won" ["_law_pairs", "_law_known"] (spWon P w K 30)) (G_told : Cal P w K mg base CX0 4 "told" ["pairs"] (Fn1 K (α := (List (Int × Int))) (β := Ans) (fun ps => AllSm ps ∧ ps.length ≤ 100) toldOf)) (G_l_sorted : Cal P w K mg base CX0 1 "_law_sorted" ["_law_pairs"] (spSort K)) (G_l_behind : Cal P w K mg base CX0 1 "_law_behind" ["_law_pair_here", "_law_times"] (Fn2 K (α := (Int × Int)) (β := Int) (γ := (Int × Int)) (fun p t => Sm p ∧ 1 ≤ t ∧ t ≤ mostOf p) takenOf)) (G_l_most : Cal P w K mg base CX0 1 "_law_most" ["_law_pair_here"] (Fn1 K (α := (Int × Int)) (β := Int) Sm mostOf)) : FnOk P w K mg base CX0 36 f fd ["_law_pairs", "_law_known"] (spRight P w K) := by
  refine F.ok sc_l_right (fun vs H Q E h => h.len) (fun cdv A outer s H vs Q E hr h => ?_)
  obtain ⟨v_pairs, v_known, p_pairs, p_known, rfl, h_pairs, h_known, pre, k⟩ := h
  have hu := hr.units
  have ex := Ex.refl H
  have hu1 := hu_of hr
  refine ⟨_, (pss_cons (ps_set (i := 2) sc_l_right.nd rfl (Or.inl rfl) (pe_cal G_l_won (hr.mono (by decide)) (by rfl) (pa_cons (pe_cal G_l_sorted (hr.mono (by decide)) (by rfl) (pa_cons (pv 0) pa_nil)) (pa_cons (pv 1) pa_nil)))) (pss_cons (ps_set (i := 3) sc_l_right.nd rfl (Or.inl rfl) (pe_cal G_told (hr.mono (by decide)) (by rfl) (pa_cons (pe_callTy call_list_of (by rfl) T.z_list (by decide +kernel) (pa_cons (pv 0) pa_nil)) pa_nil))) (pss_cons (ps_if (PW.pt (pw_or (pt_cmpR op_ne (pe_callB call_isi (by rfl) T.z_isinstance (by decide +kernel) (pa_cons (pv 3) (pa_cons (pe_glob (v := .ref CW) (by rfl) T.ans.mgW rfl) pa_nil))) (pv 2) (nomark _)) (pw_or1 (pt_cmpR op_eq (pe_callB call_isi (by rfl) T.z_isinstance (by decide +kernel) (pa_cons (pv 3) (pa_cons (pe_glob (v := .ref CL) (by rfl) T.ans.mgL rfl) pa_nil))) (pv 2) (nomark _))))) (pss_one (ps_ret pe_bl)) pss_nil) (pss_cons (ps_if (pt_val (pv 2)) (pss_cons (ps_set (i := 4) sc_l_right.nd rfl (Or.inl rfl) (pe_callTy call_list_of (by rfl) T.z_list (by decide +kernel) (pa_cons (pv 0) pa_nil))) (pss_cons (ps_if (PW.pt (pw_or (pt_not (pt_chain op_le op_lt pe_int (pe_fld (pv 3) rfl) (pe_callB call_len_seq (by rfl) T.z_len (by decide +kernel) (pa_cons (pv 0) pa_nil)))) (pw_or1 (pt_not (pt_chain op_le op_le pe_int (pe_fld (pv 3) rfl) (pe_cal G_l_most (hr.mono (by decide)) (by rfl) (pa_cons (pe_ix ix_list (pv 0) (pe_fld (pv 3) rfl) (fun _ _ => rfl)) pa_nil))))))) (pss_one (ps_ret pe_bl)) pss_nil) (pss_cons (ps_asg (pe_cal G_l_behind (hr.mono (by decide)) (by rfl) (pa_cons (pe_ix ix_list (pv 0) (pe_fld (pv 3) rfl) (fun _ _ => rfl)) (pa_cons (pe_fld (pv 3) rfl) pa_nil))) (pg_sub (pv 4) (pe_fld (pv 3) rfl) set_list)) (pss_one (ps_ret (pe_not (pe_cal G_l_won (hr.mono (by decide)) (by rfl) (pa_cons (pe_cal G_l_sorted (hr.mono (by decide)) (by rfl) (pa_cons (pv 4) pa_nil)) (pa_cons (pv 1) pa_nil))))))))) pss_nil) (pss_one (ps_ret pe_bl)))))), ?_⟩
  refine r_wonK (K := K) (evr_var rfl h_pairs) rfl h_known pre (fun H1 p_known e1 h_known => ?_)
  have ex : ExX H H1 := e1
  have h_pairs := RepN.mon e1.m h_pairs
  have h_due : rep K H1 (V.bl (wonB p_pairs)) (wonB p_pairs) := rfl
  refine r_asg (K := K) (evr_call1 (evr_n (evn_listS (evr_var rfl h_pairs))) ⟨pre.sm, by have := pre.len; omega⟩) (fun v_found H1 e1 hh => ?_)
  have ex := ex.trans e1
  have h_pairs := rmono e1 h_pairs
  have h_known := rmono e1 h_known
  have h_due := rmono e1 h_due
  have h_found := hh
  refine q_when (et_or (evt_test (evr_neB (evr_isiW T.ans (evr_var rfl h_found)) (evr_var rfl h_due))) (fun hbo => (evt_test (evr_eqB (evr_isiL T.ans (evr_var rfl h_found)) (evr_var rfl h_due))))) (fun hb1 H1 e1 => ?_) (fun hb1 H1 e1 => ?_)
  · exact absurd hb1 (by rw [told_isWon pre.sm, told_isLost pre.sm]; unfold wonB; cases decide (sumOf p_pairs = 0) <;> decide)
  · have ex := ex.trans e1
    have h_pairs := rmono e1 h_pairs
    have h_known := rmono e1 h_known
    have h_due := rmono e1 h_due
    have h_found := rmono e1 h_found
    refine q_when (evt_B (evr_var rfl h_due)) (fun hb2 H1 e1 => ?_) (fun hb2 H1 e1 => ?_)
    · have ex := ex.trans e1
      have h_pairs := rmono e1 h_pairs
      have h_known := rmono e1 h_known
      have h_due := rmono e1 h_due
      have h_found := rmono e1 h_found
      have hwon : (toldOf p_pairs).isWon = true := by rw [told_isWon pre.sm]; exact hb2
      have hat := told_at pre.sm hwon
      have Bex_after := ex
      have Ah_pairs_after := h_pairs
      have Ah_known_after := h_known
      have Ah_due_after := h_due
      have Ah_found_after := h_found
      obtain ⟨HA_after, hHA_⟩ : ∃ HA : Hp, HA = H1 := ⟨_, rfl⟩
      subst hHA_
      refine r_asgN (K := K) (evn_listS (evr_var rfl h_pairs)) (fun l_after us_after H1 hn_after e1 hl_after hs_after => ?_)
      have exA_after := e1
      have ex := ex.trans e1
      have h_pairs := rmono e1 h_pairs
      have h_known := rmono e1 h_known
      have h_due := rmono e1 h_due
      have h_found := rmono e1 h_found
      refine q_when (et_or (et_not (evt_test (evr_chain (g := (fun i j => decide (i ≤ j))) (g' := (fun i j => decide (i < j))) (evr_int 0) (evr_at T.ans (evr_var rfl h_found) hwon) (fun hch => (evr_lenL (evr_var rfl h_pairs)))))) (fun hbo => (et_not (evt_test (evr_chain (g := (fun i j => decide (i ≤ j))) (g' := (fun i j => decide (i ≤ j))) (evr_int 1) (evr_times T.ans (evr_var rfl h_found) hwon) (fun hch => (evr_call1 (evr_ixL (evr_var rfl h_pairs) (evr_at T.ans (evr_var rfl h_found) hwon) hat.1.1 (nthP_ix hat.1.1 hat.1.2)) (pre.sm _ (nthP_mem hat.1.1 hat.1.2))))))))) (fun hb3 H1 e1 => ?_) (fun hb3 H1 e1 => ?_)
      · exact absurd hb3 (by have h1 := hat.1.1; have h2 := hat.1.2; have h3 := hat.2.1.1; have h4 := hat.2.1.2; simp; omega)
      · have ex := ex.trans e1
        have h_pairs := rmono e1 h_pairs
        have h_known := rmono e1 h_known
        have h_due := rmono e1 h_due
        have h_found := rmono e1 h_found
        have hl_after := e1 _ _ hl_after
        have hs_after := pmono e1 hs_after
        have exA_after := exA_after.trans e1
        refine r_setL (K := K) hn_after exA_after hl_after hs_after (evr_call2 (evr_ixL (evr_var rfl h_pairs) (evr_at T.ans (evr_var rfl h_found) hwon) hat.1.1 (nthP_ix hat.1.1 hat.1.2)) (evr_times T.ans (evr_var rfl h_found) hwon) ⟨pre.sm _ (nthP_mem hat.1.1 hat.1.2), hat.2.1⟩) (ev_var rfl) (evr_at T.ans (evr_var rfl h_found) hwon) hat.1.1 hat.1.2 (fun us_after H1 exA_after hl_after hs_after => ?_)
        have ex := Bex_after.trans exA_after
        have h_pairs := rmono exA_after Ah_pairs_after
        have h_known := rmono exA_after Ah_known_after
        have h_due : rep K H1 (V.bl (wonB p_pairs)) ((wonB p_pairs) : Bool) := h_due
        have h_found := rmono exA_after Ah_found_after
        refine r_retNotWon (K := K) (evr_var (a := ((p_pairs).set (((toldOf p_pairs)).at_ : Int).toNat (takenOf (nthP p_pairs (toldOf p_pairs).at_) ((toldOf p_pairs)).times))) rfl ⟨l_after, _, rfl, hl_after, hs_after⟩) rfl h_known (pre.set (nthP_ix hat.1.1 hat.1.2) hat.2.1.1 hat.2.1.2) (fun H1 b e1 h1 => ?_)
        have hz : wonB _ = false := (by unfold wonB; rw [hat.2.2] <;> rfl : wonB (p_pairs.set (toldOf p_pairs).at_.toNat (takenOf (nthP p_pairs (toldOf p_pairs).at_) (toldOf p_pairs).times)) = false)
        rw [hz]
        exact k H1 b (ExE.trans ex e1) h1
    · have ex := ex.trans e1
      have h_pairs := rmono e1 h_pairs
      have h_known := rmono e1 h_known
      have h_due := rmono e1 h_due
      have h_found := rmono e1 h_found
      refine r_ret (K := K) (evr_bl true) (fun v_ret H1 e1 hh => ?_)
      have e : v_ret = V.bl true := hh
      subst e
      exact k _ _ (ex.trans e1) (rmono e1 h_known)
abbrev s_row_of : Stmt := top 15
theorem sc_row_of : FnScope ["pair", "high", "low", "found"] ["pair"] (defScope s_row_of) := ⟨rfl, rfl, rfl, by decide +kernel, rfl, by decide +kernel, by decide +kernel⟩
set_option maxHeartbeats 4000000 in
theorem ok_row_of {f : Addr} {fd : FuncData} (F : Fun K "row_of" "row_of" s_row_of f fd) (T : Txt K mg CA CL CW) : FnOk P w K mg base CX0 1 f fd ["pair"] (Fn1N K (α := Int × Int) (β := Int) Sq rowOf) := by
  refine F.ok sc_row_of (fun vs H Q E h => h.len) (fun cdv A outer s H vs Q E hr h => ?_)
  obtain ⟨v_pair, p_pair, rfl, h_pair, pre, k⟩ := h
  have hu := hr.units
  have ex := Ex.refl H
  have hu1 := hu_of hr
  refine ⟨_, (pss_cons (ps_par (i := 1) (j := 2) rfl sc_row_of.nd rfl rfl (by decide) rfl rfl (pa_cons (pe_callB (call_maxP rfl) (by rfl) T.z_max (by decide +kernel) (pa_cons (pv 0) pa_nil)) (pa_cons (pe_callB (call_minP rfl) (by rfl) T.z_min (by decide +kernel) (pa_cons (pv 0) pa_nil)) pa_nil)) rfl) (pss_cons (ps_set (i := 3) sc_row_of.nd rfl (Or.inl rfl) (pe_lst pa_nil)) (pss_cons (ps_while PassesOwn.never (pt_cmpR op_gt (pv 2) pe_int (nomark _)) (pss_cons (ps_expr (pe_bm PySem.F.plainAttrs_list PySem.F.slot_list_append PySem.F.type_list_append mt_append (pv 3) (pa_cons (pe_op op_fdivX (pv 1) (pv 2)) pa_nil))) (pss_one (ps_par (i := 1) (j := 2) rfl sc_row_of.nd rfl rfl (by decide) rfl rfl (pa_cons (pv 2) (pa_cons (pe_op op_mod (pv 1) (pv 2)) pa_nil)) rfl)))) (pss_one (ps_ret (pv 3)))))), ?_⟩
  refine r_par (K := K) (evr_maxP (evr_var rfl h_pair)) (evr_minP (evr_var rfl h_pair)) (fun v_high v_low HA eA hh hh2 => ?_)
  have h_pair := rmono eA h_pair
  have e : v_high = V.int (max p_pair.1 p_pair.2) := hh
  subst e
  have e : v_low = V.int (min p_pair.1 p_pair.2) := hh2
  subst e
  refine r_asgN (K := K) (evn_list (α := Int) els_nil (Nat.zero_le _)) (fun l us HB hn eB hl hs => ?_)
  refine q_while (fun (mm : Nat) (σ' : L2.St) (H' : Hp) => ∃ (h l' : Int) (r dn : List Int) (us : List V), σ' = [some v_pair, some (.int h), some (.int l'), some (.ref l)] ∧ Ex HA H' ∧ H' l = some (.lst us) ∧ Paired (rep K H') us dn ∧ Eu h l' r (comOf p_pair) ∧ dn ++ r = rowOf p_pair ∧ Bt 5000 h ∧ Bt 5000 l' ∧ mm = r.length) _ ⟨_, _, rowOf p_pair, [], _, rfl, eB, hl, hs, row_eu p_pair, rfl, pre.hi, pre.lo, rfl⟩ ?_
  rintro mm σ' H' ⟨h, l', r, dn, us, rfl, exn, hl, hs, eu, hr, bh, bl, rfl⟩
  refine ⟨_, evt_test (K := K) (evr_gt (evr_varI rfl) (evr_int 0)), fun hb H2 e2 => ?_, fun hb H2 e2 => ?_⟩
  · have hl0 : 0 < l' := of_decide_eq_true hb
    obtain ⟨r', hr', eu'⟩ := eu.pos hl0
    subst hr'
    have hm0 := Int.emod_nonneg h (show l' ≠ 0 by omega)
    have hm1 := Int.emod_lt_of_pos h hl0
    refine ⟨fun σ2 H2 => ∃ m', m' < (h / l' :: r').length ∧ (fun (mm : Nat) (σ' : L2.St) (H' : Hp) => ∃ (h l' : Int) (r dn : List Int) (us : List V), σ' = [some v_pair, some (.int h), some (.int l'), some (.ref l)] ∧ Ex HA H' ∧ H' l = some (.lst us) ∧ Paired (rep K H') us dn ∧ Eu h l' r (comOf p_pair) ∧ dn ++ r = rowOf p_pair ∧ Bt 5000 h ∧ Bt 5000 l' ∧ mm = r.length) m' σ2 H2, fun _ _ q => q, ?_⟩
    have hdl : dn.length < 100000 := by have := congrArg List.length hr; rw [List.length_append] at this; have := row_len pre.pos pre.lo; omega
    refine r_app (K := K) hn (exn.trans e2) (e2 _ _ hl) (pmono e2 hs) (ev_var rfl) (evr_div (evr_varI rfl) (evr_varI rfl) (bl.divOk hl0 (by decide) (by decide))) hdl (fun us' H3 exn hl hs => ?_)
    refine r_par1 (K := K) (evr_varI rfl) (evr_mod (evr_varI rfl) (evr_varI rfl) hl0) (fun v w H4 e4 hv hw => ?_)
    have e : v = V.int l' := hv
    subst e
    have e : w = V.int (h % l') := hw
    subst e
    exact ⟨r'.length, by rw [List.length_cons]; omega, l', h % l', r', dn ++ [h / l'], us', rfl, exn.trans e4, e4 _ _ hl, pmono e4 hs, eu', by rw [List.append_assoc]; exact hr, bl, bl.le hm0 (by omega), rfl⟩
  · have hx := eu.non (of_decide_eq_false hb)
    have hr0 := hx.1
    subst hr0
    have hg := hx.2.symm
    subst hg
    rw [List.append_nil] at hr
    have hl := e2 _ _ hl
    have hs := pmono e2 hs
    rw [hr] at hs
    have exn := exn.trans e2
    exact ⟨_, rfl, k l us H2 (fresh_back eA hn) (eA.trans exn) hl hs⟩
abbrev s_shortest : Stmt := top 16
theorem sc_shortest : FnScope ["pair", "row"] ["pair"] (defScope s_shortest) := ⟨rfl, rfl, rfl, by decide +kernel, rfl, by decide +kernel, by decide +kernel⟩
set_option maxHeartbeats 4000000 in
theorem ok_shortest {f : Addr} {fd : FuncData} (F : Fun K "shortest" "shortest" s_shortest f fd) (T : Txt K mg CA CL CW) (G_asked_pair : Cal P w K mg base CX0 3 "asked_pair" ["pair"] (Fn1 K (α := (Int × Int)) (β := Unit) Pos (fun _ => ()))) (G_row_of : Cal P w K mg base CX0 1 "row_of" ["pair"] (Fn1N K (α := Int × Int) (β := Int) Sq rowOf)) : FnOk P w K mg base CX0 4 f fd ["pair"] (Fn1 K (α := (Int × Int)) (β := Int) Sq shortOf) := by
  refine F.ok sc_shortest (fun vs H Q E h => h.len) (fun cdv A outer s H vs Q E hr h => ?_)
  obtain ⟨v_pair, p_pair, rfl, h_pair, pre, k⟩ := h
  have hu := hr.units
  have ex := Ex.refl H
  have hu1 := hu_of hr
  refine ⟨_, (pss_cons (ps_expr (pe_cal G_asked_pair (hr.mono (by decide)) (by rfl) (pa_cons (pv 0) pa_nil))) (pss_cons (ps_set (i := 1) sc_shortest.nd rfl (Or.inl rfl) (pe_cal G_row_of (hr.mono (by decide)) (by rfl) (pa_cons (pv 0) pa_nil))) (pss_one (ps_ret (pe_op op_add (pe_op op_sub (pe_callB call_len_seq (by rfl) T.z_len (by decide +kernel) (pa_cons (pv 1) pa_nil)) pe_int) (pe_ifExp (pt_cmpR op_gt (pe_ix ix_list (pv 1) (pe_un un_neg pe_int) (fun _ _ => rfl)) pe_int (nomark _)) pe_int pe_int)))))), ?_⟩
  refine r_drop (K := K) (evr_call1 (evr_var rfl h_pair) pre.pos) (fun H1 e1 => ?_)
  have ex := ex.trans e1
  have h_pair := rmono e1 h_pair
  refine r_asg (K := K) (evr_n (evn_call1 (evr_var rfl h_pair) pre)) (fun v_row H1 e1 hh => ?_)
  have ex := ex.trans e1
  have h_pair := rmono e1 h_pair
  have h_row := hh
  refine r_ret (K := K) (evr_add (evr_sub (evr_lenL (evr_var rfl h_row)) (evr_int 1)) (evr_if (evt_test (evr_gt (evr_ixZ (evr_var rfl h_row) (last_getD (row_ne pre.pos))) (evr_int 1))) (fun hif => (evr_int 1)) (fun hif => (evr_int 0)))) (fun v_ret H1 e1 hh => ?_)
  exact k _ _ (ex.trans e1) (hh)
abbrev s_longest : Stmt := top 17
theorem sc_longest : FnScope ["pair"] ["pair"] (defScope s_longest) := ⟨rfl, rfl, rfl, by decide +kernel, rfl, by decide +kernel, by decide +kernel⟩
set_option maxHeartbeats 4000000 in
theorem ok_longest {f : Addr} {fd : FuncData} (F : Fun K "longest" "longest" s_longest f fd) (T : Txt K mg CA CL CW) (G_asked_pair : Cal P w K mg base CX0 3 "asked_pair" ["pair"] (Fn1 K (α := (Int × Int)) (β := Unit) Pos (fun _ => ()))) (G_row_of : Cal P w K mg base CX0 1 "row_of" ["pair"] (Fn1N K (α := Int × Int) (β := Int) Sq rowOf)) : FnOk P w K mg base CX0 4 f fd ["pair"] (Fn1 K (α := (Int × Int)) (β := Int) Sq longOf) := by
  refine F.ok sc_longest (fun vs H Q E h => h.len) (fun cdv A outer s H vs Q E hr h => ?_)
  obtain ⟨v_pair, p_pair, rfl, h_pair, pre, k⟩ := h
  have hu := hr.units
  have ex := Ex.refl H
  have hu1 := hu_of hr
  refine ⟨_, (pss_cons (ps_expr (pe_cal G_asked_pair (hr.mono (by decide)) (by rfl) (pa_cons (pv 0) pa_nil))) (pss_one (ps_ret (pe_op op_sub (pe_callB (cr_sum rfl) (by rfl) T.z_sum (by decide +kernel) (pa_cons (pe_cal G_row_of (hr.mono (by decide)) (by rfl) (pa_cons (pv 0) pa_nil)) pa_nil)) pe_int)))), ?_⟩
  refine r_drop (K := K) (evr_call1 (evr_var rfl h_pair) pre.pos) (fun H1 e1 => ?_)
  have ex := ex.trans e1
  have h_pair := rmono e1 h_pair
  refine r_ret (K := K) (evr_sub (evr_sum (evr_n (evn_call1 (evr_var rfl h_pair) pre))) (evr_int 1)) (fun v_ret H1 e1 hh => ?_)
  exact k _ _ (ex.trans e1) (hh)
abbrev s_law : Stmt := top 39
theorem sc_law : FnScope ["_law_script", "_law_whole_here", "_law_cells", "_law_known", "_law_lengths_here", "_law_at", "_law_cell", "_law_number_here", "_law_wide", "_law_pairs", "_law_time", "_law_pair_here"] ["_law_script"] (defScope s_law) := ⟨rfl, rfl, rfl, by decide +kernel, rfl, by decide +kernel, by decide +kernel⟩
set_option maxHeartbeats 4000000 in
theorem ok_law {f : Addr} {fd : FuncData} (F : Fun K "law" "law" s_law f fd) (T : Txt K mg CA CL CW) (G_l_number : Cal P w K mg base CX0 1 "_law_number" ["_law_cell", "_law_at", "_law_whole_here"] (Fn3 K (α := Int) (β := Int) (γ := Int) (δ := Int) (fun cell at_ _ => Bt 1048576 cell ∧ 0 ≤ at_ ∧ at_ ≤ 100000) lawNumber)) (G_l_right : Cal P w K mg base CX0 36 "_law_right" ["_law_pairs", "_law_known"] (spRight P w K)) (G_l_lengths : Cal P w K mg base CX0 35 "_law_lengths" ["_law_pair_here", "_law_known"] (spLen K 30)) (G_shortest : Cal P w K mg base CX0 4 "shortest" ["pair"] (Fn1 K (α := (Int × Int)) (β := Int) Sq shortOf)) (G_longest : Cal P w K mg base CX0 4 "longest" ["pair"] (Fn1 K (α := (Int × Int)) (β := Int) Sq longOf)) : FnOk P w K mg base CX0 37 f fd ["_law_script"] (FnZ K (fun s => (∀ z ∈ s.l, Bt 1048576 z) ∧ s.l.length ≤ 63)) := by
  refine F.ok sc_law (fun vs H Q E h => h.len) (fun cdv A outer s H vs Q E hr h => ?_)
  obtain ⟨v_script, p_script, rfl, h_script, pre, k⟩ := h
  have hu := hr.units
  have ex := Ex.refl H
  have hu1 := hu_of hr
  refine ⟨_, (pss_cons (ps_set (i := 1) sc_law.nd rfl (Or.inl rfl) (pe_callB (cr_sum rfl) (by rfl) T.z_sum (by decide +kernel) (pa_cons (pe_slice sl_list (pv 0) po_none (po_some pe_int)) pa_nil))) (pss_cons (ps_set (i := 2) sc_law.nd rfl (Or.inl rfl) (pe_ifExp (pt_cmpR (op_neD hu) (pv 0) (pe_lst pa_nil) (nomark _)) (pe_slice sl_list (pv 0) po_none (po_some pe_int)) (pe_lst (pa_cons pe_int pa_nil)))) (pss_cons (ps_par (i := 3) (j := 4) rfl sc_law.nd rfl rfl (by decide) rfl rfl (pa_cons pe_nnew (pa_cons pe_dnewT pa_nil)) rfl) (pss_cons (ps_for PassesOwn.never rfl (pi_enum rfl T.z_enumerate (pa_cons (pe_slice sl_list (pv 2) po_none (po_some pe_int)) pa_nil)) (pg_tup rfl (pgs_cons (pg_name (i := 5) sc_law.nd rfl (Or.inl rfl)) (pgs_cons (pg_name (i := 6) sc_law.nd rfl (Or.inl rfl)) pgs_nil))) (pss_cons (ps_set (i := 7) sc_law.nd rfl (Or.inl rfl) (pe_cal G_l_number (hr.mono (by decide)) (by rfl) (pa_cons (pv 6) (pa_cons (pv 5) (pa_cons (pv 1) pa_nil))))) (pss_cons (ps_set (i := 8) sc_law.nd rfl (Or.inl rfl) (pe_ix ix_tup (pe_tup (pa_cons pe_int (pa_cons pe_int (pa_cons pe_int pa_nil)))) (pe_op op_mod (pe_op op_add (pv 1) (pv 5)) pe_int) (fun _ _ => rfl))) (pss_cons (ps_set (i := 9) sc_law.nd rfl (Or.inl rfl) (pe_lst pa_nil)) (pss_cons (ps_for PassesOwn.never rfl (pi_range1 rfl T.z_range (pa_cons (pe_op op_add pe_int (pe_op op_mod (pe_op op_add (pv 1) (pv 5)) pe_int)) pa_nil)) (pg_name (i := 10) sc_law.nd rfl (Or.inl rfl)) (pss_cons (ps_expr (pe_bm PySem.F.plainAttrs_list PySem.F.slot_list_append PySem.F.type_list_append mt_append (pv 9) (pa_cons (pe_tup (pa_cons (pe_op op_add pe_int (pe_op op_mod (pv 7) (pv 8))) (pa_cons (pe_op op_add pe_int (pe_op op_mod (pe_op op_fdivX (pv 7) pe_int) (pv 8))) pa_nil))) pa_nil))) (pss_one (ps_set (i := 7) sc_law.nd rfl (Or.inl rfl) (pe_op op_fdivX (pv 7) pe_int))))) (pss_cons (ps_if (pt_not (pt_val (pe_cal G_l_right (hr.mono (by decide)) (by rfl) (pa_cons (pv 9) (pa_cons (pv 3) pa_nil))))) (pss_one (ps_ret pe_bl)) pss_nil) (pss_one (ps_for PassesOwn.never rfl (pi_list (pv 9)) (pg_name (i := 11) sc_law.nd rfl (Or.inl rfl)) (pss_one (ps_if (pt_cmpR (op_neD hu) (pe_tup (pa_cons (pe_cal G_shortest (hr.mono (by decide)) (by rfl) (pa_cons (pv 11) pa_nil)) (pa_cons (pe_cal G_longest (hr.mono (by decide)) (by rfl) (pa_cons (pv 11) pa_nil)) pa_nil))) (pe_cal G_l_lengths (hr.mono (by decide)) (by rfl) (pa_cons (pv 11) (pa_cons (pv 4) pa_nil))) (nomark _)) (pss_one (ps_ret pe_bl)) pss_nil)))))))))) (pss_one (ps_ret (pe_and (pe_cal G_l_right (hr.mono (by decide)) (by rfl) (pa_cons (pe_lst (pa_cons (pe_tup (pa_cons pe_int (pa_cons pe_int pa_nil))) (pa_cons (pe_tup (pa_cons pe_int (pa_cons pe_int pa_nil))) pa_nil))) (pa_cons (pv 3) pa_nil))) (pe_one (pe_cmpR (op_eqD hu) (pe_tup (pa_cons (pe_cal G_shortest (hr.mono (by decide)) (by rfl) (pa_cons (pe_tup (pa_cons pe_int (pa_cons pe_int pa_nil))) pa_nil)) (pa_cons (pe_cal G_longest (hr.mono (by decide)) (by rfl) (pa_cons (pe_tup (pa_cons pe_int (pa_cons pe_int pa_nil))) pa_nil)) pa_nil))) (pe_tup (pa_cons pe_int (pa_cons pe_int pa_nil))) (nomark _)))))))))), ?_⟩
  refine r_asg (K := K) (evr_sum (evr_n (evn_slS (evr_var rfl h_script) evo_none (evo_some (K := K) (evr_int 63))))) (fun v_whole H1 e1 hh => ?_)
  have ew : v_whole = V.int (cutA p_script.l none (some 63)).sum := hh
  subst ew
  generalize hW : (cutA p_script.l none (some 63)).sum = W
  have h_script := rmono e1 h_script
  refine r_asg (K := K) (evr_if (evt_test (evr_neS (K := K) (evr_var rfl h_script) (evr_list els_nil (Nat.zero_le _)))) (fun hif => (evr_n (evn_slS (evr_var rfl h_script) evo_none (evo_some (K := K) (evr_int 63))))) (fun hif => (evr_n (evn_list (els_cons (evr_int 7) els_nil) (by show _ ≤ 100000; simp))))) (fun v_cells H2 e2 hh => ?_)
  have h_cells : rep K H2 v_cells (cellsOf p_script 7) := hh
  have hcl := cells_len p_script 7
  refine fun d1 hd1 d2 hd2 => ⟨.ref d1, .ref d2, rfl, ?_⟩
  dsimp only
  have eN : Ex H2 (upd H2 d1 (NdO P w d1 [])) := Ex.new hd1
  have eT : Ex (upd H2 d1 (NdO P w d1 [])) (upd (upd H2 d1 (NdO P w d1 [])) d2 (.dT [])) := Ex.new hd2
  have hne : d1 ≠ d2 := fun z => by rw [← z, upd_same] at hd2; cases hd2
  have D1 : DN P w K (upd (upd H2 d1 (NdO P w d1 [])) d2 (.dT [])) d1 [] := ⟨⟨[], by rw [upd_ne hne]; exact upd_same, .nil⟩⟩
  have D2 : DL K (upd (upd H2 d1 (NdO P w d1 [])) d2 (.dT [])) d2 [] := ⟨⟨[], upd_same, rfl, fun e he => by cases he⟩⟩
  have h_cells := rmono (eN.trans eT) h_cells
  have exs : Ex H (upd (upd H2 d1 (NdO P w d1 [])) d2 (.dT [])) := (e1.trans e2).trans (eN.trans eT)
  refine r_forE (K := K) (evr_n (evn_sl (evr_var rfl h_cells) evo_none (evo_some (K := K) (evr_int 6)))) (fun lp lvs H3 e3 hlp hlrs => ?_)
  refine ⟨fun n σ' H' => ∃ (o5 o6 o7 o8 o9 o10 o11 : Option V) (l1 : List (List (Int × Int) × Bool)) (l2 : List (Int × Int)), σ' = [some v_script, some (.int W), some v_cells, some (.ref d1), some (.ref d2), o5, o6, o7, o8, o9, o10, o11] ∧ ExM H3 H' ∧ DN P w K H' d1 l1 ∧ Good l1 ∧ DL K H' d2 l2 ∧ GoodL l2, ?_, ?_, ?_, ?_⟩
  · exact ⟨_, _, _, _, _, _, _, [], [], rfl, ⟨fun _ _ h => h, fun _ _ h => h⟩, D1.mono e3, Good.nil, D2.mono e3, GoodL.nil⟩
  · rintro n σ' H' ⟨o5, o6, o7, o8, o9, o10, o11, l1, l2, rfl, en, _⟩
    exact ⟨en.1 _ _ hlp, nmono en hlrs⟩
  · rintro n v_cell x_cell σ' H' H4 hx e4 h_cell ⟨o5, o6, o7, o8, o9, o10, o11, l1, l2, rfl, en, G1, G2, G3, G4⟩
    have G1 := G1.mono e4
    have G3 := G3.mono e4
    have en : ExM H3 H4 := ⟨fun b xs h => e4 _ _ (en.1 b xs h), fun b xs h => e4 _ _ (en.2 b xs h)⟩
    have hn6 : n < 63 := by have h1 := (List.getElem?_eq_some_iff.mp hx).1; have h2 : (cutA (cellsOf p_script 7) none (some 6)).length ≤ 6 := (by rw [show (some 6 : Option Int) = some ((6 : Nat) : Int) from rfl, cutA_to, List.length_take]; omega); omega
    have hmem : x_cell ∈ cellsOf p_script 7 := by
      have h := List.mem_of_getElem? hx
      rw [show (some 6 : Option Int) = some ((6 : Nat) : Int) from rfl, cutA_to] at h
      exact List.mem_of_mem_take h
    refine r_asg (K := K) (evr_call3 (evr_var rfl h_cell) (evr_varI rfl) (evr_varI rfl) ⟨cell_bt pre.1 (cells_mem hmem), by omega, by omega⟩) (fun v_number H5 e5 hh => ?_)
    have e : v_number = V.int (lawNumber x_cell (n : Int) W) := hh
    subst e
    generalize hnum : lawNumber x_cell (n : Int) W = num
    refine r_asg (K := K) (evr_ixU (x := k3Wide (W + (n : Int))) (evr_tu (els_cons (evr_int 30) (els_cons (evr_int 9) (els_cons (evr_int 5) els_nil))) (by show _ ≤ 100000; simp)) (evr_mod (evr_add (evr_varI rfl) (evr_varI rfl)) (evr_int 3) (show (0 : Int) < 3 by decide)) (k3_w0 _) (k3_w _)) (fun v_wide H6 e6 hh => ?_)
    have e : v_wide = V.int (k3Wide (W + (n : Int))) := hh
    subst e
    have hx0 := k3_w0 (W + (n : Int))
    have hx1 := Int.emod_lt_of_pos (W + (n : Int)) (show (0 : Int) < 3 by decide)
    have hwp := k3_pos (W + (n : Int))
    generalize hX : W + (n : Int) = x at *
    refine r_asgN (K := K) (evn_list (α := Int × Int) els_nil (Nat.zero_le _)) (fun lq us H7 hn e7 hl hs => ?_)
    refine r_forR1 (K := K) (n := 1 + x % 3) (evr_is (evr_add (evr_int 1) (evr_mod (evr_add (evr_varI rfl) (evr_varI rfl)) (evr_int 3) (show (0 : Int) < 3 by decide))) (by rw [hX])) (by omega) (fun H8 e8 => ?_)
    refine ⟨fun m σ' H' => Ex H6 H' ∧ ∃ (o10 : Option V) (us : List V), σ' = [some v_script, some (.int W), some v_cells, some (.ref d1), some (.ref d2), some (.int (n : Int)), some v_cell, some (.int (k3Num m num)), some (.int (k3Wide x)), some (.ref lq), o10, o11] ∧ H' lq = some (.lst us) ∧ Paired (rep K H') us (k3Pairs num x m), ?_, ?_, ?_⟩
    · exact ⟨e7.trans e8, _, us, rfl, e8 _ _ hl, pmono e8 hs⟩
    · rintro m σ' H' hm ⟨eq, o10, us, rfl, hl, hs⟩
      refine r_app (K := K) hn eq hl hs (ev_var rfl) (evr_tup (evr_add (evr_int 1) (evr_mod (evr_varI rfl) (evr_varI rfl) hwp)) (evr_add (evr_int 1) (evr_mod (evr_div (evr_varI rfl) (evr_int 31) (div_small (by decide) (by decide))) (evr_varI rfl) hwp))) (by rw [k3_len]; omega) (fun us' H9 eq hl hs => ?_)
      refine r_asg1 (K := K) (evr_div (evr_varI rfl) (evr_int 961) (div_small (by decide) (by decide))) (fun v H10 e10 hh => ?_)
      have e : v = V.int (k3Num m num / 961) := hh
      subst e
      exact ⟨eq.trans e10, _, us', rfl, e10 _ _ hl, by rw [k3_pairs_succ]; exact pmono e10 hs⟩
    · rintro σ' H' ⟨eq, o10, us, rfl, hl, hs⟩
      have hbox := k3_box num x
      generalize hps : k3Pairs num x (1 + x % 3).toNat = ps at *
      have e46 := (e5.trans e6).trans eq
      have G1 := G1.mono e46
      have G3 := G3.mono e46
      refine r_right (K := K) (j := 3) (a := (⟨l1⟩ : Kn P w)) (evr_var rfl ⟨lq, us, rfl, hl, hs⟩) rfl ⟨d1, rfl, G1, G2⟩ hbox (fun H9 kb e9 hb9 => ?_)
      obtain ⟨d9, ed, D9, G9⟩ := hb9
      cases ed
      have en9 : ExM H3 H9 := ⟨fun b xs h => e9.m.1 _ _ (e46 _ _ (en.1 b xs h)), fun b xs h => e9.m.2 _ _ (e46 _ _ (en.2 b xs h))⟩
      have L9 := G3.keep e9
      have hl := e9.m.1 _ _ hl
      have hs := nmono e9.m hs
      refine r_forL1 (K := K) (evr_var rfl ⟨lq, us, rfl, hl, hs⟩) (fun p2 vs2 H10 e10 hp2 hr2 => ?_)
      refine ⟨fun m σ' H' => ∃ (o11 : Option V) (l3 : List (Int × Int)), σ' = [some v_script, some (.int W), some v_cells, some (.ref d1), some (.ref d2), some (.int (n : Int)), some v_cell, some (.int (k3Num (1 + x % 3).toNat num)), some (.int (k3Wide x)), some (.ref lq), o10, o11] ∧ ExD H10 H' ∧ DL K H' d2 l3 ∧ GoodL l3, ?_, ?_, ?_, ?_⟩
      · exact ⟨_, l2, rfl, ExD.of (Ex.refl _), L9.mono e10, G4⟩
      · rintro m σ' H' ⟨o11, l3, rfl, en2, _⟩
        exact ⟨en2.m.1 _ _ hp2, nmono en2.m hr2⟩
      · rintro m v_q q σ' H' hq h_q ⟨o11, l3, rfl, en2, M3, GM3⟩
        have hq30 := hbox.inW q (List.mem_of_getElem? hq)
        show tIfS _ _ _ _ _ _
        refine r_lens (K := K) (i := 11) (j := 4) (evr_tup (evr_call1 (evr_var rfl h_q) hq30.sq) (evr_call1 (evr_var rfl h_q) hq30.sq)) rfl rfl h_q M3 GM3 hq30 (fun H11 l4 e11 M4 GM4 => ?_)
        exact ⟨_, l4, rfl, en2.trans e11, M4, GM4⟩
      · rintro σ' H' ⟨o11, l3, rfl, en2, M3, GM3⟩
        have en3 : ExM H3 H' := ⟨fun b xs h => en2.m.1 _ _ (e10 _ _ (en9.1 b xs h)), fun b xs h => en2.m.2 _ _ (e10 _ _ (en9.2 b xs h))⟩
        exact ⟨_, _, _, _, _, _, _, kb.l, l3, rfl, en3, (D9.mono e10).keep en2, G9, M3, GM3⟩
  · rintro σ' H' ⟨o5, o6, o7, o8, o9, o10, o11, l1, l2, rfl, en, G1, G2, G3, G4⟩
    refine r_rightAnd (K := K) (j := 3) (a := (⟨l1⟩ : Kn P w)) (evr_list (els_cons (evr_tup (evr_int 2) (evr_int 5)) (els_cons (evr_tup (evr_int 3) (evr_int 4)) els_nil)) (by show _ ≤ 100000; simp)) rfl ⟨d1, rfl, G1, G2⟩ k3_last (fun Hb kb eb hb => ?_)
    refine (evr_eqD (K := K) (evr_tup (evr_call1 (evr_tup (evr_int 5) (evr_int 8)) k3_58) (evr_call1 (evr_tup (evr_int 2) (evr_int 7)) k3_27)) (evr_tup (evr_int 4) (evr_int 4))) Hb (Ex.refl _) _ fun vz Hz ez rz => ?_
    exact k vz Hz (k3_44 ▸ rz)
end
end Mt

namespace Mt
open PySem PySem.Spec L2 Evl PyProof.Rows
/-- a def of the text stands behind the top -/
structure FunIn (K : PySem.W.Frag) (x : Str) (st : Stmt) : Prop where
  ex : ∃ (f : Addr) (oc : Value) (od an : Option Addr) (sl : Array (Option Value)) (kV dc pm cd ct : Value), PySem.W.nsIn K mainGlobals x = some (some (.ref f)) ∧
    K.lookup f = some ⟨oc, od, .func (PySem.W.fnOf x x (defArgs st) (defBody st) (defScope st) .none kV dc pm an cd ct), sl⟩ ∧ PySem.W.codeIn K cd x = true ∧ PySem.W.keepIn K (.ref f) = true
theorem funIn_mk {K : PySem.W.Frag} {x : Str} {st : Stmt} {f : Addr} {oc : Value} {od an : Option Addr} {sl : Array (Option Value)} {kV dc pm cd ct : Value} (a : PySem.W.nsIn K mainGlobals x = some (some (.ref f)))
    (l : K.lookup f = some ⟨oc, od, .func (PySem.W.fnOf x x (defArgs st) (defBody st) (defScope st) .none kV dc pm an cd ct), sl⟩) (c : PySem.W.codeIn K cd x = true) (k : PySem.W.keepIn K (.ref f) = true) : FunIn K x st := ⟨⟨f, oc, od, an, sl, kV, dc, pm, cd, ct, a, l, c, k⟩⟩
structure MethIn (K : PySem.W.Frag) (C : Addr) (m q : Str) (st : Stmt) : Prop where
  ex : ∃ (f : Addr) (oc : Value) (od an : Option Addr) (sl : Array (Option Value)) (kV dc pm cd ct : Value), PySem.W.findIn K (.ref C) m = some (some (.ref f)) ∧ PySem.W.isFn K (.ref f) = true ∧
    K.lookup f = some ⟨oc, od, .func (PySem.W.fnOf m q (defArgs st) (defBody st) (defScope st) .none kV dc pm an cd ct), sl⟩ ∧ PySem.W.codeIn K cd q = true ∧ PySem.W.keepIn K (.ref f) = true
theorem methIn_mk {K : PySem.W.Frag} {C : Addr} {m q : Str} {st : Stmt} {f : Addr} {oc : Value} {od an : Option Addr} {sl : Array (Option Value)} {kV dc pm cd ct : Value} (a : PySem.W.findIn K (.ref C) m = some (some (.ref f))) (i : PySem.W.isFn K (.ref f) = true)
    (l : K.lookup f = some ⟨oc, od, .func (PySem.W.fnOf m q (defArgs st) (defBody st) (defScope st) .none kV dc pm an cd ct), sl⟩) (c : PySem.W.codeIn K cd q = true) (k : PySem.W.keepIn K (.ref f) = true) : MethIn K C m q st := ⟨⟨f, oc, od, an, sl, kV, dc, pm, cd, ct, a, i, l, c, k⟩⟩
set_option maxHeartbeats 4000000 in
theorem all_mk {l : PySem.W.OpenLaw} {w : World} {K : PySem.W.Frag} {h : Heap} {mg : Str → Option Value} {fa : Addr} {t_MOST : Tok} {CA CL CW : Addr} (X : K.In h) (G : h.Ns mainGlobals mg) (hfa : mg "law" = some (.ref fa))
    (C_is_number : FunIn K "is_number" s_is_number)
    (C_is_pair : FunIn K "is_pair" s_is_pair)
    (C_asked_pair : FunIn K "asked_pair" s_asked_pair)
    (C_most_of : FunIn K "most_of" s_most_of)
    (C_taken_of : FunIn K "taken_of" s_taken_of)
    (C_worth_of : FunIn K "worth_of" s_worth_of)
    (C_asked_pairs : FunIn K "asked_pairs" s_asked_pairs)
    (C_sum_of : FunIn K "sum_of" s_sum_of)
    (C_times_to : FunIn K "times_to" s_times_to)
    (C_told : FunIn K "told" s_told)
    (C_l_most : FunIn K "_law_most" s_l_most)
    (C_l_behind : FunIn K "_law_behind" s_l_behind)
    (C_l_sorted : FunIn K "_law_sorted" s_l_sorted)
    (C_l_won : FunIn K "_law_won" s_l_won)
    (C_l_lengths : FunIn K "_law_lengths" s_l_lengths)
    (C_l_right : FunIn K "_law_right" s_l_right)
    (C_l_number : FunIn K "_law_number" s_l_number)
    (C_row_of : FunIn K "row_of" s_row_of)
    (C_shortest : FunIn K "shortest" s_shortest)
    (C_longest : FunIn K "longest" s_longest)
    (C_law : FunIn K "law" s_law)
    (z_all : PySem.W.nsIn K mainGlobals "all" = some none)
    (z_bool : PySem.W.nsIn K mainGlobals "bool" = some none)
    (z_enumerate : PySem.W.nsIn K mainGlobals "enumerate" = some none)
    (z_int : PySem.W.nsIn K mainGlobals "int" = some none)
    (z_isinstance : PySem.W.nsIn K mainGlobals "isinstance" = some none)
    (z_len : PySem.W.nsIn K mainGlobals "len" = some none)
    (z_list : PySem.W.nsIn K mainGlobals "list" = some none)
    (z_max : PySem.W.nsIn K mainGlobals "max" = some none)
    (z_min : PySem.W.nsIn K mainGlobals "min" = some none)
    (z_range : PySem.W.nsIn K mainGlobals "range" = some none)
    (z_sorted : PySem.W.nsIn K mainGlobals "sorted" = some none)
    (z_sum : PySem.W.nsIn K mainGlobals "sum" = some none)
    (z_tuple : PySem.W.nsIn K mainGlobals "tuple" = some none)
    (g_MOST : PySem.W.nsIn K mainGlobals "MOST" = some (some (.int 100 t_MOST)))
    (aA : PySem.W.nsIn K mainGlobals "Answer" = some (some (.ref CA)))
    (aL : PySem.W.nsIn K mainGlobals "Lost" = some (some (.ref CL)))
    (aW : PySem.W.nsIn K mainGlobals "Won" = some (some (.ref CW)))
    (pL1 : PySem.W.plainGet K CL Str.empty = true)
    (pL2 : PySem.W.hasDictIn K CL = true)
    (pL3 : PySem.W.plainOver K CL = true)
    (pL4 : PySem.W.findIn K (.ref CL) "__setattr__" = some (some (.builtin "object.__setattr__")))
    (pL5 : PySem.W.findIn K (.ref CL) "__class__" = some (some (.builtin "object.__class__")))
    (pL6 : PySem.W.mroIn K CL (.type "object") = some true)
    (pW1 : PySem.W.plainGet K CW Str.empty = true)
    (pW2 : PySem.W.hasDictIn K CW = true)
    (pW3 : PySem.W.plainOver K CW = true)
    (pW4 : PySem.W.findIn K (.ref CW) "__setattr__" = some (some (.builtin "object.__setattr__")))
    (pW5 : PySem.W.findIn K (.ref CW) "__class__" = some (some (.builtin "object.__class__")))
    (pW6 : PySem.W.mroIn K CW (.type "object") = some true)
    (pC1 : PySem.W.specialIn K (.builtin "object.__class__") "__get__" = some (some (.builtin "getset_descriptor.__get__")))
    (pC2 : PySem.W.takesIn K (.builtin "object.__class__") = some true)
    (mL1 : PySem.W.makesIn K CL = true)
    (mL2 : PySem.W.findIn K (.ref CL) "__init__" = some (some (.builtin "object.__init__")))
    (mL3 : PySem.W.keepIn K (.ref CL) = true)
    (mW1 : PySem.W.makesIn K CW = true)
    (mW3 : PySem.W.keepIn K (.ref CW) = true)
    (nA : PySem.W.findIn K (.ref CW) "at" = some none)
    (nT : PySem.W.findIn K (.ref CW) "times" = some none)
    (kLA : PySem.W.kitOne K (.ref CL) (.ref CA) = some true)
    (kLL : PySem.W.kitOne K (.ref CL) (.ref CL) = some true)
    (kLW : PySem.W.kitOne K (.ref CL) (.ref CW) = some false)
    (kWA : PySem.W.kitOne K (.ref CW) (.ref CA) = some true)
    (kWL : PySem.W.kitOne K (.ref CW) (.ref CL) = some false)
    (kWW : PySem.W.kitOne K (.ref CW) (.ref CW) = some true)
    (M_W_init : MethIn K CW "__init__" "Won.__init__" s_W_init)
    : ∃ fd : FuncData, (∀ (s : Shared) (v : Value), BindsTo s fd ⟨[v], []⟩ [("_law_script", v)]) ∧ ∀ base : Heap, K.In base → base.Ns mainGlobals mg → FnOk l.prog w K mg base CX0 37 fa fd ["_law_script"] (FnZ K (fun s => (∀ z ∈ s.l, Bt 1048576 z) ∧ s.l.length ≤ 63)) := by
  have ans : AnsTxt K mg CA CL CW := ⟨⟨aL, ⟨pL1, pL2, pL3, pL4⟩, pL5, pC1, pC2, pL6⟩, ⟨aW, ⟨pW1, pW2, pW3, pW4⟩, pW5, pC1, pC2, pW6⟩, PySem.W.mg_of X G aA, PySem.W.mg_of X G aL, PySem.W.mg_of X G aW, nA, nT, ⟨mL1, mL2, mL3⟩, kLA, kLL, kLW, kWA, kWL, kWW⟩
  have T : Txt K mg CA CL CW := ⟨PySem.W.mg_none_of X G z_all, PySem.W.mg_none_of X G z_bool, PySem.W.mg_none_of X G z_enumerate, PySem.W.mg_none_of X G z_int, PySem.W.mg_none_of X G z_isinstance, PySem.W.mg_none_of X G z_len, PySem.W.mg_none_of X G z_list, PySem.W.mg_none_of X G z_max, PySem.W.mg_none_of X G z_min, PySem.W.mg_none_of X G z_range, PySem.W.mg_none_of X G z_sorted, PySem.W.mg_none_of X G z_sum, PySem.W.mg_none_of X G z_tuple, ⟨_, PySem.W.mg_of X G g_MOST⟩, ans⟩
  obtain ⟨f_W_init, oc, od, an, sl, kV, dc, pm, cd, ct, a_W_init, i_W_init, l_W_init, c_W_init, k_W_init⟩ := M_W_init.ex
  have F_W_init := fun_mk (st := s_W_init) l_W_init c_W_init k_W_init
  have b_W_init := F_W_init.binds (ps := ["self", "at", "times"]) fun _ _ _ _ _ _ us hl => match us, hl with | [_, _, _], _ => rfl
  obtain ⟨f_is_number, oc, od, an, sl, kV, dc, pm, cd, ct, a_is_number, l_is_number, c_is_number, k_is_number⟩ := C_is_number.ex
  have F_is_number := fun_mk (st := s_is_number) l_is_number c_is_number k_is_number
  have b_is_number := F_is_number.binds (ps := ["thing"]) fun _ _ _ _ _ _ us hl => match us, hl with | [_], _ => rfl
  obtain ⟨f_is_pair, oc, od, an, sl, kV, dc, pm, cd, ct, a_is_pair, l_is_pair, c_is_pair, k_is_pair⟩ := C_is_pair.ex
  have F_is_pair := fun_mk (st := s_is_pair) l_is_pair c_is_pair k_is_pair
  have b_is_pair := F_is_pair.binds (ps := ["thing"]) fun _ _ _ _ _ _ us hl => match us, hl with | [_], _ => rfl
  obtain ⟨f_asked_pair, oc, od, an, sl, kV, dc, pm, cd, ct, a_asked_pair, l_asked_pair, c_asked_pair, k_asked_pair⟩ := C_asked_pair.ex
  have F_asked_pair := fun_mk (st := s_asked_pair) l_asked_pair c_asked_pair k_asked_pair
  have b_asked_pair := F_asked_pair.binds (ps := ["pair"]) fun _ _ _ _ _ _ us hl => match us, hl with | [_], _ => rfl
  obtain ⟨f_most_of, oc, od, an, sl, kV, dc, pm, cd, ct, a_most_of, l_most_of, c_most_of, k_most_of⟩ := C_most_of.ex
  have F_most_of := fun_mk (st := s_most_of) l_most_of c_most_of k_most_of
  have b_most_of := F_most_of.binds (ps := ["pair"]) fun _ _ _ _ _ _ us hl => match us, hl with | [_], _ => rfl
  obtain ⟨f_taken_of, oc, od, an, sl, kV, dc, pm, cd, ct, a_taken_of, l_taken_of, c_taken_of, k_taken_of⟩ := C_taken_of.ex
  have F_taken_of := fun_mk (st := s_taken_of) l_taken_of c_taken_of k_taken_of
  have b_taken_of := F_taken_of.binds (ps := ["pair", "times"]) fun _ _ _ _ _ _ us hl => match us, hl with | [_, _], _ => rfl
  obtain ⟨f_worth_of, oc, od, an, sl, kV, dc, pm, cd, ct, a_worth_of, l_worth_of, c_worth_of, k_worth_of⟩ := C_worth_of.ex
  have F_worth_of := fun_mk (st := s_worth_of) l_worth_of c_worth_of k_worth_of
  have b_worth_of := F_worth_of.binds (ps := ["pair"]) fun _ _ _ _ _ _ us hl => match us, hl with | [_], _ => rfl
  obtain ⟨f_asked_pairs, oc, od, an, sl, kV, dc, pm, cd, ct, a_asked_pairs, l_asked_pairs, c_asked_pairs, k_asked_pairs⟩ := C_asked_pairs.ex
  have F_asked_pairs := fun_mk (st := s_asked_pairs) l_asked_pairs c_asked_pairs k_asked_pairs
  have b_asked_pairs := F_asked_pairs.binds (ps := ["pairs"]) fun _ _ _ _ _ _ us hl => match us, hl with | [_], _ => rfl
  obtain ⟨f_sum_of, oc, od, an, sl, kV, dc, pm, cd, ct, a_sum_of, l_sum_of, c_sum_of, k_sum_of⟩ := C_sum_of.ex
  have F_sum_of := fun_mk (st := s_sum_of) l_sum_of c_sum_of k_sum_of
  have b_sum_of := F_sum_of.binds (ps := ["pairs"]) fun _ _ _ _ _ _ us hl => match us, hl with | [_], _ => rfl
  obtain ⟨f_times_to, oc, od, an, sl, kV, dc, pm, cd, ct, a_times_to, l_times_to, c_times_to, k_times_to⟩ := C_times_to.ex
  have F_times_to := fun_mk (st := s_times_to) l_times_to c_times_to k_times_to
  have b_times_to := F_times_to.binds (ps := ["pair", "worth"]) fun _ _ _ _ _ _ us hl => match us, hl with | [_, _], _ => rfl
  obtain ⟨f_told, oc, od, an, sl, kV, dc, pm, cd, ct, a_told, l_told, c_told, k_told⟩ := C_told.ex
  have F_told := fun_mk (st := s_told) l_told c_told k_told
  have b_told := F_told.binds (ps := ["pairs"]) fun _ _ _ _ _ _ us hl => match us, hl with | [_], _ => rfl
  obtain ⟨f_l_most, oc, od, an, sl, kV, dc, pm, cd, ct, a_l_most, l_l_most, c_l_most, k_l_most⟩ := C_l_most.ex
  have F_l_most := fun_mk (st := s_l_most) l_l_most c_l_most k_l_most
  have b_l_most := F_l_most.binds (ps := ["_law_pair_here"]) fun _ _ _ _ _ _ us hl => match us, hl with | [_], _ => rfl
  obtain ⟨f_l_behind, oc, od, an, sl, kV, dc, pm, cd, ct, a_l_behind, l_l_behind, c_l_behind, k_l_behind⟩ := C_l_behind.ex
  have F_l_behind := fun_mk (st := s_l_behind) l_l_behind c_l_behind k_l_behind
  have b_l_behind := F_l_behind.binds (ps := ["_law_pair_here", "_law_times"]) fun _ _ _ _ _ _ us hl => match us, hl with | [_, _], _ => rfl
  obtain ⟨f_l_sorted, oc, od, an, sl, kV, dc, pm, cd, ct, a_l_sorted, l_l_sorted, c_l_sorted, k_l_sorted⟩ := C_l_sorted.ex
  have F_l_sorted := fun_mk (st := s_l_sorted) l_l_sorted c_l_sorted k_l_sorted
  have b_l_sorted := F_l_sorted.binds (ps := ["_law_pairs"]) fun _ _ _ _ _ _ us hl => match us, hl with | [_], _ => rfl
  obtain ⟨f_l_won, oc, od, an, sl, kV, dc, pm, cd, ct, a_l_won, l_l_won, c_l_won, k_l_won⟩ := C_l_won.ex
  have F_l_won := fun_mk (st := s_l_won) l_l_won c_l_won k_l_won
  have b_l_won := F_l_won.binds (ps := ["_law_pairs", "_law_known"]) fun _ _ _ _ _ _ us hl => match us, hl with | [_, _], _ => rfl
  obtain ⟨f_l_lengths, oc, od, an, sl, kV, dc, pm, cd, ct, a_l_lengths, l_l_lengths, c_l_lengths, k_l_lengths⟩ := C_l_lengths.ex
  have F_l_lengths := fun_mk (st := s_l_lengths) l_l_lengths c_l_lengths k_l_lengths
  have b_l_lengths := F_l_lengths.binds (ps := ["_law_pair_here", "_law_known"]) fun _ _ _ _ _ _ us hl => match us, hl with | [_, _], _ => rfl
  obtain ⟨f_l_right, oc, od, an, sl, kV, dc, pm, cd, ct, a_l_right, l_l_right, c_l_right, k_l_right⟩ := C_l_right.ex
  have F_l_right := fun_mk (st := s_l_right) l_l_right c_l_right k_l_right
  have b_l_right := F_l_right.binds (ps := ["_law_pairs", "_law_known"]) fun _ _ _ _ _ _ us hl => match us, hl with | [_, _], _ => rfl
  obtain ⟨f_l_number, oc, od, an, sl, kV, dc, pm, cd, ct, a_l_number, l_l_number, c_l_number, k_l_number⟩ := C_l_number.ex
  have F_l_number := fun_mk (st := s_l_number) l_l_number c_l_number k_l_number
  have b_l_number := F_l_number.binds (ps := ["_law_cell", "_law_at", "_law_whole_here"]) fun _ _ _ _ _ _ us hl => match us, hl with | [_, _, _], _ => rfl
  obtain ⟨f_row_of, oc, od, an, sl, kV, dc, pm, cd, ct, a_row_of, l_row_of, c_row_of, k_row_of⟩ := C_row_of.ex
  have F_row_of := fun_mk (st := s_row_of) l_row_of c_row_of k_row_of
  have b_row_of := F_row_of.binds (ps := ["pair"]) fun _ _ _ _ _ _ us hl => match us, hl with | [_], _ => rfl
  obtain ⟨f_shortest, oc, od, an, sl, kV, dc, pm, cd, ct, a_shortest, l_shortest, c_shortest, k_shortest⟩ := C_shortest.ex
  have F_shortest := fun_mk (st := s_shortest) l_shortest c_shortest k_shortest
  have b_shortest := F_shortest.binds (ps := ["pair"]) fun _ _ _ _ _ _ us hl => match us, hl with | [_], _ => rfl
  obtain ⟨f_longest, oc, od, an, sl, kV, dc, pm, cd, ct, a_longest, l_longest, c_longest, k_longest⟩ := C_longest.ex
  have F_longest := fun_mk (st := s_longest) l_longest c_longest k_longest
  have b_longest := F_longest.binds (ps := ["pair"]) fun _ _ _ _ _ _ us hl => match us, hl with | [_], _ => rfl
  obtain ⟨f_law, oc, od, an, sl, kV, dc, pm, cd, ct, a_law, l_law, c_law, k_law⟩ := C_law.ex
  have F_law := fun_mk (st := s_law) l_law c_law k_law
  have b_law := F_law.binds (ps := ["_law_script"]) fun _ _ _ _ _ _ us hl => match us, hl with | [_], _ => rfl
  have e := hfa.symm.trans (PySem.W.mg_of X G a_law)
  cases e
  refine ⟨PySem.W.fnOf "law" "law" (defArgs s_law) (defBody s_law) (defScope s_law) .none kV dc pm an cd ct, fun s v => .of_eq rfl, fun base hKb hnb => ?_⟩
  have G_is_number : Cal l.prog w K mg base CX0 1 "is_number" ["thing"] (Fn1 K (α := Int) (β := Bool) (fun _ => True) (fun _ => true)) := ⟨⟨_, _, ok_is_number F_is_number T , PySem.W.mg_of X G a_is_number, k_is_number, b_is_number⟩⟩
  have G_is_pair : Cal l.prog w K mg base CX0 2 "is_pair" ["thing"] (Fn1 K (α := (Int × Int)) (β := Bool) Pos (fun _ => true)) := ⟨⟨_, _, ok_is_pair F_is_pair T G_is_number, PySem.W.mg_of X G a_is_pair, k_is_pair, b_is_pair⟩⟩
  have G_asked_pair : Cal l.prog w K mg base CX0 3 "asked_pair" ["pair"] (Fn1 K (α := (Int × Int)) (β := Unit) Pos (fun _ => ())) := ⟨⟨_, _, ok_asked_pair F_asked_pair T G_is_pair, PySem.W.mg_of X G a_asked_pair, k_asked_pair, b_asked_pair⟩⟩
  have G_most_of : Cal l.prog w K mg base CX0 1 "most_of" ["pair"] (Fn1 K (α := (Int × Int)) (β := Int) Sm mostOf) := ⟨⟨_, _, ok_most_of F_most_of T , PySem.W.mg_of X G a_most_of, k_most_of, b_most_of⟩⟩
  have G_taken_of : Cal l.prog w K mg base CX0 1 "taken_of" ["pair", "times"] (Fn2 K (α := (Int × Int)) (β := Int) (γ := (Int × Int)) (fun p t => Sm p ∧ 1 ≤ t ∧ t ≤ mostOf p) takenOf) := ⟨⟨_, _, ok_taken_of F_taken_of T , PySem.W.mg_of X G a_taken_of, k_taken_of, b_taken_of⟩⟩
  have G_worth_of : Cal l.prog w K mg base CX0 1 "worth_of" ["pair"] (Fn1 K (α := (Int × Int)) (β := Int) Sm worthOf) := ⟨⟨_, _, ok_worth_of F_worth_of T , PySem.W.mg_of X G a_worth_of, k_worth_of, b_worth_of⟩⟩
  have G_asked_pairs : Cal l.prog w K mg base CX0 3 "asked_pairs" ["pairs"] (Fn1 K (α := (List (Int × Int))) (β := Unit) (fun ps => AllSm ps ∧ ps.length ≤ 100) (fun _ => ())) := ⟨⟨_, _, ok_asked_pairs F_asked_pairs T G_is_pair, PySem.W.mg_of X G a_asked_pairs, k_asked_pairs, b_asked_pairs⟩⟩
  have G_sum_of : Cal l.prog w K mg base CX0 2 "sum_of" ["pairs"] (Fn1 K (α := (List (Int × Int))) (β := Int) AllSm sumOf) := ⟨⟨_, _, ok_sum_of F_sum_of T G_worth_of, PySem.W.mg_of X G a_sum_of, k_sum_of, b_sum_of⟩⟩
  have GW_init : CalW l.prog w K mg base CW := ⟨⟨f_W_init, _, ⟨mW1, a_W_init, i_W_init, mW3⟩, ok_W_init F_W_init T , b_W_init, PySem.W.mg_of X G aW⟩⟩
  have G_times_to : Cal l.prog w K mg base CX0 2 "times_to" ["pair", "worth"] (Fn2 K (α := (Int × Int)) (β := Int) (γ := Int) (fun p w => Sm p ∧ 0 ≤ w ∧ w < worthOf p) timesTo) := ⟨⟨_, _, ok_times_to F_times_to T G_most_of G_worth_of G_taken_of, PySem.W.mg_of X G a_times_to, k_times_to, b_times_to⟩⟩
  have G_told : Cal l.prog w K mg base CX0 4 "told" ["pairs"] (Fn1 K (α := (List (Int × Int))) (β := Ans) (fun ps => AllSm ps ∧ ps.length ≤ 100) toldOf) := ⟨⟨_, _, ok_told F_told T G_asked_pairs G_sum_of G_worth_of G_times_to GW_init, PySem.W.mg_of X G a_told, k_told, b_told⟩⟩
  have G_l_most : Cal l.prog w K mg base CX0 1 "_law_most" ["_law_pair_here"] (Fn1 K (α := (Int × Int)) (β := Int) Sm mostOf) := ⟨⟨_, _, ok_l_most F_l_most T , PySem.W.mg_of X G a_l_most, k_l_most, b_l_most⟩⟩
  have G_l_behind : Cal l.prog w K mg base CX0 1 "_law_behind" ["_law_pair_here", "_law_times"] (Fn2 K (α := (Int × Int)) (β := Int) (γ := (Int × Int)) (fun p t => Sm p ∧ 1 ≤ t ∧ t ≤ mostOf p) takenOf) := ⟨⟨_, _, ok_l_behind F_l_behind T , PySem.W.mg_of X G a_l_behind, k_l_behind, b_l_behind⟩⟩
  have G_l_sorted : Cal l.prog w K mg base CX0 1 "_law_sorted" ["_law_pairs"] (spSort K) := ⟨⟨_, _, ok_l_sorted F_l_sorted T , PySem.W.mg_of X G a_l_sorted, k_l_sorted, b_l_sorted⟩⟩
  have G_l_won : Cal l.prog w K mg base CX0 35 "_law_won" ["_law_pairs", "_law_known"] (spWon l.prog w K 30) := ⟨⟨_, _, cal_l_won F_l_won T G_l_most G_l_behind G_l_sorted (PySem.W.mg_of X G a_l_won) k_l_won b_l_won 30, PySem.W.mg_of X G a_l_won, k_l_won, b_l_won⟩⟩
  have G_l_lengths : Cal l.prog w K mg base CX0 35 "_law_lengths" ["_law_pair_here", "_law_known"] (spLen K 30) := ⟨⟨_, _, cal_l_lengths F_l_lengths T G_l_most G_l_behind (PySem.W.mg_of X G a_l_lengths) k_l_lengths b_l_lengths 30, PySem.W.mg_of X G a_l_lengths, k_l_lengths, b_l_lengths⟩⟩
  have G_l_right : Cal l.prog w K mg base CX0 36 "_law_right" ["_law_pairs", "_law_known"] (spRight l.prog w K) := ⟨⟨_, _, ok_l_right F_l_right T G_l_won G_told G_l_sorted G_l_behind G_l_most, PySem.W.mg_of X G a_l_right, k_l_right, b_l_right⟩⟩
  have G_l_number : Cal l.prog w K mg base CX0 1 "_law_number" ["_law_cell", "_law_at", "_law_whole_here"] (Fn3 K (α := Int) (β := Int) (γ := Int) (δ := Int) (fun cell at_ _ => Bt 1048576 cell ∧ 0 ≤ at_ ∧ at_ ≤ 100000) lawNumber) := ⟨⟨_, _, ok_l_number F_l_number T , PySem.W.mg_of X G a_l_number, k_l_number, b_l_number⟩⟩
  have G_row_of : Cal l.prog w K mg base CX0 1 "row_of" ["pair"] (Fn1N K (α := Int × Int) (β := Int) Sq rowOf) := ⟨⟨_, _, ok_row_of F_row_of T , PySem.W.mg_of X G a_row_of, k_row_of, b_row_of⟩⟩
  have G_shortest : Cal l.prog w K mg base CX0 4 "shortest" ["pair"] (Fn1 K (α := (Int × Int)) (β := Int) Sq shortOf) := ⟨⟨_, _, ok_shortest F_shortest T G_asked_pair G_row_of, PySem.W.mg_of X G a_shortest, k_shortest, b_shortest⟩⟩
  have G_longest : Cal l.prog w K mg base CX0 4 "longest" ["pair"] (Fn1 K (α := (Int × Int)) (β := Int) Sq longOf) := ⟨⟨_, _, ok_longest F_longest T G_asked_pair G_row_of, PySem.W.mg_of X G a_longest, k_longest, b_longest⟩⟩
  exact ok_law F_law T G_l_number G_l_right G_l_lengths G_shortest G_longest
theorem walk {l : PySem.W.OpenLaw} {q : Program} {loose : List Str} {XP : (Str → Option Value) → Heap → Prop} {YP : World → Heap → Prop} {d : DefRec} {K : Params → PySem.W.Frag} (hn : l.most = some 63) (hdf : d.params.defaults = [])
    (hY : ∀ (w : World) (h : Heap), YP w h → (K w.params).In h)
    (F : ∀ (w : World) (mg : Str → Option Value) (fa : Addr) (h : Heap), (K w.params).In h → h.Ns mainGlobals mg → mg d.name = some (.ref fa) →
      ∃ fd : FuncData, (∀ (s : Shared) (u : Value), BindsTo s fd ⟨[u], []⟩ [("_law_script", u)]) ∧ ∀ base : Heap, (K w.params).In base → base.Ns mainGlobals mg → FnOk l.prog w (K w.params) mg base CX0 37 fa fd ["_law_script"] (FnZ (K w.params) (fun s => (∀ z ∈ s.l, Bt 1048576 z) ∧ s.l.length ≤ 63))) :
    PySem.W.WalkO q loose XP YP l.row.toRowW d [] (fun f vs => PySem.call f vs) :=
  L2.walk_ofB (n := 63) (k := 37) (x := "_law_script") (CX := fun _ => CX0) (sp := fun w => (FnZ (K w.params) (fun s => (∀ z ∈ s.l, Bt 1048576 z) ∧ s.l.length ≤ 63))) hn (by decide) hdf ⟨rfl, by decide, by decide⟩ hY F (fun w H a ns hl hb _ hS => ⟨.ref a, ⟨ns⟩, rfl, ⟨a, rfl, hS⟩, ⟨fun z hz => Bt.of_bits (hb z hz), hl⟩, fun u H' r => r⟩) fun _ _ _ _ _ z => z
end Mt
open PySem PySem.W PyProof.Rows
set_option maxRecDepth 100000 in
set_option maxHeartbeats 0 in
theorem PySem.Challenge.cw_manytimes_k03_tried_holds : PySem.Challenge.rw_manytimes_k03_tried.Holds := by
  w_on; o_law; k_head; (case hw => w_witness2)
  k_fill
  refine Mt.walk (l := PySem.Challenge.rw_manytimes_k03_tried) rfl rfl (fun w h Y => PySem.W.kIn_of Y) ?F
  case F =>
    intro w mg fa h KX G hmg
    refine' Mt.all_mk KX G hmg ?C_is_number ?C_is_pair ?C_asked_pair ?C_most_of ?C_taken_of ?C_worth_of ?C_asked_pairs ?C_sum_of ?C_times_to ?C_told ?C_l_most ?C_l_behind ?C_l_sorted ?C_l_won ?C_l_lengths ?C_l_right ?C_l_number ?C_row_of ?C_shortest ?C_longest ?C_law ?z_all ?z_bool ?z_enumerate ?z_int ?z_isinstance ?z_len ?z_list ?z_max ?z_min ?z_range ?z_sorted ?z_sum ?z_tuple ?g_MOST ?aA ?aL ?aW ?pL1 ?pL2 ?pL3 ?pL4 ?pL5 ?pL6 ?pW1 ?pW2 ?pW3 ?pW4 ?pW5 ?pW6 ?pC1 ?pC2 ?mL1 ?mL2 ?mL3 ?mW1 ?mW3 ?nA ?nT ?kLA ?kLL ?kLW ?kWA ?kWL ?kWW ?M_W_init
    (case C_is_number => (refine' Mt.funIn_mk ?a ?l ?c ?k; (case a => k_is); (case l => k_is); (case c => k_is); (case k => k_is)))
    (case C_is_pair => (refine' Mt.funIn_mk ?a ?l ?c ?k; (case a => k_is); (case l => k_is); (case c => k_is); (case k => k_is)))
    (case C_asked_pair => (refine' Mt.funIn_mk ?a ?l ?c ?k; (case a => k_is); (case l => k_is); (case c => k_is); (case k => k_is)))
    (case C_most_of => (refine' Mt.funIn_mk ?a ?l ?c ?k; (case a => k_is); (case l => k_is); (case c => k_is); (case k => k_is)))
    (case C_taken_of => (refine' Mt.funIn_mk ?a ?l ?c ?k; (case a => k_is); (case l => k_is); (case c => k_is); (case k => k_is)))
    (case C_worth_of => (refine' Mt.funIn_mk ?a ?l ?c ?k; (case a => k_is); (case l => k_is); (case c => k_is); (case k => k_is)))
    (case C_asked_pairs => (refine' Mt.funIn_mk ?a ?l ?c ?k; (case a => k_is); (case l => k_is); (case c => k_is); (case k => k_is)))
    (case C_sum_of => (refine' Mt.funIn_mk ?a ?l ?c ?k; (case a => k_is); (case l => k_is); (case c => k_is); (case k => k_is)))
    (case C_times_to => (refine' Mt.funIn_mk ?a ?l ?c ?k; (case a => k_is); (case l => k_is); (case c => k_is); (case k => k_is)))
    (case C_told => (refine' Mt.funIn_mk ?a ?l ?c ?k; (case a => k_is); (case l => k_is); (case c => k_is); (case k => k_is)))
    (case C_l_most => (refine' Mt.funIn_mk ?a ?l ?c ?k; (case a => k_is); (case l => k_is); (case c => k_is); (case k => k_is)))
    (case C_l_behind => (refine' Mt.funIn_mk ?a ?l ?c ?k; (case a => k_is); (case l => k_is); (case c => k_is); (case k => k_is)))
    (case C_l_sorted => (refine' Mt.funIn_mk ?a ?l ?c ?k; (case a => k_is); (case l => k_is); (case c => k_is); (case k => k_is)))
    (case C_l_won => (refine' Mt.funIn_mk ?a ?l ?c ?k; (case a => k_is); (case l => k_is); (case c => k_is); (case k => k_is)))
    (case C_l_lengths => (refine' Mt.funIn_mk ?a ?l ?c ?k; (case a => k_is); (case l => k_is); (case c => k_is); (case k => k_is)))
    (case C_l_right => (refine' Mt.funIn_mk ?a ?l ?c ?k; (case a => k_is); (case l => k_is); (case c => k_is); (case k => k_is)))
    (case C_l_number => (refine' Mt.funIn_mk ?a ?l ?c ?k; (case a => k_is); (case l => k_is); (case c => k_is); (case k => k_is)))
    (case C_row_of => (refine' Mt.funIn_mk ?a ?l ?c ?k; (case a => k_is); (case l => k_is); (case c => k_is); (case k => k_is)))
    (case C_shortest => (refine' Mt.funIn_mk ?a ?l ?c ?k; (case a => k_is); (case l => k_is); (case c => k_is); (case k => k_is)))
    (case C_longest => (refine' Mt.funIn_mk ?a ?l ?c ?k; (case a => k_is); (case l => k_is); (case c => k_is); (case k => k_is)))
    (case C_law => (refine' Mt.funIn_mk ?a ?l ?c ?k; (case a => k_is); (case l => k_is); (case c => k_is); (case k => k_is)))
    (case z_all => k_is)
    (case z_bool => k_is)
    (case z_enumerate => k_is)
    (case z_int => k_is)
    (case z_isinstance => k_is)
    (case z_len => k_is)
    (case z_list => k_is)
    (case z_max => k_is)
    (case z_min => k_is)
    (case z_range => k_is)
    (case z_sorted => k_is)
    (case z_sum => k_is)
    (case z_tuple => k_is)
    (case g_MOST => k_is)
    (case aA => k_is)
    (case aL => k_is)
    (case aW => k_is)
    (case pL1 => k_is)
    (case pL2 => k_is)
    (case pL3 => k_is)
    (case pL4 => k_is)
    (case pL5 => k_is)
    (case pL6 => k_is)
    (case pW1 => k_is)
    (case pW2 => k_is)
    (case pW3 => k_is)
    (case pW4 => k_is)
    (case pW5 => k_is)
    (case pW6 => k_is)
    (case pC1 => k_is)
    (case pC2 => k_is)
    (case mL1 => k_is)
    (case mL2 => k_is)
    (case mL3 => k_is)
    (case mW1 => k_is)
    (case mW3 => k_is)
    (case nA => k_is)
    (case nT => k_is)
    (case kLA => kit_is)
    (case kLL => kit_is)
    (case kLW => kit_is)
    (case kWA => kit_is)
    (case kWL => kit_is)
    (case kWW => kit_is)
    (case M_W_init => (refine' Mt.methIn_mk ?a ?i ?l ?c ?k; (case a => k_is); (case i => k_is); (case l => k_is); (case c => k_is); (case k => k_is)))
#print axioms PySem.Challenge.cw_manytimes_k03_tried_holds
