import PyProof.Rows.All
import Wide.All
import OpenK.AllK
import Wide.FinOn
import HandS.ForMost
import HandS.Evl
import HandS.Style
import HandS.Wide
import HandS.IsInst
import HandS.EndBits
import HandS.Walk
import KE.RegKIsAll
import HandS.ExcIs
import HandS.ExcOwn
import HandS.WordsExc
import PySem.Challenge.RW_manytimes_k06_refused
set_option Elab.async false
set_option linter.all false
set_option maxRecDepth 100000
set_option maxHeartbeats 4000000
namespace Mt
open PySem PySem.Spec L2 Evl PyProof.Rows

/-! ### plain values as they stand in the heap -/
class Rep (K : PySem.W.Frag) (α : Type) where
  rep : Hp → V → α → Prop
  mono : ∀ {H H' : Hp} {v : V} {a : α}, Ex H H' → rep H v a → rep H' v a
abbrev rep (K : PySem.W.Frag) {α : Type} [Rep K α] (H : Hp) (v : V) (a : α) : Prop := Rep.rep K H v a
theorem rmono {K : PySem.W.Frag} {α : Type} [Rep K α] {H H' : Hp} {v : V} {a : α} (e : Ex H H') (h : rep K H v a) : rep K H' v a := Rep.mono e h
instance repInt {K : PySem.W.Frag} : Rep K Int := ⟨fun _ v a => v = .int a, fun _ h => h⟩
instance repBool {K : PySem.W.Frag} : Rep K Bool := ⟨fun _ v a => v = .bl a, fun _ h => h⟩
instance repUnit {K : PySem.W.Frag} : Rep K Unit := ⟨fun _ v _ => v = .non, fun _ h => h⟩
instance repStr {K : PySem.W.Frag} : Rep K Str := ⟨fun _ v a => v = .str a, fun _ h => h⟩
instance repProd {K : PySem.W.Frag} {α β : Type} [Rep K α] [Rep K β] : Rep K (α × β) where
  rep := fun H v a => ∃ (p : Addr) (x y : V), v = .ref p ∧ H p = some (.tup [x, y]) ∧ rep K H x a.1 ∧ rep K H y a.2
  mono := fun e ⟨p, x, y, h1, h2, h3, h4⟩ => ⟨p, x, y, h1, e p _ h2, rmono e h3, rmono e h4⟩
theorem pmono {K : PySem.W.Frag} {α : Type} [Rep K α] {H H' : Hp} (e : Ex H H') {vs : List V} {xs : List α} (h : Paired (rep K H) vs xs) : Paired (rep K H') vs xs := Paired.mapP h fun _ _ q => rmono e q
instance repList {K : PySem.W.Frag} {α : Type} [Rep K α] : Rep K (List α) where
  rep := fun H v a => ∃ (p : Addr) (vs : List V), v = .ref p ∧ H p = some (.lst vs) ∧ Paired (rep K H) vs a
  mono := fun e ⟨p, vs, h1, h2, h3⟩ => ⟨p, vs, h1, e p _ h2, pmono e h3⟩
/-- values that hold no list, dict or object: they stand whatever is written -/
class RepT (K : PySem.W.Frag) (α : Type) [Rep K α] : Prop where
  stab : ∀ {H : Hp} {l : Addr} {o : HO} {v : V} {a : α}, (∀ xs, H l ≠ some (.tup xs)) → rep K H v a → rep K (upd H l o) v a
instance {K : PySem.W.Frag} : RepT K Int := ⟨fun _ h => h⟩
instance {K : PySem.W.Frag} : RepT K Bool := ⟨fun _ h => h⟩
instance {K : PySem.W.Frag} : RepT K Unit := ⟨fun _ h => h⟩
instance {K : PySem.W.Frag} : RepT K Str := ⟨fun _ h => h⟩
theorem tup_ne {H : Hp} {l p : Addr} {xs : List V} (hn : ∀ xs, H l ≠ some (.tup xs)) (h : H p = some (.tup xs)) : p ≠ l := fun e => hn xs (e ▸ h)
instance {K : PySem.W.Frag} {α β : Type} [Rep K α] [Rep K β] [RepT K α] [RepT K β] : RepT K (α × β) where
  stab := fun hn ⟨p, x, y, h1, h2, h3, h4⟩ => ⟨p, x, y, h1, by rw [upd_ne (tup_ne hn h2)]; exact h2, RepT.stab hn h3, RepT.stab hn h4⟩
theorem not_tup_lst {H : Hp} {l : Addr} {ys : List V} (h : H l = some (.lst ys)) : ∀ xs, H l ≠ some (.tup xs) := fun xs e => by rw [h] at e; cases e
theorem pstab {K : PySem.W.Frag} {α : Type} [Rep K α] [RepT K α] {H : Hp} {l : Addr} {o : HO} (hn : ∀ xs, H l ≠ some (.tup xs)) {vs : List V} {xs : List α} (h : Paired (rep K H) vs xs) : Paired (rep K (upd H l o)) vs xs := Paired.mapP h fun _ _ q => RepT.stab hn q
/-- a tuple whose items are of one kind -/
structure Tu (α : Type) where
  l : List α
instance repTu {K : PySem.W.Frag} {α : Type} [Rep K α] : Rep K (Tu α) where
  rep := fun H v a => ∃ (p : Addr) (vs : List V), v = .ref p ∧ H p = some (.tup vs) ∧ Paired (rep K H) vs a.l
  mono := fun e ⟨p, vs, h1, h2, h3⟩ => ⟨p, vs, h1, e p _ h2, pmono e h3⟩
/-- the script: a list of ints that may be frozen -/
structure Scr where
  l : List Int
instance repScr {K : PySem.W.Frag} : Rep K Scr where
  rep := fun H v a => ∃ p : Addr, v = .ref p ∧ SqL K H p (a.l.map V.int)
  mono := fun e ⟨p, h1, h2⟩ => ⟨p, h1, ex_l e h2⟩
theorem paired_ints {K : PySem.W.Frag} {H : Hp} : ∀ {vs : List V} {ns : List Int}, Paired (rep K H) vs ns → vs = ns.map V.int
  | _, _, .nil => rfl
  | _, _, .cons (b := n) h t => by
    have h : _ = V.int n := h
    rw [List.map_cons, ← paired_ints t, h]
theorem ints_paired {K : PySem.W.Frag} {H : Hp} : ∀ ns : List Int, Paired (rep K H) (ns.map V.int) ns
  | [] => .nil
  | _ :: ns => .cons rfl (ints_paired ns)
theorem paired_bls {K : PySem.W.Frag} {H : Hp} : ∀ {vs : List V} {ns : List Bool}, Paired (rep K H) vs ns → vs = ns.map V.bl
  | _, _, .nil => rfl
  | _, _, .cons (b := n) h t => by
    have h : _ = V.bl n := h
    rw [List.map_cons, ← paired_bls t, h]
theorem paired_get {α β : Type} {F : α → β → Prop} : ∀ {xs : List α} {ys : List β}, Paired F xs ys → ∀ {i : Nat} {y : β}, ys[i]? = some y → ∃ x, xs[i]? = some x ∧ F x y
  | _, _, .nil, _, _, h => by simp at h
  | _, _, .cons r t, 0, y, h => by
    have e := Option.some.inj h
    subst e
    exact ⟨_, rfl, r⟩
  | _, _, .cons r t, i + 1, y, h => by
    obtain ⟨x, h1, h2⟩ := paired_get t (i := i) (y := y) (by simpa using h)
    exact ⟨x, by simpa using h1, h2⟩
theorem paired_get' {α β : Type} {F : α → β → Prop} : ∀ {xs : List α} {ys : List β}, Paired F xs ys → ∀ {i : Nat} {x : α}, xs[i]? = some x → ∃ y, ys[i]? = some y ∧ F x y
  | _, _, .nil, _, _, h => by simp at h
  | _, _, .cons r t, 0, y, h => by
    have e := Option.some.inj h
    subst e
    exact ⟨_, rfl, r⟩
  | _, _, .cons r t, i + 1, y, h => by
    obtain ⟨x, h1, h2⟩ := paired_get' t (i := i) (x := y) (by simpa using h)
    exact ⟨x, by simpa using h1, h2⟩
theorem paired_append {α β : Type} {F : α → β → Prop} : ∀ {xs xs' : List α} {ys ys' : List β}, Paired F xs ys → Paired F xs' ys' → Paired F (xs ++ xs') (ys ++ ys')
  | _, _, _, _, .nil, s => s
  | _, _, _, _, .cons r t, s => .cons r (paired_append t s)
theorem paired_take {α β : Type} {F : α → β → Prop} : ∀ {xs : List α} {ys : List β} (n : Nat), Paired F xs ys → Paired F (xs.take n) (ys.take n)
  | _, _, 0, _ => .nil
  | _, _, _ + 1, .nil => .nil
  | _, _, n + 1, .cons r t => .cons r (paired_take n t)
theorem paired_drop {α β : Type} {F : α → β → Prop} : ∀ {xs : List α} {ys : List β} (n : Nat), Paired F xs ys → Paired F (xs.drop n) (ys.drop n)
  | _, _, 0, h => h
  | _, _, _ + 1, .nil => .nil
  | _, _, n + 1, .cons r t => paired_drop n t
theorem paired_reverse {α β : Type} {F : α → β → Prop} : ∀ {xs : List α} {ys : List β}, Paired F xs ys → Paired F xs.reverse ys.reverse
  | _, _, .nil => .nil
  | _, _, .cons r t => by rw [List.reverse_cons, List.reverse_cons]; exact paired_append (paired_reverse t) (.cons r .nil)
theorem paired_set {α β : Type} {F : α → β → Prop} {x : α} {y : β} (r : F x y) : ∀ {xs : List α} {ys : List β} (i : Nat), Paired F xs ys → Paired F (xs.set i x) (ys.set i y)
  | _, _, _, .nil => .nil
  | _, _, 0, .cons _ t => .cons r t
  | _, _, i + 1, .cons q t => .cons q (paired_set r i t)
theorem paired_rep {α β : Type} {F : α → β → Prop} {xs : List α} {ys : List β} (h : Paired F xs ys) : ∀ k : Nat, Paired F (List.replicate k xs).flatten (List.replicate k ys).flatten
  | 0 => .nil
  | k + 1 => by
    rw [List.replicate_succ, List.replicate_succ, List.flatten_cons, List.flatten_cons]
    exact paired_append h (paired_rep h k)

theorem int_beq (i j : Int) : (i == j) = decide (i = j) := by by_cases h : i = j <;> simp [h]
theorem bool_beq (i j : Bool) : (i == j) = decide (i = j) := by cases i <;> cases j <;> rfl
/-! ### what a reading gives -/
def EvR (K : PySem.W.Frag) {α : Type} [Rep K α] (te : TE) (σ : L2.St) (H : Hp) (a : α) : Prop := ∀ H1, Ex H H1 → ∀ Q : VK, (∀ v H2, Ex H1 H2 → rep K H2 v a → Q v H2) → te σ H1 Q
/-- a list that is new: its own address -/
def EvN (K : PySem.W.Frag) {α : Type} [Rep K α] (te : TE) (σ : L2.St) (H : Hp) (a : List α) : Prop := ∀ H1, Ex H H1 → ∀ Q : VK, (∀ p vs H2, H1 p = none → Ex H1 H2 → H2 p = some (.lst vs) → Paired (rep K H2) vs a → Q (.ref p) H2) → te σ H1 Q
/-- arguments -/
def EvLs (K : PySem.W.Frag) {α : Type} [Rep K α] (ta : TA) (σ : L2.St) (H : Hp) (as : List α) : Prop := ∀ H1, Ex H H1 → ∀ Q : List V → Hp → Prop, (∀ vs H2, Ex H1 H2 → Paired (rep K H2) vs as → Q vs H2) → ta σ H1 Q
section
variable {K : PySem.W.Frag} {σ : L2.St} {H H' : Hp} {ta tb tc te : TE} {t u : TT} {α β γ : Type} [Rep K α] [Rep K β] [Rep K γ] {a : α} {b : β}
theorem EvR.mono (e : Ex H H') (h : EvR K te σ H a) : EvR K te σ H' a := fun H1 e1 Q q => h H1 (e.trans e1) Q q
theorem evr_var {i : Nat} {v : V} (h : σ[i]? = some (some v)) (r : rep K H v a) : EvR K (tVar i) σ H a := fun H1 e Q q => ⟨v, h, q v H1 (Ex.refl _) (rmono e r)⟩
theorem evr_varI {i : Nat} {n : Int} (h : σ[i]? = some (some (.int n))) : EvR K (tVar i) σ H n := evr_var h rfl
theorem evr_c {v : V} (r : ∀ H, rep K H v a) : EvR K (tC v) σ H a := fun H1 _ Q q => q v H1 (Ex.refl _) (r H1)
theorem evr_int (i : Int) : EvR K (tC (.int i)) σ H i := fun H1 _ Q q => q _ H1 (Ex.refl _) rfl
theorem evr_bl (i : Bool) : EvR K (tC (.bl i)) σ H i := fun H1 _ Q q => q _ H1 (Ex.refl _) rfl
theorem evr_non : EvR K (tC .non) σ H () := fun H1 _ Q q => q _ H1 (Ex.refl _) rfl
theorem evr_is {a' : α} (h : EvR K te σ H a) (e : a = a') : EvR K te σ H a' := e ▸ h
theorem EvR.ev {i : Int} (h : EvR K te σ H i) : Ev te σ H (.int i) := fun H1 e Q q => h H1 e Q fun v H2 e2 r => by
  have r : v = V.int i := r
  subst r
  exact q H2 e2
theorem EvR.evb {i : Bool} (h : EvR K te σ H i) : Ev te σ H (.bl i) := fun H1 e Q q => h H1 e Q fun v H2 e2 r => by
  have r : v = V.bl i := r
  subst r
  exact q H2 e2
theorem evr_of {i : Int} (h : Ev te σ H (.int i)) : EvR K te σ H i := fun H1 e Q q => h H1 e Q fun H2 e2 => q _ H2 e2 rfl
theorem evr_ofb {i : Bool} (h : Ev te σ H (.bl i)) : EvR K te σ H i := fun H1 e Q q => h H1 e Q fun H2 e2 => q _ H2 e2 rfl
/-- operators on ints -/
theorem evr_opI {C : Int → Int → Prop} {g : Int → Int → Int} {i j : Int} (ha : EvR K ta σ H i) (hb : EvR K tb σ H j) (hc : C i j) : EvR K (tOp (rI C fun i j => .int (g i j)) ta tb) σ H (g i j) :=
  evr_of (ev_op ha.ev hb.ev (rv_I hc))
theorem evr_op0 {g : Int → Int → Int} {i j : Int} (ha : EvR K ta σ H i) (hb : EvR K tb σ H j) : EvR K (tOp (rI0 fun i j => .int (g i j)) ta tb) σ H (g i j) :=
  evr_of (ev_op ha.ev hb.ev rv_I0)
theorem evr_cmp {g : Int → Int → Bool} {i j : Int} (ha : EvR K ta σ H i) (hb : EvR K tb σ H j) : EvR K (tOp (rI0 fun i j => .bl (g i j)) ta tb) σ H (g i j) :=
  evr_ofb (ev_op ha.ev hb.ev rv_I0)
theorem evr_add {i j : Int} (ha : EvR K ta σ H i) (hb : EvR K tb σ H j) : EvR K (tOp (rI0 fun i j => .int (i + j)) ta tb) σ H (i + j) := evr_op0 (g := fun i j => i + j) ha hb
theorem evr_sub {i j : Int} (ha : EvR K ta σ H i) (hb : EvR K tb σ H j) : EvR K (tOp (rI0 fun i j => .int (i - j)) ta tb) σ H (i - j) := evr_op0 (g := fun i j => i - j) ha hb
theorem evr_mul {C : Int → Int → Prop} {i j : Int} (ha : EvR K ta σ H i) (hb : EvR K tb σ H j) (hc : C i j) : EvR K (tOp (rI C fun i j => .int (i * j)) ta tb) σ H (i * j) := evr_opI (g := fun i j => i * j) ha hb hc
theorem evr_div {C : Int → Int → Prop} {i j : Int} (ha : EvR K ta σ H i) (hb : EvR K tb σ H j) (hc : C i j) : EvR K (tOp (rI C fun i j => .int (i / j)) ta tb) σ H (i / j) := evr_opI (g := fun i j => i / j) ha hb hc
theorem evr_mod {C : Int → Int → Prop} {i j : Int} (ha : EvR K ta σ H i) (hb : EvR K tb σ H j) (hc : C i j) : EvR K (tOp (rI C fun i j => .int (i % j)) ta tb) σ H (i % j) := evr_opI (g := fun i j => i % j) ha hb hc
theorem evr_pow {C : Int → Int → Prop} {i j : Int} (ha : EvR K ta σ H i) (hb : EvR K tb σ H j) (hc : C i j) : EvR K (tOp (rI C fun i j => .int (i ^ j.toNat)) ta tb) σ H (i ^ j.toNat) := evr_opI (g := fun i j => i ^ j.toNat) ha hb hc
theorem evr_neg {i : Int} (ha : EvR K ta σ H i) : EvR K (tUn (rU fun i => .int (-i)) ta) σ H (-i) := evr_of (ev_un ha.ev ru_neg)
theorem evr_lt {i j : Int} (ha : EvR K ta σ H i) (hb : EvR K tb σ H j) : EvR K (tOp (rI0 fun i j => .bl (decide (i < j))) ta tb) σ H (decide (i < j)) := evr_cmp (g := fun i j => decide (i < j)) ha hb
theorem evr_le {i j : Int} (ha : EvR K ta σ H i) (hb : EvR K tb σ H j) : EvR K (tOp (rI0 fun i j => .bl (decide (i ≤ j))) ta tb) σ H (decide (i ≤ j)) := evr_cmp (g := fun i j => decide (i ≤ j)) ha hb
theorem evr_gt {i j : Int} (ha : EvR K ta σ H i) (hb : EvR K tb σ H j) : EvR K (tOp (rI0 fun i j => .bl (decide (j < i))) ta tb) σ H (decide (j < i)) := evr_cmp (g := fun i j => decide (j < i)) ha hb
theorem evr_ge {i j : Int} (ha : EvR K ta σ H i) (hb : EvR K tb σ H j) : EvR K (tOp (rI0 fun i j => .bl (decide (j ≤ i))) ta tb) σ H (decide (j ≤ i)) := evr_cmp (g := fun i j => decide (j ≤ i)) ha hb
theorem evr_eqI {i j : Int} (ha : EvR K ta σ H i) (hb : EvR K tb σ H j) : EvR K (tOp rEq ta tb) σ H (decide (i = j)) := by
  have h := ev_op ha.ev hb.ev (rv_eq (H := H) (x := V.int i) (y := V.int j) rfl)
  rw [dec_int, int_beq] at h
  exact evr_ofb h
theorem evr_neI {i j : Int} (ha : EvR K ta σ H i) (hb : EvR K tb σ H j) : EvR K (tOp rNe ta tb) σ H (!decide (i = j)) := by
  have h := ev_op ha.ev hb.ev (rv_ne (H := H) (x := V.int i) (y := V.int j) rfl)
  rw [dec_int, int_beq] at h
  exact evr_ofb h
theorem evr_eqB {i j : Bool} (ha : EvR K ta σ H i) (hb : EvR K tb σ H j) : EvR K (tOp rEq ta tb) σ H (decide (i = j)) := by
  have h := ev_op ha.evb hb.evb (rv_eq (H := H) (x := V.bl i) (y := V.bl j) rfl)
  rw [dec_bl, bool_beq] at h
  exact evr_ofb h
theorem evr_neB {i j : Bool} (ha : EvR K ta σ H i) (hb : EvR K tb σ H j) : EvR K (tOp rNe ta tb) σ H (!decide (i = j)) := by
  have h := ev_op ha.evb hb.evb (rv_ne (H := H) (x := V.bl i) (y := V.bl j) rfl)
  rw [dec_bl, bool_beq] at h
  exact evr_ofb h
theorem evr_isB {i j : Bool} (ha : EvR K ta σ H i) (hb : EvR K tb σ H j) : EvR K (tOp rIsB ta tb) σ H (decide (i = j)) := evr_ofb (ev_op ha.evb hb.evb fun H1 _ Q q => ⟨i, j, rfl, rfl, q H1 (Ex.refl _)⟩)
theorem evr_notB {i j : Bool} (ha : EvR K ta σ H i) (hb : EvR K tb σ H j) : EvR K (tOp rNotB ta tb) σ H (!decide (i = j)) := evr_ofb (ev_op ha.evb hb.evb fun H1 _ Q q => ⟨i, j, rfl, rfl, q H1 (Ex.refl _)⟩)
/-- a chain of two comparisons of ints -/
theorem evr_chain {g g' : Int → Int → Bool} {i j k : Int} (ha : EvR K ta σ H i) (hb : EvR K tb σ H j) (hc : g i j = true → EvR K tc σ H k) :
    EvR K (tChain (rI0 fun i j => .bl (g i j)) (rI0 fun i j => .bl (g' i j)) ta tb tc) σ H (g i j && g' j k) := evr_ofb fun H1 e Q q => ha.ev H1 e _ fun H2 e2 => hb.ev H2 (e.trans e2) _ fun H3 e3 => ⟨i, j, rfl, rfl, g i j, rfl, by
  cases hg : g i j with
  | true =>
    rw [if_pos rfl]
    refine (hc hg).ev H3 ((e.trans e2).trans e3) _ fun H4 e4 => ⟨j, k, rfl, rfl, ?_⟩
    have q' := q H4 ((e2.trans e3).trans e4)
    rw [hg, Bool.true_and] at q'
    exact q'
  | false =>
    rw [if_neg Bool.false_ne_true]
    have q' := q H3 (e2.trans e3)
    rw [hg, Bool.false_and] at q'
    exact q'⟩
theorem evr_andV {x y : Bool} (h1 : EvR K ta σ H x) (h2 : x = true → EvR K tb σ H y) : EvR K (tAndV ta tb) σ H (x && y) := evr_ofb (ev_andV h1.evb fun h => (h2 h).evb)
theorem evr_orV {x y : Bool} (h1 : EvR K ta σ H x) (h2 : x = false → EvR K tb σ H y) : EvR K (tOrV ta tb) σ H (x || y) := evr_ofb (ev_orV h1.evb fun h => (h2 h).evb)
theorem evr_notV {x : Bool} (h1 : EvR K ta σ H x) : EvR K (tNotV ta) σ H (!x) := evr_ofb (ev_notV h1.evb)
theorem evt_test {x : Bool} (h : EvR K te σ H x) : EvT (tTest te) σ H x := et_test h.evb
theorem evt_B {x : Bool} (h : EvR K te σ H x) : EvT (tB te) σ H x := et_B h.evb
theorem evr_if {x : Bool} {a1 a2 : α} (h : EvT t σ H x) (h1 : x = true → EvR K ta σ H a1) (h2 : x = false → EvR K tb σ H a2) : EvR K (tIf t ta tb) σ H (if x = true then a1 else a2) := fun H1 e Q q => h H1 e _ fun H2 e2 => by
  cases x with
  | true =>
    show ta σ H2 Q
    exact h1 rfl H2 (e.trans e2) Q fun v H3 e3 r => q v H3 (e2.trans e3) r
  | false =>
    show tb σ H2 Q
    exact h2 rfl H2 (e.trans e2) Q fun v H3 e3 r => q v H3 (e2.trans e3) r
/-- pairs -/
theorem evr_tup (ha : EvR K ta σ H a) (hb : EvR K tb σ H b) : EvR K (tTup (tCons ta (tCons tb tNil))) σ H (a, b) := fun H1 e Q q => ha H1 e _ fun x H2 e2 rx => hb H2 (e.trans e2) _ fun y H3 e3 ry =>
  ⟨by show 2 ≤ sizeLine; decide, fun p hp => q _ _ ((e2.trans e3).trans (Ex.new hp)) ⟨p, x, y, rfl, upd_same, rmono (e3.trans (Ex.new hp)) rx, rmono (Ex.new hp) ry⟩⟩
theorem evr_fst {ab : α × β} (ha : EvR K ta σ H ab) : EvR K (tOp (rIxT K) ta (tC (.int 0))) σ H ab.1 := fun H1 e Q q => ha H1 e _ fun v H2 e2 ⟨p, x, y, ev, hp, r1, r2⟩ =>
  ⟨p, [x, y], 0, x, ev, rfl, SqT.of hp, rfl, q _ H2 e2 r1⟩
theorem evr_snd {ab : α × β} (ha : EvR K ta σ H ab) : EvR K (tOp (rIxT K) ta (tC (.int 1))) σ H ab.2 := fun H1 e Q q => ha H1 e _ fun v H2 e2 ⟨p, x, y, ev, hp, r1, r2⟩ =>
  ⟨p, [x, y], 1, y, ev, rfl, SqT.of hp, rfl, q _ H2 e2 r2⟩
/-- items in a row -/
theorem els_nil : EvLs K tNil σ H ([] : List α) := fun H1 _ Q q => q _ H1 (Ex.refl _) .nil
theorem els_cons {tr : TA} {as : List α} (h : EvR K ta σ H a) (hr : EvLs K tr σ H as) : EvLs K (tCons ta tr) σ H (a :: as) := fun H1 e Q q => h H1 e _ fun v H2 e2 r => hr H2 (e.trans e2) _ fun vs H3 e3 rs =>
  q _ H3 (e2.trans e3) (.cons (rmono e3 r) rs)
theorem evr_tu {tl : TA} {as : List α} (h : EvLs K tl σ H as) (hz : as.length ≤ 100000) : EvR K (tTup tl) σ H (Tu.mk as) := fun H1 e Q q => h H1 e _ fun vs H2 e2 rs =>
  ⟨sz_of (by rw [rs.length]; exact hz), fun p hp => q _ _ (e2.trans (Ex.new hp)) ⟨p, vs, rfl, upd_same, pmono (Ex.new hp) rs⟩⟩
theorem evn_list {tl : TA} {as : List α} (h : EvLs K tl σ H as) (hz : as.length ≤ 100000) : EvN K (tLst tl) σ H as := fun H1 e Q q => h H1 e _ fun vs H2 e2 rs =>
  ⟨sz_of (by rw [rs.length]; exact hz), fun p hp => q p vs _ (fresh_back e2 hp) (e2.trans (Ex.new hp)) upd_same (pmono (Ex.new hp) rs)⟩
theorem evr_n {as : List α} (h : EvN K te σ H as) : EvR K te σ H as := fun H1 e Q q => h H1 e Q fun p vs H2 _ e2 hp rs => q _ H2 e2 ⟨p, vs, rfl, hp, rs⟩
theorem evr_list {tl : TA} {as : List α} (h : EvLs K tl σ H as) (hz : as.length ≤ 100000) : EvR K (tLst tl) σ H as := evr_n (evn_list h hz)
theorem evr_ixL {as : List α} {i : Int} {x : α} (ha : EvR K ta σ H as) (hb : EvR K tb σ H i) (h0 : 0 ≤ i) (hx : as[i.toNat]? = some x) : EvR K (tOp (rIxL K) ta tb) σ H x := fun H1 e Q q => ha H1 e _ fun v H2 e2 r => hb H2 (e.trans e2) _ fun u H3 e3 ru => by
  obtain ⟨p, vs, ev, hp, rs⟩ := rmono e3 r
  obtain ⟨z, hz, rz⟩ := paired_get rs hx
  have hat : atI vs i = some z := by
    have := atI_nat hz
    rw [Int.toNat_of_nonneg h0] at this
    exact this
  exact ⟨p, vs, i, z, ev, ru, SqL.of hp, hat, q _ H3 (e2.trans e3) rz⟩
theorem evr_ixU {as : List α} {i : Int} {x : α} (ha : EvR K ta σ H (Tu.mk as)) (hb : EvR K tb σ H i) (h0 : 0 ≤ i) (hx : as[i.toNat]? = some x) : EvR K (tOp (rIxT K) ta tb) σ H x := fun H1 e Q q => ha H1 e _ fun v H2 e2 r => hb H2 (e.trans e2) _ fun u H3 e3 ru => by
  obtain ⟨p, vs, ev, hp, rs⟩ := rmono e3 r
  obtain ⟨z, hz, rz⟩ := paired_get rs hx
  have hat : atI vs i = some z := by
    have := atI_nat hz
    rw [Int.toNat_of_nonneg h0] at this
    exact this
  exact ⟨p, vs, i, z, ev, ru, SqT.of hp, hat, q _ H3 (e2.trans e3) rz⟩
/-- len -/
theorem evr_lenL {as : List α} (ha : EvR K ta σ H as) : EvR K (tCB (rLenS K) (tCons ta tNil)) σ H (as.length : Int) := fun H1 e Q q => ha H1 e _ fun v H2 e2 ⟨p, vs, ev, hp, rs⟩ =>
  ⟨p, vs, by rw [ev], .inl (SqL.of hp), q _ H2 e2 (by show V.int _ = V.int _; rw [rs.length])⟩
theorem evr_lenP {ab : α × β} (ha : EvR K ta σ H ab) : EvR K (tCB (rLenS K) (tCons ta tNil)) σ H (2 : Int) := fun H1 e Q q => ha H1 e _ fun v H2 e2 ⟨p, x, y, ev, hp, rs⟩ =>
  ⟨p, [x, y], by rw [ev], .inr (SqT.of hp), q _ H2 e2 rfl⟩
/-- list(xs) -/
theorem evn_listS {as : List α} (ha : EvR K ta σ H as) : EvN K (tCB (rListS K) (tCons ta tNil)) σ H as := fun H1 e Q q => ha H1 e _ fun v H2 e2 ⟨p, vs, ev, hp, rs⟩ =>
  ⟨p, vs, by rw [ev], .inl (SqL.of hp), fun l hl => q l vs _ (fresh_back e2 hl) (e2.trans (Ex.new hl)) upd_same (pmono (Ex.new hl) rs)⟩
/-- slices -/
def cutA {α : Type} (xs : List α) (lo hi : Option Int) : List α := (xs.drop (HT.sIx xs.length 0 lo)).take (HT.sIx xs.length xs.length hi - HT.sIx xs.length 0 lo)
theorem evn_sl {tl th : TO} {as : List α} {lo hi : Option Int} (ha : EvR K ta σ H as) (h1 : EvO tl σ H lo) (h2 : EvO th σ H hi) : EvN K (tSl (rSlL K) ta tl th) σ H (cutA as lo hi) := fun H1 e Q q =>
  ha H1 e _ fun v H2 e2 r => h1 H2 (e.trans e2) _ fun H3 e3 => h2 H3 ((e.trans e2).trans e3) _ fun H4 e4 => by
    obtain ⟨p, vs, ev, hp, rs⟩ := rmono (e3.trans e4) r
    refine ⟨p, vs, ev, SqL.of hp, fun l hl => q l _ _ (fresh_back ((e2.trans e3).trans e4) hl) (((e2.trans e3).trans e4).trans (Ex.new hl)) upd_same ?_⟩
    have hl : vs.length = as.length := rs.length
    unfold cutV cutA
    rw [hl]
    exact paired_take _ (paired_drop _ (pmono (Ex.new ‹_›) rs))
theorem evn_slS {tl th : TO} {as : Scr} {lo hi : Option Int} (ha : EvR K ta σ H as) (h1 : EvO tl σ H lo) (h2 : EvO th σ H hi) : EvN K (tSl (rSlL K) ta tl th) σ H (cutA as.l lo hi) := fun H1 e Q q =>
  ha H1 e _ fun v H2 e2 r => h1 H2 (e.trans e2) _ fun H3 e3 => h2 H3 ((e.trans e2).trans e3) _ fun H4 e4 => by
    obtain ⟨p, ev, hp⟩ := rmono (e3.trans e4) r
    refine ⟨p, _, ev, hp, fun l hl => q l _ _ (fresh_back ((e2.trans e3).trans e4) hl) (((e2.trans e3).trans e4).trans (Ex.new hl)) upd_same ?_⟩
    unfold cutV cutA
    rw [List.length_map]
    exact paired_take _ (paired_drop _ (ints_paired _))
theorem evo_none : EvO tNoPart σ H none := eo_none
theorem evo_some {i : Int} (h : EvR K te σ H i) : EvO (tPart te) σ H (some i) := eo_some h.ev
theorem cutA_to {α : Type} (xs : List α) (n : Nat) : cutA xs none (some (n : Int)) = xs.take n := by
  unfold cutA
  rw [HT.sIx_none, HT.sIx_nat]
  simp only [List.drop_zero, Nat.sub_zero]
  rcases Nat.le_total n xs.length with h | h
  · rw [Nat.min_eq_left h]
  · rw [Nat.min_eq_right h, List.take_length, List.take_of_length_le h]
theorem cutA_from {α : Type} (xs : List α) (n : Nat) : cutA xs (some (n : Int)) none = xs.drop n := by
  unfold cutA
  rw [HT.sIx_none, HT.sIx_nat]
  rcases Nat.le_total n xs.length with h | h
  · rw [Nat.min_eq_left h, List.take_of_length_le (by rw [List.length_drop]; omega)]
  · rw [Nat.min_eq_right h, List.drop_length, List.drop_of_length_le h, List.take_nil]
theorem evn_rev {as : List α} (ha : EvR K ta σ H as) : EvN K (tRevL K ta) σ H as.reverse := fun H1 e Q q => ha H1 e _ fun v H2 e2 ⟨p, vs, ev, hp, rs⟩ =>
  ⟨p, vs, ev, SqL.of hp, fun l hl => q l _ _ (fresh_back e2 hl) (e2.trans (Ex.new hl)) upd_same (pmono (Ex.new hl) (paired_reverse rs))⟩
theorem evn_cat {as bs : List α} (ha : EvR K ta σ H as) (hb : EvR K tb σ H bs) (hz : as.length + bs.length ≤ 100000) : EvN K (tOp rCat ta tb) σ H (as ++ bs) := fun H1 e Q q => ha H1 e _ fun v H2 e2 r => hb H2 (e.trans e2) _ fun u H3 e3 ⟨p', vs', ev', hp', rs'⟩ => by
  obtain ⟨p, vs, ev, hp, rs⟩ := rmono e3 r
  refine ⟨p, p', vs, vs', ev, ev', hp, hp', sz_of ?_, fun l hl => q l _ _ (fresh_back (e2.trans e3) hl) ((e2.trans e3).trans (Ex.new hl)) upd_same (paired_append (pmono (Ex.new hl) rs) (pmono (Ex.new hl) rs'))⟩
  have h1 : vs.length = as.length := rs.length
  have h2 : vs'.length = bs.length := rs'.length
  rw [h1, h2]
  exact hz
theorem evn_rep {as : List α} {k : Int} (ha : EvR K ta σ H as) (hb : EvR K tb σ H k) (h0 : 0 ≤ k ∧ k ≤ 100000) (hz : as.length * k.toNat ≤ 100000) : EvN K (tOp rRep ta tb) σ H (List.replicate k.toNat as).flatten := fun H1 e Q q => ha H1 e _ fun v H2 e2 r => hb H2 (e.trans e2) _ fun u H3 e3 ru => by
  obtain ⟨p, vs, ev, hp, rs⟩ := rmono e3 r
  refine ⟨p, k, vs, ev, ru, hp, by omega, by omega, sz_of ?_, fun l hl => q l _ _ (fresh_back (e2.trans e3) hl) ((e2.trans e3).trans (Ex.new hl)) upd_same (paired_rep (pmono (Ex.new hl) rs) _)⟩
  have h1 : vs.length = as.length := rs.length
  rw [h1]
  exact hz
/-- sum, all -/
theorem evr_sum {ns : List Int} (ha : EvR K ta σ H ns) : EvR K (tCB (rSum K) (tCons ta tNil)) σ H ns.sum := fun H1 e Q q => ha H1 e _ fun v H2 e2 ⟨p, vs, ev, hp, rs⟩ =>
  ⟨p, ns, by rw [ev], by rw [← paired_ints rs]; exact SqL.of hp, q _ H2 e2 rfl⟩
theorem evr_all {bs : List Bool} (ha : EvR K ta σ H bs) : EvR K (tCB (rAll K) (tCons ta tNil)) σ H (bs.all id) := fun H1 e Q q => ha H1 e _ fun v H2 e2 ⟨p, vs, ev, hp, rs⟩ =>
  ⟨p, bs, by rw [ev], by rw [← paired_bls rs]; exact SqL.of hp, q _ H2 e2 rfl⟩
theorem evr_max2 {i j : Int} (ha : EvR K ta σ H i) (hb : EvR K tb σ H j) : EvR K (tCB (fun xs H Q => ∃ i j, xs = [.int i, .int j] ∧ Q (.int (if j > i then j else i)) H) (tCons ta (tCons tb tNil))) σ H (max i j) := by
  have e : max i j = if j > i then j else i := by split <;> omega
  rw [e]
  exact evr_of (ev_max2 ha.ev hb.ev)
theorem evr_min2 {i j : Int} (ha : EvR K ta σ H i) (hb : EvR K tb σ H j) : EvR K (tCB (fun xs H Q => ∃ i j, xs = [.int i, .int j] ∧ Q (.int (if j < i then j else i)) H) (tCons ta (tCons tb tNil))) σ H (min i j) := by
  have e : min i j = if j < i then j else i := by split <;> omega
  rw [e]
  exact evr_of fun H1 e Q q => ha.ev H1 e _ fun H2 e2 => hb.ev H2 (e.trans e2) _ fun H3 e3 => ⟨i, j, rfl, q H3 (e2.trans e3)⟩
end

/-! ### max, min of a pair -/
section
variable {prog : Program} {w : World} {A : Around} {E : Value → Shared → Prop} {s : Shared} {l : Addr} {its : List Value} {ns : List Int} {Q : Value → Shared → Prop}
theorem iter_tupA (hl : s.heap.IsTuple l its.toArray)
    (h : ∀ s₂ : Shared, s₂ = { s with heap := s.heap.push { cls := .type "tuple_iterator", data := .fields #[.ref l, .int 0 0] } } →
      (s₂.heap.IsTupleIter s.heap.objs.size l 0 ∧ s₂.heap.IsTuple l its.toArray) → (∀ b ∈ [s.heap.objs.size, l], b < s₂.heap.objs.size) → l ≠ s.heap.objs.size → Q (.ref s.heap.objs.size) s₂) :
    wpAny (model prog w) A (pyIter (.ref l)) Q E s := by
  have hlt : l < s.heap.objs.size := by obtain ⟨_, e, _⟩ := hl; exact Heap.lt_size e
  refine wpAny_pyIter_tuple hl (h _ rfl ⟨⟨_, Heap.get?_push_size _ rfl, rfl, rfl⟩, hl.push _⟩ (fun b hb => ?_) (Nat.ne_of_lt hlt))
  show b < (s.heap.push _).objs.size
  rw [Heap.size_push]
  rcases List.mem_cons.mp hb with rfl | hb
  · exact Nat.lt_succ_self _
  · rcases List.mem_cons.mp hb with rfl | hb
    · exact Nat.lt_succ_of_lt hlt
    · cases hb
theorem kept_tupA {h' : Heap} (hk : ∀ b o, b ∉ [s.heap.objs.size] → (s.heap.push { cls := .type "tuple_iterator", data := .fields #[.ref l, .int 0 0] }).get? b = some o → h'.get? b = some o) :
    ∀ b o, s.heap.get? b = some o → h'.get? b = some o := fun b o e => by
  refine hk b o (fun hm => ?_) (Heap.get?_push_of_some _ e)
  rcases List.mem_cons.mp hm with e1 | hm
  · exact absurd (e1 ▸ Heap.lt_size e) (Nat.lt_irrefl _)
  · cases hm
end
def rMaxP (K : PySem.W.Frag) : List V → Hp → VK → Prop := fun vs H Q => ∃ (p : Addr) (i j : Int), vs = [.ref p] ∧ H p = some (.tup [.int i, .int j]) ∧ Q (.int (max i j)) H
def rMinP (K : PySem.W.Frag) : List V → Hp → VK → Prop := fun vs H Q => ∃ (p : Addr) (i j : Int), vs = [.ref p] ∧ H p = some (.tup [.int i, .int j]) ∧ Q (.int (min i j)) H
section
variable {X : Cx}
theorem best_two (P : Nat → Nat → Bool) : argBest P (2 - 1) = if P 1 0 = true then 1 else 0 := rfl
theorem call_maxP (hc : X.calm = true) : CallR X (.builtin "max") (rMaxP X.K) := by
  intro pins s σ H vs us Q I r h
  obtain ⟨p, i, j, rfl, hp, q⟩ := h
  obtain ⟨_, its, rv, ht⟩ := (show ObjOk X.prog X.w H s.heap p (.tup [.int i, .int j]) from I.hok p _ hp)
  rw [Vals.ref1 r]
  obtain ⟨t, u, rfl⟩ := Vals.int2 rv
  obtain ⟨o, h1, h2, n, h3⟩ := ht
  refine call_max_walk (iter_tupA (l := p) (its := [Value.int i t, Value.int j u]) ⟨o, h1, h2, n, h3⟩ fun s2 e2 st hfp hl => ?_)
  subst e2
  have hval : ∀ (k : Nat) (v : Value), (#[Value.int i t, Value.int j u] : Array Value)[k]? = some v → ∃ z, v = .int (if k = 1 then j else i) z := fun k v hk => by
    match k, hk with
    | 0, hk => exact ⟨t, by simpa using hk.symm⟩
    | 1, hk => exact ⟨u, by simpa using hk.symm⟩
    | k + 2, hk => simp at hk
  refine ⟨_, _, _, _, _, _, _, rfl, Walks.tuple (A := X.A.in1) (I.ok.hd hc) _ p hl #[Value.int i t, Value.int j u], st, hfp, by simp, CmpOf.ints_gt (fun k => if k = 1 then j else i) hval, fun v h' tk hP hk => ?_⟩
  obtain ⟨z, rfl⟩ := hval _ v hP
  refine ⟨.int (max i j), H, I.kept (kept_tupA hk), ⟨z, ?_⟩, q⟩
  show Value.int (if argBest (fun a b => decide ((if a = 1 then j else i) > (if b = 1 then j else i))) (2 - 1) = 1 then j else i) z = Value.int (max i j) z
  rw [best_two]
  by_cases c : j > i
  · simp [c]; omega
  · simp [c]; omega
theorem call_minP (hc : X.calm = true) : CallR X (.builtin "min") (rMinP X.K) := by
  intro pins s σ H vs us Q I r h
  obtain ⟨p, i, j, rfl, hp, q⟩ := h
  obtain ⟨_, its, rv, ht⟩ := (show ObjOk X.prog X.w H s.heap p (.tup [.int i, .int j]) from I.hok p _ hp)
  rw [Vals.ref1 r]
  obtain ⟨t, u, rfl⟩ := Vals.int2 rv
  obtain ⟨o, h1, h2, n, h3⟩ := ht
  refine call_min_walk (iter_tupA (l := p) (its := [Value.int i t, Value.int j u]) ⟨o, h1, h2, n, h3⟩ fun s2 e2 st hfp hl => ?_)
  subst e2
  have hval : ∀ (k : Nat) (v : Value), (#[Value.int i t, Value.int j u] : Array Value)[k]? = some v → ∃ z, v = .int (if k = 1 then j else i) z := fun k v hk => by
    match k, hk with
    | 0, hk => exact ⟨t, by simpa using hk.symm⟩
    | 1, hk => exact ⟨u, by simpa using hk.symm⟩
    | k + 2, hk => simp at hk
  refine ⟨_, _, _, _, _, _, _, rfl, Walks.tuple (A := X.A.in1) (I.ok.hd hc) _ p hl #[Value.int i t, Value.int j u], st, hfp, by simp, CmpOf.ints_lt (fun k => if k = 1 then j else i) hval, fun v h' tk hP hk => ?_⟩
  obtain ⟨z, rfl⟩ := hval _ v hP
  refine ⟨.int (min i j), H, I.kept (kept_tupA hk), ⟨z, ?_⟩, q⟩
  show Value.int (if argBest (fun a b => decide ((if a = 1 then j else i) < (if b = 1 then j else i))) (2 - 1) = 1 then j else i) z = Value.int (min i j) z
  rw [best_two]
  by_cases c : j < i
  · simp [c]; omega
  · simp [c]; omega
theorem op_mulX : OpR X (binaryOp .Mult) (rI IntMulOk fun i j => .int (i * j)) := opI fun _ _ _ _ _ _ _ hc q => mul_int q hc
/-- // where the divisor is positive and the model's division does not go by its slow road -/
def CDivX (i j : Int) : Prop := 0 < j ∧ Builtin.divisionGoesByPylong i j = false
theorem op_fdivX : OpR X (binaryOp .FloorDiv) (rI CDivX fun i j => .int (i / j)) := opI fun i j _ _ _ _ _ hc q => by
  have h1 : (0 : Int) < j := hc.1
  exact floordiv_int (by omega) (by rw [Int.fdiv_eq_ediv_of_nonneg i (by omega)]; exact q) (.inl hc.2)
end
section
variable {K : PySem.W.Frag} {σ : L2.St} {H : Hp} {ta : TE}
theorem evr_maxP {p : Int × Int} (ha : EvR K ta σ H p) : EvR K (tCB (rMaxP K) (tCons ta tNil)) σ H (max p.1 p.2) := fun H1 e Q q => ha H1 e _ fun v H2 e2 ⟨a, x, y, ev, hp, r1, r2⟩ => by
  have r1 : x = V.int p.1 := r1
  have r2 : y = V.int p.2 := r2
  subst r1 r2
  exact ⟨a, p.1, p.2, by rw [ev], hp, q _ H2 e2 rfl⟩
theorem evr_minP {p : Int × Int} (ha : EvR K ta σ H p) : EvR K (tCB (rMinP K) (tCons ta tNil)) σ H (min p.1 p.2) := fun H1 e Q q => ha H1 e _ fun v H2 e2 ⟨a, x, y, ev, hp, r1, r2⟩ => by
  have r1 : x = V.int p.1 := r1
  have r2 : y = V.int p.2 := r2
  subst r1 r2
  exact ⟨a, p.1, p.2, by rw [ev], hp, q _ H2 e2 rfl⟩
end

/-! ### promises of defs -/
section
variable {K : PySem.W.Frag} {σ : L2.St} {H : Hp} {ta tb tc te : TE} {α β γ δ : Type} [Rep K α] [Rep K β] [Rep K γ] [Rep K δ]
def Fn1 (K : PySem.W.Frag) {α β : Type} [Rep K α] [Rep K β] (pre : α → Prop) (f : α → β) : Sp := fun vs H Q _ => ∃ v a, vs = [v] ∧ rep K H v a ∧ pre a ∧ ∀ u H', Ex H H' → rep K H' u (f a) → Q u H'
def Fn2 (K : PySem.W.Frag) {α β γ : Type} [Rep K α] [Rep K β] [Rep K γ] (pre : α → β → Prop) (f : α → β → γ) : Sp := fun vs H Q _ => ∃ v w a b, vs = [v, w] ∧ rep K H v a ∧ rep K H w b ∧ pre a b ∧ ∀ u H', Ex H H' → rep K H' u (f a b) → Q u H'
def Fn3 (K : PySem.W.Frag) {α β γ δ : Type} [Rep K α] [Rep K β] [Rep K γ] [Rep K δ] (pre : α → β → γ → Prop) (f : α → β → γ → δ) : Sp := fun vs H Q _ => ∃ v w z a b c, vs = [v, w, z] ∧ rep K H v a ∧ rep K H w b ∧ rep K H z c ∧ pre a b c ∧ ∀ u H', Ex H H' → rep K H' u (f a b c) → Q u H'
theorem evr_call1 {pre : α → Prop} {f : α → β} {E : XK} {a : α} (ha : EvR K ta σ H a) (hp : pre a) : EvR K (tCall (Fn1 K pre f) [] E (tCons ta tNil)) σ H (f a) := fun H1 e Q q => ha H1 e _ fun v H2 e2 r =>
  ⟨v, a, rfl, r, hp, fun u H3 e3 ru => q u H3 (e2.trans e3) ru⟩
theorem evr_call2 {pre : α → β → Prop} {f : α → β → γ} {E : XK} {a : α} {b : β} (ha : EvR K ta σ H a) (hb : EvR K tb σ H b) (hp : pre a b) : EvR K (tCall (Fn2 K pre f) [] E (tCons ta (tCons tb tNil))) σ H (f a b) := fun H1 e Q q => ha H1 e _ fun v H2 e2 r =>
  hb H2 (e.trans e2) _ fun w H3 e3 r3 => ⟨v, w, a, b, rfl, rmono e3 r, r3, hp, fun u H4 e4 ru => q u H4 ((e2.trans e3).trans e4) ru⟩
theorem evr_call3 {pre : α → β → γ → Prop} {f : α → β → γ → δ} {E : XK} {a : α} {b : β} {c : γ} (ha : EvR K ta σ H a) (hb : EvR K tb σ H b) (hc : EvR K tc σ H c) (hp : pre a b c) : EvR K (tCall (Fn3 K pre f) [] E (tCons ta (tCons tb (tCons tc tNil)))) σ H (f a b c) := fun H1 e Q q => ha H1 e _ fun v H2 e2 r =>
  hb H2 (e.trans e2) _ fun w H3 e3 r3 => hc H3 ((e.trans e2).trans e3) _ fun z H4 e4 r4 => ⟨v, w, z, a, b, c, rfl, rmono (e3.trans e4) r, rmono e4 r3, r4, hp, fun u H5 e5 ru => q u H5 (((e2.trans e3).trans e4).trans e5) ru⟩
theorem Fn1.len {pre : α → Prop} {f : α → β} {vs : List V} {H : Hp} {Q : VK} {E : XK} (h : Fn1 K pre f vs H Q E) : vs.length = 1 := by obtain ⟨v, a, rfl, _⟩ := h; rfl
theorem Fn2.len {pre : α → β → Prop} {f : α → β → γ} {vs : List V} {H : Hp} {Q : VK} {E : XK} (h : Fn2 K pre f vs H Q E) : vs.length = 2 := by obtain ⟨v, w, a, b, rfl, _⟩ := h; rfl
theorem Fn3.len {pre : α → β → γ → Prop} {f : α → β → γ → δ} {vs : List V} {H : Hp} {Q : VK} {E : XK} (h : Fn3 K pre f vs H Q E) : vs.length = 3 := by obtain ⟨v, w, z, a, b, c, rfl, _⟩ := h; rfl
end
/-- a def that may be called by its name -/
structure Cal (P : Program) (w : World) (K : PySem.W.Frag) (mg : Str → Option Value) (base : Heap) (CX : CXT) (k : Nat) (x : Str) (ps : List Str) (sp : Sp) : Prop where
  ex : ∃ (f : Addr) (fd : FuncData), FnOk P w K mg base CX k f fd ps sp ∧ mg x = some (.ref f) ∧ PySem.W.keepIn K (.ref f) = true ∧ Binds K fd ps []
section
variable {X : Cx} {k : Nat} {x : Str} {ps : List Str} {sp : Sp} {e : Expr} {es : List Expr} {t : TA} {p pos : Pos}
theorem pe_cal (C : Cal X.prog X.w X.K X.mg X.base CX0 k x ps sp) (hr : Room k X.A) (hg : Gl X x) (ha : PA X (e :: es) t) (hdb : (x == ("__debug__" : Str)) = false := by decide)
    (he : starEach (e :: es) X.env = (false, eval e X.env) :: starEach es X.env := by rfl) (hpl : (backTo pos (starEach es X.env)).any (·.1) = false := by rfl) : PE X (.Call (.Name x p) (e :: es) [] pos) (tCall sp [] E0 t) := by
  obtain ⟨f, fd, F, hm, hk, hb⟩ := C.ex
  exact pe_call F hr hg hm hk hb .nil pass0 ha hdb he hpl
theorem pe_cal0 (C : Cal X.prog X.w X.K X.mg X.base CX0 k x ps sp) (hr : Room k X.A) (hg : Gl X x) (hdb : (x == ("__debug__" : Str)) = false := by decide) : PE X (.Call (.Name x p) [] [] pos) (tCall sp [] E0 tNil) := by
  obtain ⟨f, fd, F, hm, hk, hb⟩ := C.ex
  exact pe_call0 F hr hg hm hk hb .nil pass0 hdb
end

/-! ### statements -/
section
variable {K : PySem.W.Frag} {σ : L2.St} {H H' : Hp} {ta tb tc te : TE} {t u : TT} {α β γ : Type} [Rep K α] [Rep K β] [Rep K γ] {a : α} {b : β} {D : Ends} {tu tw tz : TS} {g : TG} {i j : Nat}
theorem r_asg (h : EvR K te σ H a) (k : ∀ v H1, Ex H H1 → rep K H1 v a → tz D (σ.set i (some v)) H1) : tSeq (tAsg te (gName i)) tz D σ H := h H (Ex.refl H) _ fun v H1 e r => k v H1 e r
theorem r_asg1 (h : EvR K te σ H a) (k : ∀ v H1, Ex H H1 → rep K H1 v a → D.nx (σ.set i (some v)) H1) : tAsg te (gName i) D σ H := h H (Ex.refl H) _ fun v H1 e r => k v H1 e r
theorem r_asgN {as : List α} (h : EvN K te σ H as) (k : ∀ p vs H1, H p = none → Ex H H1 → H1 p = some (.lst vs) → Paired (rep K H1) vs as → tz D (σ.set i (some (.ref p))) H1) : tSeq (tAsg te (gName i)) tz D σ H :=
  h H (Ex.refl H) _ fun p vs H1 hp e h1 rs => k p vs H1 hp e h1 rs
theorem r_asgN1 {as : List α} (h : EvN K te σ H as) (k : ∀ p vs H1, H p = none → Ex H H1 → H1 p = some (.lst vs) → Paired (rep K H1) vs as → D.nx (σ.set i (some (.ref p))) H1) : tAsg te (gName i) D σ H :=
  h H (Ex.refl H) _ fun p vs H1 hp e h1 rs => k p vs H1 hp e h1 rs
theorem r_ret (h : EvR K te σ H a) (k : ∀ v H1, Ex H H1 → rep K H1 v a → D.rt v H1) : tRet te D σ H := h H (Ex.refl H) _ k
theorem r_drop (h : EvR K te σ H a) (k : ∀ H1, Ex H H1 → tz D σ H1) : tSeq (tDrop te) tz D σ H := h H (Ex.refl H) _ fun v H1 e _ => k H1 e
theorem r_drop1 (h : EvR K te σ H a) (k : ∀ H1, Ex H H1 → D.nx σ H1) : tDrop te D σ H := h H (Ex.refl H) _ fun v H1 e _ => k H1 e
/-- if a test that is never so: .. -/
theorem r_guard {b : Bool} (h : EvT t σ H b) (hb : b = false) (k : ∀ H1, Ex H H1 → tz D σ H1) : tSeq (tIfS t tu tNext) tz D σ H := q_when h (fun c => by rw [hb] at c; cases c) fun _ H1 e => k H1 e
theorem r_guard1 {b : Bool} (h : EvT t σ H b) (hb : b = false) (k : ∀ H1, Ex H H1 → D.nx σ H1) : tIfS t tu tNext D σ H := s_when h (fun c => by rw [hb] at c; cases c) fun _ H1 e => k H1 e
theorem r_par (ha : EvR K ta σ H a) (hb : EvR K tb σ H b) (k : ∀ v w H1, Ex H H1 → rep K H1 v a → rep K H1 w b → tz D ((σ.set i (some v)).set j (some w)) H1) : tSeq (tPar i j (tCons ta (tCons tb tNil))) tz D σ H :=
  ha H (Ex.refl H) _ fun v H1 e r => hb H1 e _ fun w H2 e2 r2 => ⟨v, w, rfl, k v w H2 (e.trans e2) (rmono e2 r) r2⟩
theorem r_par1 (ha : EvR K ta σ H a) (hb : EvR K tb σ H b) (k : ∀ v w H1, Ex H H1 → rep K H1 v a → rep K H1 w b → D.nx ((σ.set i (some v)).set j (some w)) H1) : tPar i j (tCons ta (tCons tb tNil)) D σ H :=
  ha H (Ex.refl H) _ fun v H1 e r => hb H1 e _ fun w H2 e2 r2 => ⟨v, w, rfl, k v w H2 (e.trans e2) (rmono e2 r) r2⟩
/-- a, b = a pair -/
theorem r_unp {ab : α × β} (h : EvR K te σ H ab) (k : ∀ v w H1, Ex H H1 → rep K H1 v ab.1 → rep K H1 w ab.2 → tz D ((σ.set i (some v)).set j (some w)) H1) : tSeq (tAsg te (gTup K 2 (gCons (gName i) (gCons (gName j) gNil)))) tz D σ H :=
  h H (Ex.refl H) _ fun v H1 e ⟨p, x, y, ev, hp, r1, r2⟩ => ⟨p, [x, y], ev, SqT.of hp, rfl, x, [y], rfl, y, [], rfl, rfl, k x y H1 e r1 r2⟩
theorem r_unp1 {ab : α × β} (h : EvR K te σ H ab) (k : ∀ v w H1, Ex H H1 → rep K H1 v ab.1 → rep K H1 w ab.2 → D.nx ((σ.set i (some v)).set j (some w)) H1) : tAsg te (gTup K 2 (gCons (gName i) (gCons (gName j) gNil))) D σ H :=
  h H (Ex.refl H) _ fun v H1 e ⟨p, x, y, ev, hp, r1, r2⟩ => ⟨p, [x, y], ev, SqT.of hp, rfl, x, [y], rfl, y, [], rfl, rfl, k x y H1 e r1 r2⟩
/-- for x in xs -/
theorem r_forL {tl : TE} {as : List α} (h : EvR K tl σ H as) (k : ∀ p vs H1, Ex H H1 → H1 p = some (.lst vs) → Paired (rep K H1) vs as → ∃ Pv : Nat → L2.St → Hp → Prop, Pv 0 σ H1 ∧ (∀ n σ' H', Pv n σ' H' → H' p = some (.lst vs) ∧ Paired (rep K H') vs as) ∧
      (∀ n v x σ' H', as[n]? = some x → rep K H' v x → Pv n σ' H' → g v σ' H' fun σ2 H2 => tu { D with nx := Pv (n + 1), ct := Pv (n + 1), bk := tz D } σ2 H2) ∧ (∀ σ' H', Pv as.length σ' H' → tz D σ' H')) : tSeq (tFor (iList K tl) g tu) tz D σ H :=
  h H (Ex.refl H) _ fun v H1 e ⟨p, vs, ev, hp, rs⟩ => by
    obtain ⟨Pv, h0, hk, hs, hd⟩ := k p vs H1 e hp rs
    refine ⟨p, ev, ⟨vs, SqL.of hp⟩, for_list (D := { D with nx := tz D }) Pv h0 (fun n σ' H' _ q => SqL.of (hk n σ' H' q).1) (fun n x σ' H' hx q => ?_) (fun σ' H' q => hd σ' H' (by rw [← rs.length]; exact q))⟩
    obtain ⟨y, hy, ry⟩ := paired_get' (hk n σ' H' q).2 hx
    exact hs n x y σ' H' hy ry q
theorem r_forL1 {tl : TE} {as : List α} (h : EvR K tl σ H as) (k : ∀ p vs H1, Ex H H1 → H1 p = some (.lst vs) → Paired (rep K H1) vs as → ∃ Pv : Nat → L2.St → Hp → Prop, Pv 0 σ H1 ∧ (∀ n σ' H', Pv n σ' H' → H' p = some (.lst vs) ∧ Paired (rep K H') vs as) ∧
      (∀ n v x σ' H', as[n]? = some x → rep K H' v x → Pv n σ' H' → g v σ' H' fun σ2 H2 => tu { D with nx := Pv (n + 1), ct := Pv (n + 1), bk := D.nx } σ2 H2) ∧ (∀ σ' H', Pv as.length σ' H' → D.nx σ' H')) : tFor (iList K tl) g tu D σ H :=
  h H (Ex.refl H) _ fun v H1 e ⟨p, vs, ev, hp, rs⟩ => by
    obtain ⟨Pv, h0, hk, hs, hd⟩ := k p vs H1 e hp rs
    refine ⟨p, ev, ⟨vs, SqL.of hp⟩, for_list Pv h0 (fun n σ' H' _ q => SqL.of (hk n σ' H' q).1) (fun n x σ' H' hx q => ?_) (fun σ' H' q => hd σ' H' (by rw [← rs.length]; exact q))⟩
    obtain ⟨y, hy, ry⟩ := paired_get' (hk n σ' H' q).2 hx
    exact hs n x y σ' H' hy ry q
theorem r_forR1 {n : Int} (h : EvR K ta σ H n) (hn : 0 ≤ n ∧ n ≤ 100000) (k : ∀ H1, Ex H H1 → ∃ Pv : Nat → L2.St → Hp → Prop, Pv 0 σ H1 ∧
      (∀ (m : Nat) σ' H', (m : Int) < n → Pv m σ' H' → tu { D with nx := Pv (m + 1), ct := Pv (m + 1), bk := tz D } (σ'.set j (some (.int (m : Int)))) H') ∧ (∀ σ' H', Pv n.toNat σ' H' → tz D σ' H')) : tSeq (tFor (iRng1 (tCons ta tNil)) (gName j) tu) tz D σ H :=
  h.ev H (Ex.refl H) _ fun H1 e => by
    obtain ⟨Pv, h0, hs, hd⟩ := k H1 e
    refine ⟨n, rfl, by omega, by omega, for_range (D := { D with nx := tz D }) (lo := 0) (n := n.toNat) Pv h0 (fun m σ' H' hm q => ?_) hd⟩
    have e0 : (0 : Int) + (m : Int) = (m : Int) := Int.zero_add _
    show tu { D with nx := Pv (m + 1), ct := Pv (m + 1), bk := tz D } (σ'.set j (some (.int ((0 : Int) + (m : Int))))) H'
    rw [e0]
    exact hs m σ' H' (by omega) q
theorem r_forR11 {n : Int} (h : EvR K ta σ H n) (hn : 0 ≤ n ∧ n ≤ 100000) (k : ∀ H1, Ex H H1 → ∃ Pv : Nat → L2.St → Hp → Prop, Pv 0 σ H1 ∧
      (∀ (m : Nat) σ' H', (m : Int) < n → Pv m σ' H' → tu { D with nx := Pv (m + 1), ct := Pv (m + 1), bk := D.nx } (σ'.set j (some (.int (m : Int)))) H') ∧ (∀ σ' H', Pv n.toNat σ' H' → D.nx σ' H')) : tFor (iRng1 (tCons ta tNil)) (gName j) tu D σ H :=
  h.ev H (Ex.refl H) _ fun H1 e => by
    obtain ⟨Pv, h0, hs, hd⟩ := k H1 e
    refine ⟨n, rfl, by omega, by omega, for_range (lo := 0) (n := n.toNat) Pv h0 (fun m σ' H' hm q => ?_) hd⟩
    have e0 : (0 : Int) + (m : Int) = (m : Int) := Int.zero_add _
    show tu { D with nx := Pv (m + 1), ct := Pv (m + 1), bk := D.nx } (σ'.set j (some (.int ((0 : Int) + (m : Int))))) H'
    rw [e0]
    exact hs m σ' H' (by omega) q
theorem r_forR2 {lo n : Int} (h0 : EvR K ta σ H lo) (h : EvR K tb σ H n) (hn : -100000 ≤ lo ∧ lo ≤ 100000 ∧ -100000 ≤ n ∧ n ≤ 100000) (k : ∀ H1, Ex H H1 → ∃ Pv : Nat → L2.St → Hp → Prop, Pv 0 σ H1 ∧
      (∀ (m : Nat) σ' H', lo + (m : Int) < n → Pv m σ' H' → tu { D with nx := Pv (m + 1), ct := Pv (m + 1), bk := tz D } (σ'.set j (some (.int (lo + (m : Int))))) H') ∧ (∀ σ' H', Pv (n - lo).toNat σ' H' → tz D σ' H')) : tSeq (tFor (iRng2 (tCons ta (tCons tb tNil))) (gName j) tu) tz D σ H :=
  h0.ev H (Ex.refl H) _ fun H1 e => h.ev H1 e _ fun H2 e2 => by
    obtain ⟨Pv, h0, hs, hd⟩ := k H2 (e.trans e2)
    exact ⟨lo, n, rfl, by omega, for_range (D := { D with nx := tz D }) (lo := lo) (n := (n - lo).toNat) Pv h0 (fun m σ' H' hm q => hs m σ' H' (by omega) q) hd⟩
theorem r_forR21 {lo n : Int} (h0 : EvR K ta σ H lo) (h : EvR K tb σ H n) (hn : -100000 ≤ lo ∧ lo ≤ 100000 ∧ -100000 ≤ n ∧ n ≤ 100000) (k : ∀ H1, Ex H H1 → ∃ Pv : Nat → L2.St → Hp → Prop, Pv 0 σ H1 ∧
      (∀ (m : Nat) σ' H', lo + (m : Int) < n → Pv m σ' H' → tu { D with nx := Pv (m + 1), ct := Pv (m + 1), bk := D.nx } (σ'.set j (some (.int (lo + (m : Int))))) H') ∧ (∀ σ' H', Pv (n - lo).toNat σ' H' → D.nx σ' H')) : tFor (iRng2 (tCons ta (tCons tb tNil))) (gName j) tu D σ H :=
  h0.ev H (Ex.refl H) _ fun H1 e => h.ev H1 e _ fun H2 e2 => by
    obtain ⟨Pv, h0, hs, hd⟩ := k H2 (e.trans e2)
    exact ⟨lo, n, rfl, by omega, for_range (lo := lo) (n := (n - lo).toNat) Pv h0 (fun m σ' H' hm q => hs m σ' H' (by omega) q) hd⟩
theorem tyes_i {Q : VK} {N : Hp → Prop} (h : te σ H Q) : tYes σ H fun b H3 => if b = true then te σ H3 Q else N H3 := by
  show if true = true then te σ H Q else N H
  rw [if_pos rfl]
  exact h
/-- [e for x in xs] -/
theorem evn_lcL [RepT K β] {tl : TE} {as : List α} {vs : List Nat} (f : α → β) (h : EvR K tl σ H as) (hz : as.length ≤ 100000) (hw : ∀ v, wipe ((wipe σ vs).set j (some v)) vs = wipe σ vs)
    (he : ∀ (n : Nat) (x : α) (v : V) H1, Ex H H1 → as[n]? = some x → rep K H1 v x → EvR K te ((wipe σ vs).set j (some v)) H1 (f x)) : EvN K (tLc (iList K tl) (gName j) tYes te vs) σ H (as.map f) := fun H0 e Q q => h H0 e _ fun v H1 e1 ⟨p, us, ev, hp, rs⟩ =>
  ⟨p, ev, ⟨us, SqL.of hp⟩, fun Dl hD => lc_list (xs := us) (fun n H' => Ex H1 H' ∧ ∃ acc, H' Dl = some (.lst acc) ∧ Paired (rep K H') acc ((as.take n).map f)) ⟨Ex.new hD, [], upd_same, by rw [List.take_zero]; exact .nil⟩ (fun n H' _ c => SqL.of (c.1 _ _ hp))
    (fun n y H' hy c => by
      obtain ⟨x, hx, rx⟩ := paired_get' rs hy
      obtain ⟨c1, acc, c2, c3⟩ := c
      refine ⟨hw y, ?_⟩
      refine tyes_i ?_
      refine he n x y H' ((e.trans e1).trans c1) hx (rmono c1 rx) H' (Ex.refl _) _ fun z H4 e4 rz => ⟨acc, e4 _ _ c2, sz_lt ?_, Ex.mut (c1.trans e4) hD, _, upd_same, ?_⟩
      · rw [c3.length, List.length_map, List.length_take]
        have := (List.getElem?_eq_some_iff.mp hx).1
        omega
      · have hs : as.take (n + 1) = as.take n ++ [x] := by
          rw [List.take_succ, hx]
          rfl
        have hn := not_tup_lst (e4 _ _ c2)
        rw [hs, List.map_append]
        exact paired_append (pstab hn (pmono e4 c3)) (.cons (RepT.stab hn rz) .nil)) (fun H' c => by
      obtain ⟨c1, acc, c2, c3⟩ := c
      rw [rs.length, List.take_length] at c3
      exact q _ _ _ (fresh_back e1 hD) (e1.trans c1) c2 c3)⟩
/-- [e for i in range(lo, hi)], range(hi) -/
def rangeI (lo hi : Int) : List Int := (List.range (hi - lo).toNat).map fun n : Nat => lo + (n : Int)
theorem rangeI_len (lo hi : Int) : (rangeI lo hi).length = (hi - lo).toNat := by unfold rangeI; rw [List.length_map, List.length_range]
theorem mem_rangeI {lo hi x : Int} : x ∈ rangeI lo hi ↔ lo ≤ x ∧ x < hi := by
  unfold rangeI
  rw [List.mem_map]
  constructor
  · rintro ⟨n, h1, rfl⟩
    have := List.mem_range.mp h1
    omega
  · rintro ⟨h1, h2⟩
    exact ⟨(x - lo).toNat, List.mem_range.mpr (by omega), by omega⟩
theorem lcR_core [RepT K β] {lo hi : Int} {vs : List Nat} (f : Int → β) {H0 : Hp} {Q : VK} (hz : (hi - lo).toNat ≤ 100000) (hw : ∀ v, wipe ((wipe σ vs).set j (some v)) vs = wipe σ vs)
    (he : ∀ (x : Int) H1, Ex H H1 → lo ≤ x → x < hi → EvR K te ((wipe σ vs).set j (some (.int x))) H1 (f x)) (e : Ex H H0) (q : ∀ p us H2, H0 p = none → Ex H0 H2 → H2 p = some (.lst us) → Paired (rep K H2) us ((rangeI lo hi).map f) → Q (.ref p) H2)
    (Dl : Addr) (hD : H0 Dl = none) : ∃ W : Nat → Nat → Hp → Prop, (∃ m, W 0 m (upd H0 Dl (.lst []))) ∧ ∀ i m H, W i m H →
      ((Itr lo (hi - lo).toNat).stop i H ∧ Q (.ref Dl) H) ∨ ((Itr lo (hi - lo).toNat).go i H ∧ ∃ Nx : Hp → Prop, (∀ H', Nx H' → ∃ m', m' < m ∧ W (i + 1) m' H') ∧ ∀ x H', (Itr lo (hi - lo).toNat).yld i H x H' → gName j x (wipe σ vs) H' fun σ2 H2 => wipe σ2 vs = wipe σ vs ∧ tYes σ2 H2 fun b H3 =>
        if b = true then te σ2 H3 fun y H4 => ∃ acc, H4 Dl = some (.lst acc) ∧ acc.length < sizeLine ∧ Nx (upd H4 Dl (.lst (acc ++ [y]))) else Nx H3) := by
  refine lc_range (Qd := Q (.ref Dl)) (fun n H' => Ex H0 H' ∧ ∃ acc, H' Dl = some (.lst acc) ∧ Paired (rep K H') acc (((List.range n).map fun n : Nat => lo + (n : Int)).map f)) ⟨Ex.new hD, [], upd_same, .nil⟩ (fun n H' hn c => ?_) (fun H' c => ?_)
  · obtain ⟨c1, acc, c2, c3⟩ := c
    refine ⟨hw _, ?_⟩
    refine tyes_i ?_
    refine he (lo + (n : Int)) H' (e.trans c1) (by omega) (by omega) H' (Ex.refl _) _ fun z H4 e4 rz => ⟨acc, e4 _ _ c2, sz_lt ?_, Ex.mut (c1.trans e4) hD, _, upd_same, ?_⟩
    · rw [c3.length, List.length_map, List.length_map, List.length_range]
      omega
    · have hnt := not_tup_lst (e4 _ _ c2)
      rw [List.range_succ, List.map_append, List.map_append]
      exact paired_append (pstab hnt (pmono e4 c3)) (.cons (RepT.stab hnt rz) .nil)
  · obtain ⟨c1, acc, c2, c3⟩ := c
    exact q _ _ _ hD c1 c2 c3
theorem evn_lcR2 [RepT K β] {lo hi : Int} {vs : List Nat} (f : Int → β) (h0 : EvR K ta σ H lo) (h : EvR K tb σ H hi) (hz : -100000 ≤ lo ∧ lo ≤ 100000 ∧ -100000 ≤ hi ∧ hi ≤ 100000 ∧ (hi - lo).toNat ≤ 100000) (hw : ∀ v, wipe ((wipe σ vs).set j (some v)) vs = wipe σ vs)
    (he : ∀ (x : Int) H1, Ex H H1 → lo ≤ x → x < hi → EvR K te ((wipe σ vs).set j (some (.int x))) H1 (f x)) : EvN K (tLc (iRng2 (tCons ta (tCons tb tNil))) (gName j) tYes te vs) σ H ((rangeI lo hi).map f) := fun H0 e Q q => h0.ev H0 e _ fun H1 e1 => h.ev H1 (e.trans e1) _ fun H2 e2 =>
  ⟨lo, hi, rfl, by omega, lcR_core f hz.2.2.2.2 hw he ((e.trans e1).trans e2) fun p us H3 hp e3 => q p us H3 (fresh_back (e1.trans e2) hp) ((e1.trans e2).trans e3)⟩
theorem evn_lcR1 [RepT K β] {hi : Int} {vs : List Nat} (f : Int → β) (h : EvR K tb σ H hi) (hz : 0 ≤ hi ∧ hi ≤ 100000) (hw : ∀ v, wipe ((wipe σ vs).set j (some v)) vs = wipe σ vs)
    (he : ∀ (x : Int) H1, Ex H H1 → 0 ≤ x → x < hi → EvR K te ((wipe σ vs).set j (some (.int x))) H1 (f x)) : EvN K (tLc (iRng1 (tCons tb tNil)) (gName j) tYes te vs) σ H ((rangeI 0 hi).map f) := fun H0 e Q q => h.ev H0 e _ fun H2 e2 =>
  ⟨hi, rfl, by omega, by omega, by
    have c := lcR_core (lo := 0) (hi := hi) (Q := Q) f (by omega) hw he (e.trans e2) fun p us H3 hp e3 => q p us H3 (fresh_back e2 hp) (e2.trans e3)
    rw [Int.sub_zero] at c
    exact c⟩
end

/-! ### sizes of ints -/
def Bt (n : Nat) (x : Int) : Prop := x.natAbs < 2 ^ n
theorem Bt.mono {a b : Nat} {x : Int} (h : Bt a x) (hab : a ≤ b) : Bt b x := Nat.lt_of_lt_of_le h (Nat.pow_le_pow_right (by decide) hab)
theorem Bt.mul {a b : Nat} {x y : Int} (hx : Bt a x) (hy : Bt b y) : Bt (a + b) (x * y) := by
  unfold Bt
  rw [Int.natAbs_mul, Nat.pow_add]
  exact Nat.mul_lt_mul'' hx hy
theorem Bt.add {a : Nat} {x y : Int} (hx : Bt a x) (hy : Bt a y) : Bt (a + 1) (x + y) := by
  unfold Bt at *
  rw [Nat.pow_succ]
  omega
theorem Bt.sub {a : Nat} {x y : Int} (hx : Bt a x) (hy : Bt a y) : Bt (a + 1) (x - y) := by
  unfold Bt at *
  rw [Nat.pow_succ]
  omega
theorem Bt.le {a : Nat} {x y : Int} (hy : Bt a y) (h0 : 0 ≤ x) (h : x ≤ y) : Bt a x := Nat.lt_of_le_of_lt (by omega) hy
theorem Bt.log {a : Nat} {x : Int} (h : Bt a x) (h0 : 0 < a) : x.natAbs.log2 < a := PySem.Flt.log2_lt_of h0 h
theorem Bt.bits {a : Nat} {x : Int} (h : Bt a x) : Builtin.Int.intBits x ≤ a := by
  unfold Builtin.Int.intBits
  by_cases c : (x == 0) = true
  · rw [if_pos c]; exact Nat.zero_le _
  · rw [if_neg c]
    have c' : x ≠ 0 := fun e => c (by rw [e]; rfl)
    have ha : 0 < a := by
      rcases Nat.eq_zero_or_pos a with z | z
      · subst z
        have h' : x.natAbs < 1 := h
        omega
      · exact z
    exact h.log ha
theorem Bt.of_bits {a : Nat} {x : Int} (h : Builtin.Int.intBits x ≤ a) : Bt a x := by
  unfold Builtin.Int.intBits at h
  unfold Bt
  by_cases c : (x == 0) = true
  · have c' : x = 0 := by simpa using c
    subst c'
    exact Nat.two_pow_pos a
  · rw [if_neg c] at h
    exact Nat.lt_of_lt_of_le Nat.lt_log2_self (Nat.pow_le_pow_right (by decide) h)
theorem Bt.mulOk {a b : Nat} {x y : Int} (hx : Bt a x) (hy : Bt b y) (h : a + b ≤ 134217728) : IntMulOk x y := by
  have h1 := hx.bits
  have h2 := hy.bits
  have e : bitsLine = 134217728 := by decide
  unfold IntMulOk
  intro z
  rw [Bool.and_eq_true] at z
  have z2 := z.2
  unfold Builtin.Int.intTooBig at z2
  have z3 := of_decide_eq_true z2
  rw [e] at z3
  omega
theorem Bt.divOk {b : Nat} {x y : Int} (h0 : 0 < y) (hy : Bt b y) (hb0 : 0 < b) (hb : b ≤ 9000) : CDivX x y := ⟨h0, PyProof.noPylong_of_log2 (Nat.lt_of_lt_of_le (hy.log hb0) hb)⟩
theorem div_small {x y : Int} (h0 : 0 < y) (h1 : y < 1073741824) : CDivX x y := ⟨h0, PyProof.noPylong_small (by omega)⟩
theorem Bt.small {x : Int} {a : Nat} (n : Nat) (h : 2 ^ a = n) (h1 : x.natAbs < n) : Bt a x := by unfold Bt; rw [h]; exact h1
theorem pow_ok {i j : Int} (h : decide (0 ≤ j ∧ j ≤ 1000000 ∧ i.natAbs < 2 ^ 64) = true := by decide) : CPow i j := (of_decide_eq_true h : 0 ≤ j ∧ j ≤ 1000000 ∧ i.natAbs < 2 ^ 64)

/-! ### types, ==, in -/
class RepTy (K : PySem.W.Frag) (α : Type) [Rep K α] where
  tyn : String
  ty : ∀ {H : Hp} {v : V} {a : α}, rep K H v a → TyX K H v (.type tyn)
instance {K : PySem.W.Frag} : RepTy K Int := ⟨"int", fun {_ v a} h => by
  have h : v = V.int a := h
  subst h
  exact .base (.int _)⟩
instance {K : PySem.W.Frag} : RepTy K Bool := ⟨"bool", fun {_ v a} h => by
  have h : v = V.bl a := h
  subst h
  exact .base (.bl _)⟩
instance {K : PySem.W.Frag} : RepTy K Str := ⟨"str", fun {_ v a} h => by
  have h : v = V.str a := h
  subst h
  exact .base (.str _)⟩
instance {K : PySem.W.Frag} : RepTy K Unit := ⟨"NoneType", fun {_ v a} h => by
  have h : v = V.non := h
  subst h
  exact .base .non⟩
instance {K : PySem.W.Frag} {α β : Type} [Rep K α] [Rep K β] : RepTy K (α × β) := ⟨"tuple", fun {_ v a} ⟨p, x, y, h1, h2, _, _⟩ => by
  subst h1
  exact .base (.tup h2)⟩
instance {K : PySem.W.Frag} {α : Type} [Rep K α] : RepTy K (List α) := ⟨"list", fun {_ v a} ⟨p, xs, h1, h2, _⟩ => by
  subst h1
  exact .base (.lst h2)⟩
instance {K : PySem.W.Frag} {α : Type} [Rep K α] : RepTy K (Tu α) := ⟨"tuple", fun {_ v a} ⟨p, xs, h1, h2, _⟩ => by
  subst h1
  exact .base (.tup h2)⟩
class RepD (K : PySem.W.Frag) (α : Type) [Rep K α] [DecidableEq α] where
  toD : α → PyData
  dep : Nat
  dp : ∀ {H : Hp} {v : V} {a : α}, rep K H v a → Dp K H v (toD a)
  eqv : ∀ a b : α, PyData.eqv (toD a) (toD b) = decide (a = b)
  lay : ∀ a : α, (toD a).canLay0 = true ∧ (toD a).depth ≤ dep
instance {K : PySem.W.Frag} : RepD K Int where
  toD := fun i => .int i
  dep := 1
  dp := fun {_ v a} h => by
    have h : v = V.int a := h
    subst h
    exact .int _
  eqv := fun a b => by simp only [PyData.eqv]; exact int_beq a b
  lay := fun a => ⟨by simp [PyData.canLay0], by simp [PyData.depth]⟩
instance {K : PySem.W.Frag} : RepD K Bool where
  toD := fun i => .bool i
  dep := 1
  dp := fun {_ v a} h => by
    have h : v = V.bl a := h
    subst h
    exact .bl _
  eqv := fun a b => by simp only [PyData.eqv]; exact bool_beq a b
  lay := fun a => ⟨by simp [PyData.canLay0], by simp [PyData.depth]⟩
instance {K : PySem.W.Frag} {α β : Type} [DecidableEq α] [DecidableEq β] [Rep K α] [Rep K β] [RepD K α] [RepD K β] : RepD K (α × β) where
  toD := fun a => .tuple [RepD.toD K a.1, RepD.toD K a.2]
  dep := 1 + RepD.dep K α + RepD.dep K β
  dp := fun {_ v a} ⟨p, x, y, h1, h2, h3, h4⟩ => by
    subst h1
    exact .tup (SqT.of h2) (.cons (RepD.dp h3) (.cons (RepD.dp h4) .nil))
  eqv := fun a b => by
    simp only [PyData.eqv, PyData.eqvAll, RepD.eqv, Bool.and_true]
    rw [← Bool.decide_and]
    apply decide_eq_decide.mpr
    exact ⟨fun h => Prod.ext h.1 h.2, fun h => by rw [h]; exact ⟨rfl, rfl⟩⟩
  lay := fun a => ⟨by
      have h1 := (RepD.lay (K := K) a.1).1
      have h2 := (RepD.lay (K := K) a.2).1
      simp [PyData.canLay0, PyData.canLayAll0, h1, h2], by
      have h1 := (RepD.lay (K := K) a.1).2
      have h2 := (RepD.lay (K := K) a.2).2
      simp only [PyData.depth, PyData.depthAll]
      omega⟩
theorem dpAll {K : PySem.W.Frag} {α : Type} [DecidableEq α] [Rep K α] [RepD K α] {H : Hp} : ∀ {vs : List V} {as : List α}, Paired (rep K H) vs as → DpAll K H vs (as.map (RepD.toD K))
  | _, _, .nil => .nil
  | _, _, .cons r t => .cons (RepD.dp r) (dpAll t)
theorem eqvAll_map {K : PySem.W.Frag} {α : Type} [DecidableEq α] [Rep K α] [RepD K α] : ∀ as bs : List α, PyData.eqvAll (as.map (RepD.toD K)) (bs.map (RepD.toD K)) = decide (as = bs)
  | [], [] => by simp [PyData.eqvAll]
  | [], _ :: _ => by simp [PyData.eqvAll]
  | _ :: _, [] => by simp [PyData.eqvAll]
  | a :: as, b :: bs => by
    simp only [List.map_cons, PyData.eqvAll, RepD.eqv, eqvAll_map (K := K) as bs]
    rw [← Bool.decide_and]
    apply decide_eq_decide.mpr
    exact ⟨fun h => by rw [h.1, h.2], fun h => by injection h with h1 h2; exact ⟨h1, h2⟩⟩
theorem layAll_map {K : PySem.W.Frag} {α : Type} [DecidableEq α] [Rep K α] [RepD K α] : ∀ as : List α, PyData.canLayAll0 (as.map (RepD.toD K)) = true ∧ PyData.depthAll (as.map (RepD.toD K)) ≤ RepD.dep K α
  | [] => ⟨by simp [PyData.canLayAll0], by simp [PyData.depthAll]⟩
  | a :: as => by
    obtain ⟨h1, h2⟩ := layAll_map (K := K) as
    obtain ⟨h3, h4⟩ := RepD.lay (K := K) a
    refine ⟨?_, ?_⟩
    · simp only [List.map_cons, PyData.canLayAll0, h1, h3, Bool.and_true]
    · simp only [List.map_cons, PyData.depthAll]
      omega
instance {K : PySem.W.Frag} {α : Type} [DecidableEq α] [Rep K α] [RepD K α] : RepD K (List α) where
  toD := fun as => .list (as.map (RepD.toD K))
  dep := 1 + RepD.dep K α
  dp := fun {_ v a} ⟨p, xs, h1, h2, h3⟩ => by
    subst h1
    exact .lst (SqL.of h2) (dpAll h3)
  eqv := fun a b => by
    show PyData.eqv (.list _) (.list _) = _
    simp only [PyData.eqv]
    exact eqvAll_map (K := K) a b
  lay := fun a => ⟨by
      have h1 := (layAll_map (K := K) a).1
      simp only [PyData.canLay0]; exact h1, by
      have h2 := (layAll_map (K := K) a).2
      simp only [PyData.depth]
      omega⟩
theorem shaped_of {K : PySem.W.Frag} {α : Type} [DecidableEq α] [Rep K α] [RepD K α] (hd : RepD.dep K α ≤ 64) (a : α) : SeqAt.shaped (RepD.toD K a) = true := by
  obtain ⟨h1, h2⟩ := RepD.lay (K := K) a
  unfold SeqAt.shaped
  rw [h1, decide_eq_true (by omega)] <;> rfl
section
variable {K : PySem.W.Frag} {σ : L2.St} {H H' : Hp} {ta tb tc te : TE} {t u : TT} {α β γ : Type} [Rep K α] [Rep K β] [Rep K γ] {a : α} {b : β} {D : Ends} {tu tw tz : TS} {g : TG} {i j : Nat}
theorem evr_isi [RepTy K α] {tn n : String} {b : Bool} (h : EvR K te σ H a) (ht : RepTy.tyn K α = tn) (hk : kitB tn n = some b) : EvR K (tCB (rIsi K) (tCons te (tCons (tC (.ty n)) tNil))) σ H b := fun H1 e Q q => h H1 e _ fun v H2 e2 r =>
  ⟨v, .ty n, _, _, b, rfl, .ty n, RepTy.ty r, kit_ty (by rw [ht]; exact hk), q _ H2 e2 rfl⟩
theorem evr_eqD [DecidableEq α] [RepD K α] {x y : α} (ha : EvR K ta σ H x) (hb : EvR K tb σ H y) (hd : RepD.dep K α ≤ 64 := by exact Nat.le_of_ble_eq_true rfl) : EvR K (tOp (rEqD K) ta tb) σ H (decide (x = y)) := fun H1 e Q q => ha H1 e _ fun v H2 e2 r => hb H2 (e.trans e2) _ fun w H3 e3 r3 =>
  ⟨_, _, RepD.dp (rmono e3 r), RepD.dp r3, shaped_of hd _, shaped_of hd _, q _ H3 (e2.trans e3) (by show V.bl _ = V.bl _; rw [RepD.eqv])⟩
theorem evr_neD [DecidableEq α] [RepD K α] {x y : α} (ha : EvR K ta σ H x) (hb : EvR K tb σ H y) (hd : RepD.dep K α ≤ 64 := by exact Nat.le_of_ble_eq_true rfl) : EvR K (tOp (rNeD K) ta tb) σ H (!decide (x = y)) := fun H1 e Q q => ha H1 e _ fun v H2 e2 r => hb H2 (e.trans e2) _ fun w H3 e3 r3 =>
  ⟨_, _, RepD.dp (rmono e3 r), RepD.dp r3, shaped_of hd _, shaped_of hd _, q _ H3 (e2.trans e3) (by show V.bl _ = V.bl _; rw [RepD.eqv])⟩
theorem dp_scr {x : Scr} {v : V} (h : rep K H v x) : Dp K H v (RepD.toD K x.l) := by
  obtain ⟨p, ev, hp⟩ := h
  subst ev
  exact .lst hp (dpAll (ints_paired _))
theorem evr_neS {x : Scr} {y : List Int} (ha : EvR K ta σ H x) (hb : EvR K tb σ H y) : EvR K (tOp (rNeD K) ta tb) σ H (!decide (x.l = y)) := fun H1 e Q q => ha H1 e _ fun v H2 e2 r => hb H2 (e.trans e2) _ fun w H3 e3 r3 =>
  ⟨_, _, dp_scr (rmono e3 r), RepD.dp r3, shaped_of (Nat.le_of_ble_eq_true rfl) _, shaped_of (Nat.le_of_ble_eq_true rfl) _, q _ H3 (e2.trans e3) (by show V.bl _ = V.bl _; rw [RepD.eqv])⟩
theorem evr_lenS {as : Scr} (ha : EvR K ta σ H as) : EvR K (tCB (rLenS K) (tCons ta tNil)) σ H (as.l.length : Int) := fun H1 e Q q => ha H1 e _ fun v H2 e2 ⟨p, ev, hp⟩ =>
  ⟨p, _, by rw [ev], .inl hp, q _ H2 e2 (by show V.int _ = V.int _; rw [List.length_map])⟩
theorem inV_ints (i : Int) : ∀ ns : List Int, inV (.int i) (ns.map V.int) = decide (i ∈ ns)
  | [] => by simp [inV]
  | n :: ns => by
    have ih := inV_ints i ns
    unfold inV at ih ⊢
    rw [List.map_cons, List.any_cons, ih]
    have e : eqV (V.int n) (V.int i) = (n == i) := rfl
    rw [e]
    by_cases c : n = i
    · subst c; simp
    · have c2 : ¬ i = n := fun z => c z.symm
      simp [c, c2]
theorem flat_ints : ∀ ns : List Int, (ns.map V.int).all flatV = true
  | [] => rfl
  | _ :: ns => by rw [List.map_cons, List.all_cons, flat_ints ns] <;> rfl
theorem evr_inL {i : Int} {ns : List Int} (ha : EvR K ta σ H i) (hb : EvR K tb σ H ns) : EvR K (tOp (rIn K false) ta tb) σ H (decide (i ∈ ns)) := fun H1 e Q q => ha H1 e _ fun v H2 e2 r => hb H2 (e.trans e2) _ fun w H3 e3 ⟨p, vs, ev, hp, rs⟩ => by
  have r : v = V.int i := r
  subst r
  have hv := paired_ints rs
  subst hv
  exact ⟨p, _, ev, .inl (SqL.of hp), rfl, flat_ints ns, q _ H3 (e2.trans e3) (by show V.bl (inV _ _) = V.bl _; rw [inV_ints])⟩
theorem r_ifAsg {x : Bool} {a1 a2 : α} (h : EvT t σ H x) (h1 : x = true → EvR K te σ H a1) (h2 : x = false → ∃ v, σ[i]? = some (some v) ∧ rep K H v a2) (k : ∀ v H1, Ex H H1 → rep K H1 v (if x = true then a1 else a2) → tz D (σ.set i (some v)) H1) : tSeq (tIfS t (tAsg te (gName i)) tNext) tz D σ H :=
  q_when h (fun c H1 e1 => by
    refine (h1 c) H1 e1 _ fun v H2 e2 r => k v H2 (e1.trans e2) ?_
    rw [if_pos c]
    exact r) (fun c H1 e1 => by
    obtain ⟨v, hv, r⟩ := h2 c
    have q := k v H1 e1 (by rw [if_neg (by rw [c]; decide)]; exact rmono e1 r)
    have es : σ.set i (some v) = σ := by
      obtain ⟨hl, he⟩ := List.getElem?_eq_some_iff.mp hv
      rw [← he]
      exact List.set_getElem_self hl
    rw [es] at q
    exact q)
theorem r_ifAsg1 {x : Bool} {a1 a2 : α} (h : EvT t σ H x) (h1 : x = true → EvR K te σ H a1) (h2 : x = false → ∃ v, σ[i]? = some (some v) ∧ rep K H v a2) (k : ∀ v H1, Ex H H1 → rep K H1 v (if x = true then a1 else a2) → D.nx (σ.set i (some v)) H1) : tIfS t (tAsg te (gName i)) tNext D σ H :=
  s_when h (fun c H1 e1 => by
    refine (h1 c) H1 e1 _ fun v H2 e2 r => k v H2 (e1.trans e2) ?_
    rw [if_pos c]
    exact r) (fun c H1 e1 => by
    obtain ⟨v, hv, r⟩ := h2 c
    have q := k v H1 e1 (by rw [if_neg (by rw [c]; decide)]; exact rmono e1 r)
    have es : σ.set i (some v) = σ := by
      obtain ⟨hl, he⟩ := List.getElem?_eq_some_iff.mp hv
      rw [← he]
      exact List.set_getElem_self hl
    rw [es] at q
    exact q)
/-- for x in script -/
theorem r_forS {tl : TE} {as : Scr} (h : EvR K tl σ H as) (k : ∀ H1, Ex H H1 → ∃ Pv : Nat → L2.St → Hp → Prop, Pv 0 σ H1 ∧ (∀ n σ' H', Pv n σ' H' → Ex H1 H') ∧
      (∀ n v (x : Int) σ' H', as.l[n]? = some x → rep K H' v x → Pv n σ' H' → g v σ' H' fun σ2 H2 => tu { D with nx := Pv (n + 1), ct := Pv (n + 1), bk := tz D } σ2 H2) ∧ (∀ σ' H', Pv as.l.length σ' H' → tz D σ' H')) : tSeq (tFor (iList K tl) g tu) tz D σ H :=
  h H (Ex.refl H) _ fun v H1 e ⟨p, ev, hp⟩ => by
    obtain ⟨Pv, h0, hk, hs, hd⟩ := k H1 e
    refine ⟨p, ev, ⟨_, hp⟩, for_list (D := { D with nx := tz D }) Pv h0 (fun n σ' H' _ q => ex_l (hk n σ' H' q) hp) (fun n x σ' H' hx q => ?_) (fun σ' H' q => hd σ' H' (by rw [List.length_map] at q; exact q))⟩
    rw [List.getElem?_map] at hx
    cases e2 : as.l[n]? with
    | none => rw [e2] at hx; cases hx
    | some y =>
      rw [e2] at hx
      exact hs n x y σ' H' e2 (Option.some.inj hx).symm q
theorem r_forS1 {tl : TE} {as : Scr} (h : EvR K tl σ H as) (k : ∀ H1, Ex H H1 → ∃ Pv : Nat → L2.St → Hp → Prop, Pv 0 σ H1 ∧ (∀ n σ' H', Pv n σ' H' → Ex H1 H') ∧
      (∀ n v (x : Int) σ' H', as.l[n]? = some x → rep K H' v x → Pv n σ' H' → g v σ' H' fun σ2 H2 => tu { D with nx := Pv (n + 1), ct := Pv (n + 1), bk := D.nx } σ2 H2) ∧ (∀ σ' H', Pv as.l.length σ' H' → D.nx σ' H')) : tFor (iList K tl) g tu D σ H :=
  h H (Ex.refl H) _ fun v H1 e ⟨p, ev, hp⟩ => by
    obtain ⟨Pv, h0, hk, hs, hd⟩ := k H1 e
    refine ⟨p, ev, ⟨_, hp⟩, for_list Pv h0 (fun n σ' H' _ q => ex_l (hk n σ' H' q) hp) (fun n x σ' H' hx q => ?_) (fun σ' H' q => hd σ' H' (by rw [List.length_map] at q; exact q))⟩
    rw [List.getElem?_map] at hx
    cases e2 : as.l[n]? with
    | none => rw [e2] at hx; cases hx
    | some y =>
      rw [e2] at hx
      exact hs n x y σ' H' e2 (Option.some.inj hx).symm q
/-- [e for x in a pair] -/
theorem evn_lcP [RepT K β] {tl : TE} {ab : Int × Int} {vs : List Nat} (f : Int → β) (h : EvR K tl σ H ab) (hw : ∀ v, wipe ((wipe σ vs).set j (some v)) vs = wipe σ vs)
    (he : ∀ (x : Int) (v : V) H1, Ex H H1 → (x = ab.1 ∨ x = ab.2) → rep K H1 v x → EvR K te ((wipe σ vs).set j (some v)) H1 (f x)) : EvN K (tLc (iTup K tl) (gName j) tYes te vs) σ H ([ab.1, ab.2].map f) := fun H0 e Q q => h H0 e _ fun v H1 e1 ⟨p, x, y, ev, hp, r1, r2⟩ =>
  ⟨p, ev, ⟨_, SqT.of hp⟩, fun Dl hD => lc_tup (xs := [x, y]) (fun n H' => Ex H1 H' ∧ ∃ acc, H' Dl = some (.lst acc) ∧ Paired (rep K H') acc (([ab.1, ab.2].take n).map f)) ⟨Ex.new hD, [], upd_same, by rw [List.take_zero]; exact .nil⟩ (fun n H' _ c => SqT.of (c.1 _ _ hp))
    (fun n z H' hz c => by
      obtain ⟨c1, acc, c2, c3⟩ := c
      refine ⟨hw z, ?_⟩
      refine tyes_i ?_
      have hx : ∃ w : Int, [ab.1, ab.2][n]? = some w ∧ (w = ab.1 ∨ w = ab.2) ∧ rep K H1 z w := by
        match n, hz with
        | 0, hz => exact ⟨ab.1, rfl, .inl rfl, by have := Option.some.inj hz; subst this; exact r1⟩
        | 1, hz => exact ⟨ab.2, rfl, .inr rfl, by have := Option.some.inj hz; subst this; exact r2⟩
        | n + 2, hz => simp at hz
      obtain ⟨w, hx, hm, rx⟩ := hx
      refine he w z H' ((e.trans e1).trans c1) hm (rmono c1 rx) H' (Ex.refl _) _ fun z H4 e4 rz => ⟨acc, e4 _ _ c2, sz_lt ?_, Ex.mut (c1.trans e4) hD, _, upd_same, ?_⟩
      · rw [c3.length, List.length_map, List.length_take]
        show min n 2 < 100000
        omega
      · have hs : [ab.1, ab.2].take (n + 1) = [ab.1, ab.2].take n ++ [w] := by
          rw [List.take_succ, hx]
          rfl
        have hn := not_tup_lst (e4 _ _ c2)
        rw [hs, List.map_append]
        exact paired_append (pstab hn (pmono e4 c3)) (.cons (RepT.stab hn rz) .nil)) (fun H' c => by
      obtain ⟨c1, acc, c2, c3⟩ := c
      exact q _ _ _ (fresh_back e1 hD) (e1.trans c1) c2 c3)⟩
end
end Mt
namespace Mt
theorem no_root (n : Int) : ∀ (k : Nat) (r y : Int), r.toNat ≤ k → 0 < r → r < y → y * y - r * r ≠ n * (y * r) := by
  intro k
  induction k with
  | zero => intro r y h h0 _; omega
  | succ k ih =>
    intro r y hk h0 h1 e
    have e2 : y * (y - n * r) = r * r := by grind
    have hz : 0 < y - n * r := by
      have hrr : 0 < r * r := Int.mul_pos h0 h0
      rcases Int.lt_or_le 0 (y - n * r) with h | h
      · exact h
      · exfalso
        have := Int.mul_nonneg (show 0 ≤ y by omega) (show 0 ≤ -(y - n * r) by omega)
        grind
    have hz2 : y - n * r < r := by
      rcases Int.lt_or_le (y - n * r) r with h | h
      · exact h
      · exfalso
        have h3 : r * r < y * (y - n * r) := Int.lt_of_lt_of_le (Int.mul_lt_mul_of_pos_right h1 h0) (Int.mul_le_mul_of_nonneg_left h (by omega))
        omega
    refine ih (y - n * r) r (by omega) hz hz2 ?_
    grind

/-- the worth by the greater and the lesser -/
def wHL (x y : Int) : Int := (x * x - y * y) / (x * y)
theorem wHL_eq {x y k : Int} (hx : 0 < x) (hy : 0 < y) (h1 : k * (x * y) ≤ x * x - y * y) (h2 : x * x - y * y < (k + 1) * (x * y)) : wHL x y = k := by
  have hp : 0 < x * y := Int.mul_pos hx hy
  unfold wHL
  refine Int.le_antisymm ?_ ?_
  · have := (Int.ediv_lt_iff_lt_mul hp).mpr h2
    omega
  · exact (Int.le_ediv_iff_mul_le hp).mpr h1
theorem wHL_bounds {x y : Int} (hx : 0 < x) (hy : 0 < y) : wHL x y * (x * y) ≤ x * x - y * y ∧ x * x - y * y < (wHL x y + 1) * (x * y) := by
  have hp : 0 < x * y := Int.mul_pos hx hy
  unfold wHL
  constructor
  · exact Int.ediv_mul_le _ (by omega)
  · exact Int.lt_ediv_add_one_mul_self _ hp
theorem wHL_nonneg {x y : Int} (hy : 0 < y) (h : y ≤ x) : 0 ≤ wHL x y := by
  have hp : 0 < x * y := Int.mul_pos (by omega) hy
  unfold wHL
  refine Int.ediv_nonneg ?_ (by omega)
  have := Int.mul_le_mul h h (by omega) (by omega)
  omega
/-- a multiple -/
theorem wHL_mul {y s : Int} (hy : 0 < y) (hs : 1 ≤ s) : wHL (s * y) y = s - 1 := by
  have h0 : 0 < s * y := Int.mul_pos (by omega) hy
  have hyy : 0 < y * y := Int.mul_pos hy hy
  have h1 : y * y ≤ s * y * y := by
    have := Int.mul_le_mul_of_nonneg_right hs (show 0 ≤ y * y by omega)
    grind
  refine wHL_eq h0 hy ?_ ?_
  · grind
  · grind
/-- s times and a rest, by the worth of the lesser number and the rest -/
theorem wHL_rest {y r s : Int} (h0 : 0 < r) (h1 : r < y) (hs : 1 ≤ s) : wHL (s * y + r) y = if s ≤ wHL y r then s - 1 else s := by
  have hy : 0 < y := by omega
  have hsy : y ≤ s * y := by
    have := Int.mul_le_mul_of_nonneg_right hs (show 0 ≤ y by omega)
    omega
  have hx : 0 < s * y + r := by omega
  have hyr : 0 < y * r := Int.mul_pos hy h0
  have hyy : 0 < y * y := Int.mul_pos hy hy
  obtain ⟨b1, b2⟩ := wHL_bounds hy h0
  have b3 := no_root (wHL y r) r.toNat r y (Nat.le_refl _) h0 h1
  have hxy : y * y ≤ (s * y + r) * y := by
    have := Int.mul_le_mul_of_nonneg_right (show y ≤ s * y + r by omega) (show 0 ≤ y by omega)
    omega
  have hxr : 0 < (s * y + r) * r := Int.mul_pos hx h0
  have hry : (s * y + r) * r < (s * y + r) * y := Int.mul_lt_mul_of_pos_left h1 hx
  split
  · rename_i h
    have h3 : s * (y * r) ≤ wHL y r * (y * r) := Int.mul_le_mul_of_nonneg_right h (by omega)
    refine wHL_eq hx hy ?_ ?_
    · grind
    · grind
  · rename_i h
    have h3 : (wHL y r + 1) * (y * r) ≤ s * (y * r) := Int.mul_le_mul_of_nonneg_right (by omega) (by omega)
    refine wHL_eq hx hy ?_ ?_
    · grind
    · grind
/-! ### pairs -/
def hi (p : Int × Int) : Int := max p.1 p.2
def lo (p : Int × Int) : Int := min p.1 p.2
def Pos (p : Int × Int) : Prop := 0 < p.1 ∧ 0 < p.2
def mostOf (p : Int × Int) : Int := if p.1 ≠ p.2 then (hi p - 1) / lo p else 0
def takenOf (p : Int × Int) (t : Int) : Int × Int := if p.2 < p.1 then (p.1 - t * p.2, p.2) else (p.1, p.2 - t * p.1)
def worthOf (p : Int × Int) : Int := (hi p * hi p - lo p * lo p) / (hi p * lo p)
def swap (p : Int × Int) : Int × Int := (p.2, p.1)
theorem hi_swap (p : Int × Int) : hi (swap p) = hi p := by unfold hi swap; simp only; omega
theorem lo_swap (p : Int × Int) : lo (swap p) = lo p := by unfold lo swap; simp only; omega
theorem Pos.swap {p : Int × Int} (h : Pos p) : Pos (swap p) := ⟨h.2, h.1⟩
theorem worth_swap (p : Int × Int) : worthOf (swap p) = worthOf p := by unfold worthOf; rw [hi_swap, lo_swap]
theorem most_swap (p : Int × Int) : mostOf (swap p) = mostOf p := by
  unfold mostOf
  rw [hi_swap, lo_swap]
  unfold swap
  simp only [ne_eq, eq_comm]
theorem taken_swap {p : Int × Int} (t : Int) (h : p.1 ≠ p.2) : takenOf (swap p) t = swap (takenOf p t) := by
  unfold takenOf swap
  simp only
  by_cases c : p.2 < p.1
  · rw [if_neg (by omega), if_pos c]
  · rw [if_pos (by omega), if_neg c]
theorem worth_eq (p : Int × Int) : worthOf p = wHL (hi p) (lo p) := rfl
theorem lo_pos {p : Int × Int} (h : Pos p) : 0 < lo p := by unfold lo; have := h.1; have := h.2; omega
theorem hi_pos {p : Int × Int} (h : Pos p) : 0 < hi p := by unfold hi; have := h.1; omega
theorem lo_le_hi (p : Int × Int) : lo p ≤ hi p := by unfold lo hi; omega
theorem worth_nonneg {p : Int × Int} (h : Pos p) : 0 ≤ worthOf p := wHL_nonneg (lo_pos h) (lo_le_hi p)
theorem most_nonneg {p : Int × Int} (h : Pos p) : 0 ≤ mostOf p := by
  have h1 := lo_pos h
  have h2 := hi_pos h
  unfold mostOf
  split
  · exact Int.ediv_nonneg (by omega) (by omega)
  · exact Int.le_refl 0
/-- the most takings, alike ones too -/
theorem most_form {p : Int × Int} (h : Pos p) : (hi p - 1) / lo p = mostOf p := by
  unfold mostOf
  split
  · rfl
  · rename_i e
    have e : p.1 = p.2 := by omega
    have h1 := lo_pos h
    have h2 : hi p = lo p := by unfold hi lo; omega
    rw [h2]
    exact Int.ediv_eq_zero_of_lt (by omega) (by omega)
/-- what a pair x > y is: quotient and rest -/
structure Spl (x y q r : Int) : Prop where
  hy : 0 < y
  hxy : y < x
  e : x = q * y + r
  r0 : 0 ≤ r
  r1 : r < y
theorem Spl.of {x y : Int} (hy : 0 < y) (h : y < x) : Spl x y (x / y) (x % y) := ⟨hy, h, by have := Int.mul_ediv_add_emod x y; grind, Int.emod_nonneg _ (by omega), Int.emod_lt_of_pos _ hy⟩
theorem Spl.q1 {x y q r : Int} (s : Spl x y q r) : 1 ≤ q := by
  obtain ⟨hy, h, e, r0, r1⟩ := s
  rcases Int.lt_or_le 0 q with z | z
  · omega
  · have := Int.mul_le_mul_of_nonneg_right z (show 0 ≤ y by omega)
    omega
theorem Spl.q2 {x y q : Int} (s : Spl x y q 0) : 2 ≤ q := by
  obtain ⟨hy, h, e, r0, r1⟩ := s
  rcases Int.lt_or_le 1 q with z | z
  · omega
  · have := Int.mul_le_mul_of_nonneg_right z (show 0 ≤ y by omega)
    omega
theorem Spl.whole {x y q r : Int} (s : Spl x y q r) : x / y = q := by
  obtain ⟨hy, h, e, r0, r1⟩ := s
  subst e
  rw [Int.add_comm, Int.add_mul_ediv_right _ _ (by omega), Int.ediv_eq_zero_of_lt r0 r1]
  omega
theorem Spl.most {x y q r : Int} (s : Spl x y q r) : (x - 1) / y = if r = 0 then q - 1 else q := by
  obtain ⟨hy, h, e, r0, r1⟩ := s
  split
  · rename_i z
    subst z
    have e2 : x - 1 = (y - 1) + (q - 1) * y := by grind
    rw [e2, Int.add_mul_ediv_right _ _ (by omega), Int.ediv_eq_zero_of_lt (by omega) (by omega)]
    omega
  · have e2 : x - 1 = (r - 1) + q * y := by omega
    rw [e2, Int.add_mul_ediv_right _ _ (by omega), Int.ediv_eq_zero_of_lt (by omega) (by omega)]
    omega
theorem Spl.worth {x y q r : Int} (s : Spl x y q r) : wHL x y = if r = 0 then q - 1 else if q ≤ wHL y r then q - 1 else q := by
  have q1 := s.q1
  obtain ⟨hy, h, e, r0, r1⟩ := s
  subst e
  split
  · rename_i z
    subst z
    rw [Int.add_zero]
    exact wHL_mul hy q1
  · rename_i z
    exact wHL_rest (by omega) r1 q1
def wP (a b : Int) : Int := wHL (max a b) (min a b)
theorem worth_wP (p : Int × Int) : worthOf p = wP p.1 p.2 := rfl
theorem wP_comm (a b : Int) : wP a b = wP b a := by
  unfold wP
  rw [show max a b = max b a by omega, show min a b = min b a by omega]
theorem wP_ge {a b : Int} (h : b ≤ a) : wP a b = wHL a b := by
  unfold wP
  rw [show max a b = a by omega, show min a b = b by omega]
/-- the worth behind a taking -/
theorem Spl.behind {x y q r t : Int} (s : Spl x y q r) (h1 : 1 ≤ t) (h2 : t ≤ (x - 1) / y) :
    wP (x - t * y) y = if r = 0 then q - t - 1 else if t = q then wHL y r else if q - t ≤ wHL y r then q - t - 1 else q - t := by
  rw [s.most] at h2
  obtain ⟨hy, h, e, r0, r1⟩ := s
  subst e
  split at h2
  · rename_i z
    subst z
    rw [if_pos rfl]
    have e2 : q * y + 0 - t * y = (q - t) * y := by grind
    have h3 : y ≤ (q - t) * y := by
      have := Int.mul_le_mul_of_nonneg_right (show 1 ≤ q - t by omega) (show 0 ≤ y by omega)
      omega
    rw [e2, wP_ge h3]
    exact wHL_mul hy (by omega)
  · rename_i z
    rw [if_neg z]
    have e2 : q * y + r - t * y = (q - t) * y + r := by grind
    rw [e2]
    split
    · rename_i u
      subst u
      rw [Int.sub_self, Int.zero_mul, Int.zero_add, wP_comm, wP_ge (by omega)]
    · rename_i u
      have h3 : y ≤ (q - t) * y := by
        have := Int.mul_le_mul_of_nonneg_right (show 1 ≤ q - t by omega) (show 0 ≤ y by omega)
        omega
      rw [wP_ge (by omega)]
      exact wHL_rest (by omega) r1 (by omega)
/-- no taking leaves the worth -/
theorem Spl.ne {x y q r t : Int} (s : Spl x y q r) (h1 : 1 ≤ t) (h2 : t ≤ (x - 1) / y) : wP (x - t * y) y ≠ wHL x y := by
  rw [s.behind h1 h2, s.worth]
  split
  · omega
  · split
    · split <;> omega
    · split <;> split <;> omega
/-- each lesser worth is left by one of three takings -/
theorem Spl.hit {x y q r v : Int} (s : Spl x y q r) (h0 : 0 ≤ v) (h1 : v < wHL x y) :
    ∃ t, (t = q - v - 1 ∨ t = q - v ∨ t = (x - 1) / y) ∧ 1 ≤ t ∧ t ≤ (x - 1) / y ∧ wP (x - t * y) y = v := by
  have hw := s.worth
  have hm := s.most
  have hq := s.q1
  by_cases z : r = 0
  · rw [if_pos z] at hw hm
    refine ⟨q - v - 1, .inl rfl, by omega, by omega, ?_⟩
    rw [s.behind (by omega) (by omega), if_pos z]
    omega
  · rw [if_neg z] at hw hm
    rcases Int.lt_trichotomy v (wHL y r) with c | c | c
    · have hq2 : v + 1 < q := by split at hw <;> omega
      refine ⟨q - v - 1, .inl rfl, by omega, by omega, ?_⟩
      rw [s.behind (by omega) (by omega), if_neg z, if_neg (by omega), if_pos (by omega)]
      omega
    · refine ⟨(x - 1) / y, .inr (.inr rfl), by omega, by omega, ?_⟩
      rw [s.behind (by omega) (by omega), if_neg z, if_pos hm]
      exact c.symm
    · have hn : 0 ≤ wHL y r := wHL_nonneg (by have := s.r0; omega) (by have := s.r1; omega)
      have hq2 : v < q := by split at hw <;> omega
      refine ⟨q - v, .inr (.inl rfl), by omega, by omega, ?_⟩
      rw [s.behind (by omega) (by omega), if_neg z, if_neg (by omega), if_neg (by omega)]
      omega
/-! ### .. of pairs -/
theorem most_lt {p : Int × Int} {t : Int} (h : Pos p) (h1 : 1 ≤ t) (h2 : t ≤ mostOf p) : p.1 ≠ p.2 := by
  intro e
  unfold mostOf at h2
  rw [if_neg (by omega)] at h2
  omega
theorem taken_hl {p : Int × Int} {t : Int} (h : Pos p) (ne : p.1 ≠ p.2) : worthOf (takenOf p t) = wP (hi p - t * lo p) (lo p) := by
  rw [worth_wP]
  unfold takenOf
  by_cases c : p.2 < p.1
  · rw [if_pos c]
    unfold hi lo
    rw [show max p.1 p.2 = p.1 by omega, show min p.1 p.2 = p.2 by omega]
  · rw [if_neg c]
    unfold hi lo
    rw [show max p.1 p.2 = p.2 by omega, show min p.1 p.2 = p.1 by omega]
    exact wP_comm _ _
theorem lo_lt_hi {p : Int × Int} (ne : p.1 ≠ p.2) : lo p < hi p := by unfold lo hi; omega
theorem worth_ne {p : Int × Int} {t : Int} (h : Pos p) (h1 : 1 ≤ t) (h2 : t ≤ mostOf p) : worthOf (takenOf p t) ≠ worthOf p := by
  have ne := most_lt h h1 h2
  rw [taken_hl h ne, worth_eq]
  exact (Spl.of (lo_pos h) (lo_lt_hi ne)).ne h1 (by rw [most_form h]; exact h2)
theorem worth_hit {p : Int × Int} {v : Int} (h : Pos p) (h0 : 0 ≤ v) (h1 : v < worthOf p) :
    ∃ t, (t = hi p / lo p - v - 1 ∨ t = hi p / lo p - v ∨ t = mostOf p) ∧ 1 ≤ t ∧ t ≤ mostOf p ∧ worthOf (takenOf p t) = v := by
  have ne : p.1 ≠ p.2 := by
    intro e
    have e2 : hi p = lo p := by unfold hi lo; omega
    have := wHL_mul (lo_pos h) (Int.le_refl 1)
    rw [Int.one_mul] at this
    rw [worth_eq, e2, this] at h1
    omega
  obtain ⟨t, c, a, b, e⟩ := (Spl.of (lo_pos h) (lo_lt_hi ne)).hit h0 h1
  rw [most_form h] at c b
  exact ⟨t, c, a, b, by rw [taken_hl h ne]; exact e⟩
theorem taken_pos {p : Int × Int} {t : Int} (h : Pos p) (h1 : 1 ≤ t) (h2 : t ≤ mostOf p) : Pos (takenOf p t) := by
  have ne := most_lt h h1 h2
  have hl := lo_pos h
  rw [← most_form h, Int.le_ediv_iff_mul_le hl] at h2
  obtain ⟨a, b⟩ := h
  unfold takenOf
  by_cases c : p.2 < p.1
  · rw [if_pos c]
    rw [show hi p = p.1 by unfold hi; omega, show lo p = p.2 by unfold lo; omega] at h2
    exact ⟨by show 0 < p.1 - t * p.2; omega, b⟩
  · rw [if_neg c]
    rw [show hi p = p.2 by unfold hi; omega, show lo p = p.1 by unfold lo; omega] at h2
    exact ⟨a, by show 0 < p.2 - t * p.1; omega⟩
end Mt

namespace Mt
/-! ### worths together, bit by bit -/
def nim : List Nat → Nat
  | [] => 0
  | w :: ws => w ^^^ nim ws
theorem nim_set : ∀ (ws : List Nat) (i : Nat) (v w : Nat), ws[i]? = some w → nim (ws.set i v) = nim ws ^^^ (w ^^^ v)
  | [], _, _, _, h => by simp at h
  | a :: r, 0, v, w, h => by
    have e : a = w := by simpa using h
    subst e
    show v ^^^ nim r = (a ^^^ nim r) ^^^ (a ^^^ v)
    rw [Nat.xor_comm a (nim r), Nat.xor_assoc, ← Nat.xor_assoc a a v, Nat.xor_self, Nat.zero_xor, Nat.xor_comm]
  | a :: r, i + 1, v, w, h => by
    have ih := nim_set r i v w (by simpa using h)
    show a ^^^ nim (r.set i v) = (a ^^^ nim r) ^^^ (w ^^^ v)
    rw [ih, Nat.xor_assoc]
theorem nim_bit (k : Nat) : ∀ ws : List Nat, (nim ws).testBit k = true → ∃ (i w : Nat), ws[i]? = some w ∧ w.testBit k = true
  | [], h => by simp [nim] at h
  | a :: r, h => by
    cases ha : a.testBit k with
    | true => exact ⟨0, a, rfl, ha⟩
    | false =>
      have h2 : (nim r).testBit k = true := by
        have h' : (a ^^^ nim r).testBit k = true := h
        rw [Nat.testBit_xor, ha] at h'
        simpa using h'
      obtain ⟨i, w, e, b⟩ := nim_bit k r h2
      exact ⟨i + 1, w, by simpa using e, b⟩
theorem lt_of_bit : ∀ (k x y : Nat), x.testBit k = false → y.testBit k = true → (∀ j, k < j → x.testBit j = y.testBit j) → x < y
  | 0, x, y, h1, h2, h => by
    rw [Nat.testBit_zero] at h1 h2
    have e : x / 2 = y / 2 := Nat.eq_of_testBit_eq fun i => by
      have := h (i + 1) (by omega)
      rw [Nat.testBit_add_one, Nat.testBit_add_one] at this
      exact this
    have h1 := of_decide_eq_false h1
    have h2 := of_decide_eq_true h2
    omega
  | k + 1, x, y, h1, h2, h => by
    rw [Nat.testBit_add_one] at h1 h2
    have ih := lt_of_bit k (x / 2) (y / 2) h1 h2 fun j hj => by
      have := h (j + 1) (by omega)
      rw [Nat.testBit_add_one, Nat.testBit_add_one] at this
      exact this
    omega
theorem top_bit {x : Nat} (h : x ≠ 0) : ∃ k, x.testBit k = true ∧ ∀ j, k < j → x.testBit j = false := by
  refine ⟨x.log2, Nat.testBit_log2 h, fun j hj => ?_⟩
  exact Nat.testBit_lt_two_pow (Nat.lt_of_lt_of_le Nat.lt_log2_self (Nat.pow_le_pow_right (by decide) hj))
theorem nim_hit {ws : List Nat} (h : nim ws ≠ 0) : ∃ (i w : Nat), ws[i]? = some w ∧ w ^^^ nim ws < w := by
  obtain ⟨k, h1, h2⟩ := top_bit h
  obtain ⟨i, w, e, b⟩ := nim_bit k ws h1
  refine ⟨i, w, e, lt_of_bit k _ _ ?_ b fun j hj => ?_⟩
  · rw [Nat.testBit_xor, h1, b]; rfl
  · rw [Nat.testBit_xor, h2 j hj]; simp
theorem nim_append (a b : List Nat) : nim (a ++ b) = nim a ^^^ nim b := by
  induction a with
  | nil => simp [nim]
  | cons x r ih =>
    show x ^^^ nim (r ++ b) = (x ^^^ nim r) ^^^ nim b
    rw [ih, Nat.xor_assoc]
theorem nim_fold (ws : List Nat) : ∀ z : Nat, ws.foldl (fun acc w => acc ^^^ w) z = z ^^^ nim ws := by
  induction ws with
  | nil => intro z; simp [nim]
  | cons x r ih =>
    intro z
    show r.foldl (fun acc w => acc ^^^ w) (z ^^^ x) = z ^^^ (x ^^^ nim r)
    rw [ih, Nat.xor_assoc]
theorem nim_perm {a b : List Nat} (h : a.Perm b) : nim a = nim b := by
  induction h with
  | nil => rfl
  | cons x _ ih => show x ^^^ nim _ = x ^^^ nim _; rw [ih]
  | swap x y l =>
    show y ^^^ (x ^^^ nim l) = x ^^^ (y ^^^ nim l)
    rw [← Nat.xor_assoc, Nat.xor_comm y x, Nat.xor_assoc]
  | trans _ _ h1 h2 => exact h1.trans h2
/-- x ^ y for whole numbers from 0 on -/
def xr (x y : Int) : Int := ((x.toNat ^^^ y.toNat : Nat) : Int)
end Mt

namespace Mt
open PySem PySem.Spec L2 Evl PyProof.Rows
/-! ### pairs that are small enough -/
structure Sm (p : Int × Int) : Prop where
  pos : Pos p
  b1 : Bt 1000 p.1
  b2 : Bt 1000 p.2
theorem Sm.hi {p : Int × Int} (h : Sm p) : Bt 1000 (max p.1 p.2) := by
  rcases Int.le_total p.1 p.2 with c | c
  · rw [Int.max_eq_right c]; exact h.b2
  · rw [Int.max_eq_left c]; exact h.b1
theorem Sm.lo {p : Int × Int} (h : Sm p) : Bt 1000 (min p.1 p.2) := by
  rcases Int.le_total p.1 p.2 with c | c
  · rw [Int.min_eq_left c]; exact h.b1
  · rw [Int.min_eq_right c]; exact h.b2
theorem Sm.swap {p : Int × Int} (h : Sm p) : Sm (swap p) := ⟨h.pos.swap, h.b2, h.b1⟩
theorem Sm.swap' {p : Int × Int} (h : Sm p) : Sm (p.2, p.1) := h.swap
theorem most_le {p : Int × Int} (h : Pos p) : mostOf p ≤ hi p := by
  have h1 := lo_pos h
  have h2 := hi_pos h
  rw [← most_form h]
  have := Int.ediv_le_self (lo p) (show 0 ≤ Mt.hi p - 1 by omega)
  omega
theorem Sm.most {p : Int × Int} (h : Sm p) : Bt 1000 (mostOf p) := h.hi.le (most_nonneg h.pos) (most_le h.pos)
theorem taken_le {p : Int × Int} {t : Int} (h : Pos p) (h1 : 1 ≤ t) (h2 : t ≤ mostOf p) : (takenOf p t).1 ≤ p.1 ∧ (takenOf p t).2 ≤ p.2 := by
  have a := h.1
  have b := h.2
  unfold takenOf
  split
  · exact ⟨by show p.1 - t * p.2 ≤ p.1; have := Int.mul_nonneg (show 0 ≤ t by omega) (show 0 ≤ p.2 by omega); omega, Int.le_refl _⟩
  · exact ⟨Int.le_refl _, by show p.2 - t * p.1 ≤ p.2; have := Int.mul_nonneg (show 0 ≤ t by omega) (show 0 ≤ p.1 by omega); omega⟩
theorem Sm.taken {p : Int × Int} {t : Int} (h : Sm p) (h1 : 1 ≤ t) (h2 : t ≤ mostOf p) : Sm (takenOf p t) := by
  obtain ⟨a, b⟩ := taken_le h.pos h1 h2
  have q := taken_pos h.pos h1 h2
  exact ⟨q, h.b1.le (Int.le_of_lt q.1) a, h.b2.le (Int.le_of_lt q.2) b⟩
theorem Sm.div {p : Int × Int} (h : Sm p) (x : Int) : CDivX x (min p.1 p.2) := Bt.divOk (lo_pos h.pos) h.lo (by decide) (by decide)
theorem Sm.worthDiv {p : Int × Int} (h : Sm p) (x : Int) : CDivX x (max p.1 p.2 * min p.1 p.2) := Bt.divOk (Int.mul_pos (hi_pos h.pos) (lo_pos h.pos)) (h.hi.mul h.lo) (by decide) (by decide)
theorem all_num (p : Int × Int) (h : Pos p) : ([p.1, p.2].map fun xc => (true && decide (0 < xc))).all id = true := by
  have a := h.1
  have b := h.2
  simp [a, b]
theorem worth_le {p : Int × Int} (h : Pos p) : worthOf p ≤ hi p := by
  have h1 := lo_pos h
  have h2 := hi_pos h
  have hp : 0 < hi p * lo p := Int.mul_pos h2 h1
  unfold worthOf
  have h3 : hi p * hi p - lo p * lo p ≤ hi p * (hi p * lo p) := by
    have a := Int.mul_le_mul_of_nonneg_left (show (1 : Int) ≤ lo p by omega) (show 0 ≤ hi p * hi p from Int.mul_nonneg (by omega) (by omega))
    have b : 0 ≤ lo p * lo p := Int.mul_nonneg (by omega) (by omega)
    have c : hi p * hi p * lo p = hi p * (hi p * lo p) := Int.mul_assoc _ _ _
    omega
  have h4 := Int.ediv_le_ediv hp h3
  rw [Int.mul_ediv_cancel _ (by omega)] at h4
  exact h4
theorem Sm.worth {p : Int × Int} (h : Sm p) : Bt 1000 (worthOf p) := h.hi.le (worth_nonneg h.pos) (worth_le h.pos)
end Mt
namespace Mt
open PySem PySem.Spec L2 Evl PyProof.Rows
theorem rep_eq {K : PySem.W.Frag} {α : Type} [Rep K α] {H : Hp} {v : V} {a b : α} (h : rep K H v a) (e : a = b) : rep K H v b := e ▸ h
/-! ### the law's own number -/
def lnMixed (cell at_ whole : Int) : Int := (((cell + 977 * at_) * 48271) + whole) % 2147483647
def lnMore (cell at_ whole : Int) : Int := lnMixed cell at_ whole * ((cell + 31 * at_) + 7)
def lawNumber (cell at_ whole : Int) : Int :=
  if ((10 : Int) ^ (18 : Int).toNat) ≤ cell then cell / (1 + at_ % 7)
  else ((lnMore cell at_ whole * ((lnMixed cell at_ whole + cell) + 5)) * (lnMixed cell at_ whole * lnMixed cell at_ whole + 11)) / (1009 + at_)
theorem bt_of {x : Int} (a : Nat) {lo hi : Int} (h0 : lo ≤ x) (h1 : x ≤ hi) (ha : -lo < 2 ^ a) (hb : hi < 2 ^ a) : Bt a x := by
  unfold Bt
  have e : ((2 ^ a : Nat) : Int) = (2 : Int) ^ a := by simp
  omega
theorem num_at {at_ : Int} (h : 0 ≤ at_ ∧ at_ ≤ 100000) : Bt 17 at_ := bt_of 17 h.1 h.2 (by decide) (by decide)
theorem bt_c {x : Int} (a : Nat) (h : decide (x.natAbs < 2 ^ a) = true := by decide) : Bt a x := (of_decide_eq_true h : x.natAbs < 2 ^ a)
theorem num_m1 {at_ : Int} (h : 0 ≤ at_ ∧ at_ ≤ 100000) : IntMulOk 977 at_ := (bt_c 10).mulOk (num_at h) (by decide)
theorem num_m3 {at_ : Int} (h : 0 ≤ at_ ∧ at_ ≤ 100000) : IntMulOk 31 at_ := (bt_c 5).mulOk (num_at h) (by decide)
theorem num_b1 {c at_ : Int} (hc : Bt 1048576 c) (h : 0 ≤ at_ ∧ at_ ≤ 100000) : Bt 1048577 (c + 977 * at_) := hc.add (((bt_c (x := 977) 10).mul (num_at h)).mono (by decide))
theorem num_m2 {c at_ : Int} (hc : Bt 1048576 c) (h : 0 ≤ at_ ∧ at_ ≤ 100000) : IntMulOk (c + 977 * at_) 48271 := (num_b1 hc h).mulOk (bt_c 16) (by decide)
theorem mixed_rng (c a w : Int) : 0 ≤ lnMixed c a w ∧ lnMixed c a w < 2147483647 := ⟨Int.emod_nonneg _ (by decide), Int.emod_lt_of_pos _ (by decide)⟩
theorem num_mixed (c a w : Int) : Bt 31 (lnMixed c a w) := by
  obtain ⟨h0, h1⟩ := mixed_rng c a w
  exact bt_of 31 h0 (Int.le_of_lt h1) (by decide) (by decide)
theorem num_b2 {c at_ : Int} (hc : Bt 1048576 c) (h : 0 ≤ at_ ∧ at_ ≤ 100000) : Bt 1048578 ((c + 31 * at_) + 7) := (hc.add (((bt_c (x := 31) 5).mul (num_at h)).mono (by decide))).add ((bt_c 3).mono (by decide))
theorem num_m4 {c at_ w : Int} (hc : Bt 1048576 c) (h : 0 ≤ at_ ∧ at_ ≤ 100000) : IntMulOk (lnMixed c at_ w) ((c + 31 * at_) + 7) := (num_mixed c at_ w).mulOk (num_b2 hc h) (by decide)
theorem num_m5 {c at_ w : Int} : IntMulOk (lnMixed c at_ w) (lnMixed c at_ w) := (num_mixed c at_ w).mulOk (num_mixed c at_ w) (by decide)
theorem num_more {c at_ w : Int} (hc : Bt 1048576 c) (h : 0 ≤ at_ ∧ at_ ≤ 100000) : Bt 1048609 (lnMore c at_ w) := ((num_mixed c at_ w).mul (num_b2 hc h)).mono (by decide)
theorem num_b3 {c at_ w : Int} (hc : Bt 1048576 c) : Bt 1048578 ((lnMixed c at_ w + c) + 5) := (((num_mixed c at_ w).mono (by decide)).add hc).add ((bt_c 3).mono (by decide))
theorem num_m6 {c at_ w : Int} (hc : Bt 1048576 c) (h : 0 ≤ at_ ∧ at_ ≤ 100000) : IntMulOk (lnMore c at_ w) ((lnMixed c at_ w + c) + 5) := (num_more hc h).mulOk (num_b3 hc) (by decide)
theorem num_m7 {c at_ w : Int} (hc : Bt 1048576 c) (h : 0 ≤ at_ ∧ at_ ≤ 100000) : IntMulOk (lnMore c at_ w * ((lnMixed c at_ w + c) + 5)) (lnMixed c at_ w * lnMixed c at_ w + 11) :=
  ((num_more hc h).mul (num_b3 hc)).mulOk (((num_mixed c at_ w).mul (num_mixed c at_ w)).add ((bt_c 4).mono (by decide))) (by decide)
/-! ### the law's own pair -/
def lpCells (s : Scr) : List Int := if (!decide (s.l = ([] : List Int))) = true then cutA s.l none (some 63) else [3]
def lpWhole (s : Scr) : Int := (lpCells s).sum
def lpCell (s : Scr) (at_ : Int) : Int := (lpCells s).getD (at_ % ((lpCells s).length : Int)).toNat 0
def lpNumber (s : Scr) (at_ : Int) : Int := lawNumber (lpCell s at_) at_ (lpWhole s)
def lpWide (s : Scr) (at_ : Int) : Int := [(9 : Int), 60, (10 : Int) ^ (6 : Int).toNat, (10 : Int) ^ (30 : Int).toNat].getD ((lpWhole s + at_) % 4).toNat 0
def lpOne (s : Scr) (at_ : Int) : Int := 1 + lpNumber s at_ / 7 % lpWide s at_
def lpOther0 (s : Scr) (at_ : Int) : Int := 1 + lpNumber s at_ / 5 % (lpWide s at_ + 3)
def lpKind (s : Scr) (at_ : Int) : Int := (lpNumber s at_ / 3 + at_) % 8
def lpOther1 (s : Scr) (at_ : Int) : Int := if decide (lpKind s at_ = 0) = true then lpOne s at_ * (1 + lpNumber s at_ / 11 % 9) else lpOther0 s at_
def lpOther2 (s : Scr) (at_ : Int) : Int := if decide (lpKind s at_ = 1) = true then lpOne s at_ + lpNumber s at_ % 2 else lpOther1 s at_
def lpOther3 (s : Scr) (at_ : Int) : Int := if decide (lpKind s at_ = 2) = true then lpOne s at_ * (lpNumber s at_ / 13 % ((10 : Int) ^ (6 : Int).toNat) + 1) + lpOther2 s at_ % lpOne s at_ else lpOther2 s at_
def fibs : Nat → Int × Int → Int × Int
  | 0, p => p
  | n + 1, p => ((fibs n p).2, (fibs n p).1 + (fibs n p).2)
theorem fibs1 (n : Nat) (p : Int × Int) : (fibs (n + 1) p).1 = (fibs n p).2 := rfl
theorem fibs2 (n : Nat) (p : Int × Int) : (fibs (n + 1) p).2 = (fibs n p).1 + (fibs n p).2 := rfl
def lpFib (s : Scr) (at_ : Int) : Int × Int := if decide (lpKind s at_ = 3) = true then fibs (lpNumber s at_ / 9 % 40).toNat (lpOne s at_, lpOther3 s at_) else (lpOne s at_, lpOther3 s at_)
def lawPair (s : Scr) (at_ : Int) : Int × Int := if decide (lpNumber s at_ / 17 % 2 = 0) = true then lpFib s at_ else ((lpFib s at_).2, (lpFib s at_).1)
theorem lp_ne (s : Scr) : 0 < (lpCells s).length := by
  unfold lpCells
  by_cases c : s.l = []
  · rw [c]; decide
  · rw [if_pos (by simp [c]), show (some 63 : Option Int) = some ((63 : Nat) : Int) from rfl, cutA_to, List.length_take]
    have := List.length_pos_iff.mpr c
    omega
theorem lp_len (s : Scr) : (0 : Int) < ((lpCells s).length : Int) := by have := lp_ne s; omega
theorem lp_ix0 (s : Scr) (at_ : Int) : 0 ≤ at_ % ((lpCells s).length : Int) := Int.emod_nonneg _ (by have := lp_len s; omega)
theorem lp_ix (s : Scr) (at_ : Int) : (lpCells s)[(at_ % ((lpCells s).length : Int)).toNat]? = some (lpCell s at_) := by
  have h0 := lp_ix0 s at_
  have h1 := Int.emod_lt_of_pos at_ (lp_len s)
  unfold lpCell
  rw [List.getD_eq_getElem?_getD, List.getElem?_eq_getElem (by omega)]
  rfl
theorem lp_mem {s : Scr} {z : Int} (h : z ∈ lpCells s) : z ∈ s.l ∨ z = 3 := by
  unfold lpCells at h
  split at h
  · rw [show (some 63 : Option Int) = some ((63 : Nat) : Int) from rfl, cutA_to] at h
    exact .inl (List.mem_of_mem_take h)
  · exact .inr (by simpa using h)
theorem lp_bt (s : Scr) (at_ : Int) (h : ∀ z ∈ s.l, Bt 1048576 z) : Bt 1048576 (lpCell s at_) := by
  rcases lp_mem (List.mem_of_getElem? (lp_ix s at_)) with c | c
  · exact h _ c
  · rw [c]; exact (bt_c 2).mono (by decide)
theorem lp_w0 (s : Scr) (at_ : Int) : 0 ≤ (lpWhole s + at_) % 4 := Int.emod_nonneg _ (by decide)
theorem lp_w (s : Scr) (at_ : Int) : [(9 : Int), 60, (10 : Int) ^ (6 : Int).toNat, (10 : Int) ^ (30 : Int).toNat][((lpWhole s + at_) % 4).toNat]? = some (lpWide s at_) := by
  have h0 := lp_w0 s at_
  have h1 := Int.emod_lt_of_pos (lpWhole s + at_) (show (0 : Int) < 4 by decide)
  unfold lpWide
  rw [List.getD_eq_getElem?_getD, List.getElem?_eq_getElem (by show _ < 4; omega)]
  rfl
theorem lp_wide_mem (s : Scr) (at_ : Int) : 9 ≤ lpWide s at_ ∧ lpWide s at_ ≤ 10 ^ 30 := by
  have h := List.mem_of_getElem? (lp_w s at_)
  simp only [List.mem_cons, List.not_mem_nil, or_false] at h
  rcases h with h | h | h | h
  · rw [h]; decide
  · rw [h]; decide
  · rw [h]; decide
  · rw [h]; decide
theorem lp_wide (s : Scr) (at_ : Int) : 0 < lpWide s at_ := by have := lp_wide_mem s at_; omega
theorem lp_wide3 (s : Scr) (at_ : Int) : 0 < lpWide s at_ + 3 := by have := lp_wide_mem s at_; omega
theorem lp_one_rng (s : Scr) (at_ : Int) : 0 < lpOne s at_ ∧ lpOne s at_ ≤ 10 ^ 30 := by
  have h := lp_wide_mem s at_
  have h0 := Int.emod_nonneg (lpNumber s at_ / 7) (show lpWide s at_ ≠ 0 by omega)
  have h1 := Int.emod_lt_of_pos (lpNumber s at_ / 7) (lp_wide s at_)
  unfold lpOne
  omega
theorem lp_one (s : Scr) (at_ : Int) : 0 < lpOne s at_ := (lp_one_rng s at_).1
theorem lp_one_bt (s : Scr) (at_ : Int) : Bt 100 (lpOne s at_) := bt_of 100 (Int.le_of_lt (lp_one s at_)) (lp_one_rng s at_).2 (by decide) (by decide)
theorem rng_a (x : Int) : 0 ≤ x % 9 ∧ x % 9 < 9 := ⟨Int.emod_nonneg _ (by decide), Int.emod_lt_of_pos _ (by decide)⟩
theorem rng_b (x : Int) : 0 ≤ x % ((10 : Int) ^ (6 : Int).toNat) ∧ x % ((10 : Int) ^ (6 : Int).toNat) < 1000000 := ⟨Int.emod_nonneg _ (by decide), Int.emod_lt_of_pos _ (by decide)⟩
theorem bt_a (x : Int) : Bt 4 (1 + x % 9) := by
  have h := rng_a x
  exact bt_of (lo := 0) (hi := 10) 4 (by omega) (by omega) (by decide) (by decide)
theorem bt_b (x : Int) : Bt 20 (x % ((10 : Int) ^ (6 : Int).toNat) + 1) := by
  have h := rng_b x
  exact bt_of (lo := 0) (hi := 1000000) 20 (by omega) (by omega) (by decide) (by decide)
theorem lp_mul1 (s : Scr) (at_ x : Int) : IntMulOk (lpOne s at_) (1 + x % 9) := (lp_one_bt s at_).mulOk (bt_a x) (by decide)
theorem lp_mul2 (s : Scr) (at_ x : Int) : IntMulOk (lpOne s at_) (x % ((10 : Int) ^ (6 : Int).toNat) + 1) := (lp_one_bt s at_).mulOk (bt_b x) (by decide)
theorem lp_rng (s : Scr) (at_ : Int) : 0 ≤ lpNumber s at_ / 9 % 40 ∧ lpNumber s at_ / 9 % 40 ≤ 100000 := by
  have h0 := Int.emod_nonneg (lpNumber s at_ / 9) (show (40 : Int) ≠ 0 by decide)
  have h1 := Int.emod_lt_of_pos (lpNumber s at_ / 9) (show (0 : Int) < 40 by decide)
  omega
theorem lp_fib1 (s : Scr) (at_ : Int) (h : decide (lpKind s at_ = 3) = true) : (fibs (lpNumber s at_ / 9 % 40).toNat (lpOne s at_, lpOther3 s at_)).1 = (lpFib s at_).1 ∧ (fibs (lpNumber s at_ / 9 % 40).toNat (lpOne s at_, lpOther3 s at_)).2 = (lpFib s at_).2 := by
  unfold lpFib
  rw [if_pos h]
  exact ⟨rfl, rfl⟩
theorem lp_fib2 (s : Scr) (at_ : Int) (h : decide (lpKind s at_ = 3) = false) : lpOne s at_ = (lpFib s at_).1 ∧ lpOther3 s at_ = (lpFib s at_).2 := by
  unfold lpFib
  rw [if_neg (by rw [h]; decide)]
  exact ⟨rfl, rfl⟩
theorem lp_end (s : Scr) (at_ : Int) : (if decide (lpNumber s at_ / 17 % 2 = 0) = true then ((lpFib s at_).1, (lpFib s at_).2) else ((lpFib s at_).2, (lpFib s at_).1)) = lawPair s at_ := rfl
/-! ### .. is small enough -/
theorem lp_o0 (s : Scr) (at_ : Int) : 0 < lpOther0 s at_ ∧ Bt 101 (lpOther0 s at_) := by
  have h := lp_wide_mem s at_
  have h0 := Int.emod_nonneg (lpNumber s at_ / 5) (show lpWide s at_ + 3 ≠ 0 by omega)
  have h1 := Int.emod_lt_of_pos (lpNumber s at_ / 5) (lp_wide3 s at_)
  unfold lpOther0
  exact ⟨by omega, bt_of (lo := 0) (hi := 10 ^ 30 + 4) 101 (by omega) (by omega) (by decide) (by decide)⟩
theorem lp_o1 (s : Scr) (at_ : Int) : 0 < lpOther1 s at_ ∧ Bt 105 (lpOther1 s at_) := by
  unfold lpOther1
  split
  · exact ⟨Int.mul_pos (lp_one s at_) (by have := rng_a (lpNumber s at_ / 11); omega), ((lp_one_bt s at_).mul (bt_a _)).mono (by decide)⟩
  · exact ⟨(lp_o0 s at_).1, (lp_o0 s at_).2.mono (by decide)⟩
theorem lp_o2 (s : Scr) (at_ : Int) : 0 < lpOther2 s at_ ∧ Bt 106 (lpOther2 s at_) := by
  unfold lpOther2
  split
  · have h0 := Int.emod_nonneg (lpNumber s at_) (show (2 : Int) ≠ 0 by decide)
    have h1 := Int.emod_lt_of_pos (lpNumber s at_) (show (0 : Int) < 2 by decide)
    exact ⟨by have := lp_one s at_; omega, ((lp_one_bt s at_).add (bt_of (lo := 0) (hi := 2) 100 h0 (by omega) (by decide) (by decide))).mono (by decide)⟩
  · exact ⟨(lp_o1 s at_).1, (lp_o1 s at_).2.mono (by decide)⟩
theorem lp_o3 (s : Scr) (at_ : Int) : 0 < lpOther3 s at_ ∧ Bt 130 (lpOther3 s at_) := by
  unfold lpOther3
  split
  · have h0 := Int.emod_nonneg (lpOther2 s at_) (show lpOne s at_ ≠ 0 by have := lp_one s at_; omega)
    have h1 := Int.emod_lt_of_pos (lpOther2 s at_) (lp_one s at_)
    have h2 := Int.mul_pos (lp_one s at_) (show 0 < lpNumber s at_ / 13 % ((10 : Int) ^ (6 : Int).toNat) + 1 by have := rng_b (lpNumber s at_ / 13); omega)
    exact ⟨by omega, ((((lp_one_bt s at_).mul (bt_b _)).mono (by decide)).add (((lp_one_bt s at_).le h0 (Int.le_of_lt h1)).mono (b := 129) (by decide))).mono (by decide)⟩
  · exact ⟨(lp_o2 s at_).1, (lp_o2 s at_).2.mono (by decide)⟩
theorem fibs_sm (p : Int × Int) (b : Nat) (h : Pos p) (h1 : Bt b p.1) (h2 : Bt b p.2) : ∀ n, Pos (fibs n p) ∧ Bt (b + n) (fibs n p).1 ∧ Bt (b + n) (fibs n p).2
  | 0 => ⟨h, h1, h2⟩
  | n + 1 => by
    obtain ⟨⟨a1, a2⟩, a3, a4⟩ := fibs_sm p b h h1 h2 n
    exact ⟨⟨a2, by show 0 < (fibs n p).1 + (fibs n p).2; omega⟩, a4.mono (Nat.le_succ _), a3.add a4⟩
theorem fib_sm (s : Scr) (at_ : Int) : Sm (lpFib s at_) := by
  have h0 : Pos (lpOne s at_, lpOther3 s at_) := ⟨lp_one s at_, (lp_o3 s at_).1⟩
  unfold lpFib
  split
  · have h := lp_rng s at_
    have h1 := Int.emod_lt_of_pos (lpNumber s at_ / 9) (show (0 : Int) < 40 by decide)
    obtain ⟨a, b, c⟩ := fibs_sm (lpOne s at_, lpOther3 s at_) 130 h0 ((lp_one_bt s at_).mono (by decide)) (lp_o3 s at_).2 (lpNumber s at_ / 9 % 40).toNat
    exact ⟨a, b.mono (by omega), c.mono (by omega)⟩
  · exact ⟨h0, (lp_one_bt s at_).mono (by decide), (lp_o3 s at_).2.mono (by decide)⟩
theorem fib_bt (s : Scr) (at_ : Int) : Bt 180 (lpFib s at_).1 ∧ Bt 180 (lpFib s at_).2 := by
  have h0 : Pos (lpOne s at_, lpOther3 s at_) := ⟨lp_one s at_, (lp_o3 s at_).1⟩
  unfold lpFib
  split
  · have h := lp_rng s at_
    have h1 := Int.emod_lt_of_pos (lpNumber s at_ / 9) (show (0 : Int) < 40 by decide)
    obtain ⟨a, b, c⟩ := fibs_sm (lpOne s at_, lpOther3 s at_) 130 h0 ((lp_one_bt s at_).mono (by decide)) (lp_o3 s at_).2 (lpNumber s at_ / 9 % 40).toNat
    exact ⟨b.mono (by omega), c.mono (by omega)⟩
  · exact ⟨(lp_one_bt s at_).mono (by decide), (lp_o3 s at_).2.mono (by decide)⟩
theorem lawPair_bt (s : Scr) (at_ : Int) : Bt 180 (lawPair s at_).1 ∧ Bt 180 (lawPair s at_).2 := by
  have h := fib_bt s at_
  unfold lawPair
  split
  · exact h
  · exact ⟨h.2, h.1⟩
theorem lawPair_sm (s : Scr) (at_ : Int) : Sm (lawPair s at_) := by
  have h := fib_sm s at_
  unfold lawPair
  split
  · exact h
  · exact h.swap'
theorem smc {p : Int × Int} (h : (decide (0 < p.1) && decide (0 < p.2) && decide (p.1.natAbs < 2 ^ 200) && decide (p.2.natAbs < 2 ^ 200)) = true) : Sm p := by
  simp only [Bool.and_eq_true, decide_eq_true_eq] at h
  exact ⟨⟨h.1.1.1, h.1.1.2⟩, (show Bt 200 p.1 from h.1.2).mono (by decide), (show Bt 200 p.2 from h.2).mono (by decide)⟩
/-- an item by a remainder -/
def getM (l : List Int) (z : Int) : Int := l.getD (z % (l.length : Int)).toNat 0
theorem getM_ix {l : List Int} (h : l ≠ []) (z : Int) : l[(z % (l.length : Int)).toNat]? = some (getM l z) := by
  have hl := List.length_pos_iff.mpr h
  have h0 := Int.emod_nonneg z (show (l.length : Int) ≠ 0 by omega)
  have h1 := Int.emod_lt_of_pos z (show (0 : Int) < (l.length : Int) by omega)
  unfold getM
  rw [List.getD_eq_getElem?_getD, List.getElem?_eq_getElem (by omega)]
  rfl
theorem rng1 {m : Int} (h : 0 < m) (z : Int) : 1 ≤ 1 + z % m ∧ 1 + z % m ≤ m := by
  have h0 := Int.emod_nonneg z (show m ≠ 0 by omega)
  have h1 := Int.emod_lt_of_pos z h
  omega
def cellsOf (s : Scr) (z : Int) : List Int := if (!decide (s.l = ([] : List Int))) = true then cutA s.l none (some 63) else [z]
theorem cells_len (s : Scr) (z : Int) : (cellsOf s z).length ≤ 63 := by
  unfold cellsOf
  split
  · rw [show (some 63 : Option Int) = some ((63 : Nat) : Int) from rfl, cutA_to, List.length_take]
    omega
  · show 1 ≤ 63
    decide
theorem cells_pos (s : Scr) (z : Int) : 0 < (cellsOf s z).length := by
  unfold cellsOf
  by_cases c : s.l = []
  · rw [c]; exact Nat.one_pos
  · rw [if_pos (by simp [c]), show (some 63 : Option Int) = some ((63 : Nat) : Int) from rfl, cutA_to, List.length_take]
    have := List.length_pos_iff.mpr c
    omega
theorem cells_mem {s : Scr} {z x : Int} (h : x ∈ cellsOf s z) : x ∈ s.l ∨ x = z := by
  unfold cellsOf at h
  split at h
  · rw [show (some 63 : Option Int) = some ((63 : Nat) : Int) from rfl, cutA_to] at h
    exact .inl (List.mem_of_mem_take h)
  · exact .inr (by simpa using h)
theorem cells0 (s : Scr) (z : Int) : (cellsOf s z)[(0 : Int).toNat]? = some ((cellsOf s z).getD 0 0) := by
  have := cells_pos s z
  rw [List.getD_eq_getElem?_getD]
  show (cellsOf s z)[0]? = _
  rw [List.getElem?_eq_getElem this]
  rfl
theorem cell_bt {s : Scr} {z x : Int} (h : ∀ y ∈ s.l, Bt 1048576 y) (hx : x ∈ s.l ∨ x = z) (hz : Bt 1048576 z := by exact (bt_c 7).mono (by decide)) : Bt 1048576 x := by
  rcases hx with c | c
  · exact h _ c
  · rw [c]; exact hz
end Mt
namespace Mt
/-! ### the row of quotients -/
def euF : Nat → Int → Int → List Int × Int
  | 0, h, _ => ([], h)
  | n + 1, h, l => if 0 < l then (h / l :: (euF n l (h % l)).1, (euF n l (h % l)).2) else ([], h)
inductive Eu : Int → Int → List Int → Int → Prop
  | stop {h l : Int} : ¬ 0 < l → Eu h l [] h
  | step {h l : Int} {r : List Int} {g : Int} : 0 < l → Eu l (h % l) r g → Eu h l (h / l :: r) g
theorem euF_eu : ∀ (n : Nat) (h l : Int), l.toNat < n → Eu h l (euF n h l).1 (euF n h l).2
  | 0, _, _, hn => absurd hn (Nat.not_lt_zero _)
  | n + 1, h, l, hn => by
    unfold euF
    by_cases c : 0 < l
    · rw [if_pos c]
      have h1 := Int.emod_lt_of_pos h c
      have h0 := Int.emod_nonneg h (show l ≠ 0 by omega)
      exact .step c (euF_eu n l (h % l) (by omega))
    · rw [if_neg c]
      exact .stop c
theorem Eu.pos {h l : Int} {r : List Int} {g : Int} (e : Eu h l r g) (c : 0 < l) : ∃ r', r = h / l :: r' ∧ Eu l (h % l) r' g := by
  cases e with
  | stop n => exact absurd c n
  | step _ e => exact ⟨_, rfl, e⟩
theorem Eu.non {h l : Int} {r : List Int} {g : Int} (e : Eu h l r g) (c : ¬ 0 < l) : r = [] ∧ g = h := by
  cases e with
  | stop n => exact ⟨rfl, rfl⟩
  | step d e => exact absurd d c
theorem Eu.det {h l : Int} {r r' : List Int} {g g' : Int} (e : Eu h l r g) : Eu h l r' g' → r' = r ∧ g' = g := by
  induction e generalizing r' g' with
  | stop n => intro e'; exact e'.non n
  | step c e ih =>
    intro e'
    obtain ⟨s, rfl, e''⟩ := e'.pos c
    obtain ⟨rfl, rfl⟩ := ih e''
    exact ⟨rfl, rfl⟩
theorem Eu.all {h l : Int} {r : List Int} {g : Int} (e : Eu h l r g) : l ≤ h → ∀ x ∈ r, 1 ≤ x ∧ x ≤ h := by
  induction e with
  | stop n => intro _ x hx; cases hx
  | @step h l r g c e ih =>
    intro hl x hx
    have h1 := Int.emod_lt_of_pos h c
    rcases List.mem_cons.mp hx with d | d
    · rw [d]
      exact ⟨(Int.le_ediv_iff_mul_le c).mpr (by omega), Int.ediv_le_self _ (by omega)⟩
    · have := ih (by omega) x d
      omega
theorem Eu.last {h l : Int} {r : List Int} {g : Int} (e : Eu h l r g) : 0 < l → l < h → ∃ x, r.getLast? = some x ∧ 1 < x := by
  induction e with
  | stop n => intro c; exact absurd c n
  | @step h l r g c e ih =>
    intro _ hl
    have h1 := Int.emod_lt_of_pos h c
    have h0 := Int.emod_nonneg h (show l ≠ 0 by omega)
    by_cases d : 0 < h % l
    · obtain ⟨x, hx, hx1⟩ := ih d h1
      refine ⟨x, ?_, hx1⟩
      rw [List.getLast?_cons, hx]
      rfl
    · have hh := (e.non d).1
      subst hh
      refine ⟨h / l, rfl, ?_⟩
      have h2 := Int.mul_ediv_add_emod h l
      rcases Int.lt_or_le 1 (h / l) with z | z
      · exact z
      · exfalso
        have := Int.mul_le_mul_of_nonneg_left z (show 0 ≤ l by omega)
        omega
theorem Eu.g_rng {h l : Int} {r : List Int} {g : Int} (e : Eu h l r g) : 0 < h → 0 ≤ l → 1 ≤ g ∧ g ≤ max h l := by
  induction e with
  | stop n => intro hh hl; omega
  | @step h l r g c e ih =>
    intro hh hl
    have h1 := Int.emod_lt_of_pos h c
    have h0 := Int.emod_nonneg h (show l ≠ 0 by omega)
    have := ih c h0
    omega
theorem Eu.len {h l : Int} {r : List Int} {g : Int} (e : Eu h l r g) : ∀ n : Nat, l < 2 ^ n → r.length ≤ 2 * n + 1 := by
  have key : ∀ (k : Nat) (h l : Int) (r : List Int) (g : Int), r.length ≤ k → Eu h l r g → ∀ n : Nat, l < 2 ^ n → r.length ≤ 2 * n := by
    intro k
    induction k with
    | zero => intro h l r g hk e n hn; omega
    | succ k ih =>
      intro h l r g hk e n hn
      cases e with
      | stop c => simp
      | step c e1 =>
        have h1 := Int.emod_lt_of_pos h c
        have h0 := Int.emod_nonneg h (show l ≠ 0 by omega)
        match n, hn with
        | 0, hn => exfalso; have : (2 : Int) ^ 0 = 1 := rfl; omega
        | n + 1, hn =>
          cases e1 with
          | stop d => simp; omega
          | step d e2 =>
            have h2 := Int.emod_lt_of_pos l d
            have h3 := Int.mul_ediv_add_emod l (h % l)
            have h4 : 1 ≤ l / (h % l) := (Int.le_ediv_iff_mul_le d).mpr (by omega)
            have h5 := Int.mul_le_mul_of_nonneg_left h4 (show 0 ≤ h % l by omega)
            have h6 : (2 : Int) ^ (n + 1) = 2 ^ n * 2 := rfl
            have := ih _ _ _ _ (by simp at hk; omega) e2 n (by omega)
            simp only [List.length_cons]
            omega
  intro n hn
  have := key r.length h l r g (Nat.le_refl _) e n hn
  omega
/-! ### the pair of a row -/
def bstp (s : Int × Int) (q : Int) : Int × Int := (q * s.1 + s.2, s.1)
def backR : List Int → Int → Int × Int
  | [], g => (g, 0)
  | q :: r, g => bstp (backR r g) q
theorem backR_foldl (r : List Int) (g : Int) : r.reverse.foldl bstp (g, 0) = backR r g := by
  rw [List.foldl_reverse]
  induction r with
  | nil => rfl
  | cons q r ih => rw [List.foldr_cons, ih]; rfl
theorem Eu.back {h l : Int} {r : List Int} {g : Int} (e : Eu h l r g) : 0 ≤ l → backR r g = (h, l) := by
  induction e with
  | stop n => intro c; unfold backR; exact Prod.ext rfl (by show (0 : Int) = _; omega)
  | @step h l r g c e ih =>
    intro _
    have h0 := Int.emod_nonneg h (show l ≠ 0 by omega)
    unfold backR
    rw [ih h0]
    unfold bstp
    refine Prod.ext ?_ rfl
    show h / l * l + h % l = h
    rw [Int.mul_comm]
    exact Int.mul_ediv_add_emod h l
structure GoodRow (r : List Int) : Prop where
  pos : ∀ x ∈ r, 1 ≤ x
  last : r.length = 1 ∨ ∃ x, r.getLast? = some x ∧ 1 < x
theorem back_strict {g : Int} (hg : 1 ≤ g) : ∀ r : List Int, r ≠ [] → (∀ x ∈ r, 1 ≤ x) → (∃ x, r.getLast? = some x ∧ 1 < x) → 1 ≤ (backR r g).2 ∧ (backR r g).2 < (backR r g).1
  | [], h, _, _ => absurd rfl h
  | [q], _, _, ⟨x, hx, hx1⟩ => by
    have e : q = x := Option.some.inj hx
    subst e
    show 1 ≤ g ∧ g < q * g + 0
    have := Int.mul_le_mul_of_nonneg_right (show 2 ≤ q by omega) (show 0 ≤ g by omega)
    omega
  | q :: q' :: r, _, hp, ⟨x, hx, hx1⟩ => by
    have ih := back_strict hg (q' :: r) (by simp) (fun y hy => hp y (List.mem_cons_of_mem _ hy)) ⟨x, by rw [List.getLast?_cons_cons] at hx; exact hx, hx1⟩
    have hq := hp q List.mem_cons_self
    show 1 ≤ (backR (q' :: r) g).1 ∧ (backR (q' :: r) g).1 < q * (backR (q' :: r) g).1 + (backR (q' :: r) g).2
    have := Int.mul_le_mul_of_nonneg_right hq (show 0 ≤ (backR (q' :: r) g).1 by omega)
    omega
theorem back_eu {g : Int} (hg : 1 ≤ g) : ∀ r : List Int, r ≠ [] → GoodRow r → Eu (backR r g).1 (backR r g).2 r g ∧ 1 ≤ (backR r g).2 ∧ (backR r g).2 ≤ (backR r g).1
  | [], h, _ => absurd rfl h
  | [q], _, hr => by
    have hq := hr.pos q List.mem_cons_self
    have e : q * g + 0 = q * g := Int.add_zero _
    show Eu (q * g + 0) g [q] g ∧ 1 ≤ g ∧ g ≤ q * g + 0
    rw [e]
    have h1 : q * g / g = q := Int.mul_ediv_cancel q (by omega)
    have h2 : q * g % g = 0 := Int.mul_emod_left q g
    refine ⟨?_, hg, ?_⟩
    · have := Eu.step (h := q * g) (l := g) (r := []) (g := g) (by omega) (by rw [h2]; exact .stop (by decide))
      rw [h1] at this
      exact this
    · have := Int.mul_le_mul_of_nonneg_right hq (show 0 ≤ g by omega)
      omega
  | q :: q' :: r, _, hr => by
    have hq := hr.pos q List.mem_cons_self
    have hl : ∃ x, (q' :: r).getLast? = some x ∧ 1 < x := by
      rcases hr.last with h | ⟨x, hx, hx1⟩
      · simp at h
      · exact ⟨x, by rw [List.getLast?_cons_cons] at hx; exact hx, hx1⟩
    have hp : ∀ x ∈ q' :: r, 1 ≤ x := fun y hy => hr.pos y (List.mem_cons_of_mem _ hy)
    obtain ⟨ih, i1, i2⟩ := back_eu hg (q' :: r) (by simp) ⟨hp, .inr hl⟩
    obtain ⟨s1, s2⟩ := back_strict hg (q' :: r) (by simp) hp hl
    show Eu (q * (backR (q' :: r) g).1 + (backR (q' :: r) g).2) (backR (q' :: r) g).1 (q :: q' :: r) g ∧ 1 ≤ (backR (q' :: r) g).1 ∧ (backR (q' :: r) g).1 ≤ q * (backR (q' :: r) g).1 + (backR (q' :: r) g).2
    generalize (backR (q' :: r) g).1 = h at *
    generalize (backR (q' :: r) g).2 = l at *
    have h1 : (q * h + l) / h = q := by
      rw [Int.add_comm, Int.add_mul_ediv_right _ _ (by omega), Int.ediv_eq_zero_of_lt (by omega) s2, Int.zero_add]
    have h2 : (q * h + l) % h = l := by
      rw [Int.add_comm, Int.add_mul_emod_self_right, Int.emod_eq_of_lt (by omega) s2]
    refine ⟨?_, by omega, ?_⟩
    · have := Eu.step (h := q * h + l) (l := h) (r := q' :: r) (g := g) (by omega) (by rw [h2]; exact ih)
      rw [h1] at this
      exact this
    · have := Int.mul_le_mul_of_nonneg_right hq (show 0 ≤ h by omega)
      omega
end Mt

namespace Mt
open PySem PySem.Spec L2 Evl PyProof.Rows
/-! ### rows of pairs -/
structure Sq (p : Int × Int) : Prop where
  pos : Pos p
  b1 : Bt 5000 p.1
  b2 : Bt 5000 p.2
theorem Sq.hi {p : Int × Int} (h : Sq p) : Bt 5000 (max p.1 p.2) := by
  rcases Int.le_total p.1 p.2 with c | c
  · rw [Int.max_eq_right c]; exact h.b2
  · rw [Int.max_eq_left c]; exact h.b1
theorem Sq.lo {p : Int × Int} (h : Sq p) : Bt 5000 (min p.1 p.2) := by
  rcases Int.le_total p.1 p.2 with c | c
  · rw [Int.min_eq_left c]; exact h.b1
  · rw [Int.min_eq_right c]; exact h.b2
theorem Sq.swap {p : Int × Int} (h : Sq p) : Sq (p.2, p.1) := ⟨⟨h.pos.2, h.pos.1⟩, h.b2, h.b1⟩
def rowOf (p : Int × Int) : List Int := (euF ((min p.1 p.2).toNat + 1) (max p.1 p.2) (min p.1 p.2)).1
def comOf (p : Int × Int) : Int := (euF ((min p.1 p.2).toNat + 1) (max p.1 p.2) (min p.1 p.2)).2
abbrev quoOf (p : Int × Int) : List Int × Int := (rowOf p, comOf p)
theorem row_eu (p : Int × Int) : Eu (max p.1 p.2) (min p.1 p.2) (rowOf p) (comOf p) := euF_eu _ _ _ (by omega)
theorem mm_rng {p : Int × Int} (h : Pos p) : 1 ≤ min p.1 p.2 ∧ min p.1 p.2 ≤ max p.1 p.2 := by have := h.1; have := h.2; omega
theorem row_len {p : Int × Int} {n : Nat} (h : Pos p) (hb : Bt n (min p.1 p.2)) : (rowOf p).length ≤ 2 * n + 1 := (row_eu p).len n (by
  unfold Bt at hb
  have e : ((2 ^ n : Nat) : Int) = (2 : Int) ^ n := by simp
  have := mm_rng h
  omega)
theorem row_swap (p : Int × Int) : rowOf (p.2, p.1) = rowOf p := by
  unfold rowOf
  rw [show max (p.2, p.1).1 (p.2, p.1).2 = max p.1 p.2 from Int.max_comm _ _, show min (p.2, p.1).1 (p.2, p.1).2 = min p.1 p.2 from Int.min_comm _ _]
theorem com_swap (p : Int × Int) : comOf (p.2, p.1) = comOf p := by
  unfold comOf
  rw [show max (p.2, p.1).1 (p.2, p.1).2 = max p.1 p.2 from Int.max_comm _ _, show min (p.2, p.1).1 (p.2, p.1).2 = min p.1 p.2 from Int.min_comm _ _]
theorem row_rng {p : Int × Int} (h : Pos p) : ∀ x ∈ rowOf p, 1 ≤ x ∧ x ≤ max p.1 p.2 := (row_eu p).all (mm_rng h).2
theorem row_one {p : Int × Int} (h : Pos p) (e : p.1 = p.2) : rowOf p = [1] := by
  have h0 := h.1
  have e1 := row_eu p
  rw [show max p.1 p.2 = p.1 by omega, show min p.1 p.2 = p.1 by omega] at e1
  have d1 := Int.ediv_self (a := p.1) (by omega)
  have d2 : p.1 % p.1 = 0 := Int.emod_self
  obtain ⟨r', e2, e3⟩ := e1.pos h0
  rw [d2] at e3
  rw [e2, d1, (e3.non (by decide)).1]
theorem row_last {p : Int × Int} (h : Pos p) (e : p.1 ≠ p.2) : ∃ x, (rowOf p).getLast? = some x ∧ 1 < x := (row_eu p).last (by have := mm_rng h; omega) (by omega)
theorem row_good {p : Int × Int} (h : Pos p) : GoodRow (rowOf p) := ⟨fun x hx => (row_rng h x hx).1, by
  by_cases e : p.1 = p.2
  · exact .inl (by rw [row_one h e]; rfl)
  · exact .inr (row_last h e)⟩
theorem row_ne {p : Int × Int} (h : Pos p) : rowOf p ≠ [] := by
  obtain ⟨r', e, _⟩ := (row_eu p).pos (mm_rng h).1
  rw [e]
  simp
theorem com_rng {p : Int × Int} (h : Pos p) : 1 ≤ comOf p ∧ comOf p ≤ max p.1 p.2 := by
  have := (row_eu p).g_rng (by have := mm_rng h; omega) (by have := mm_rng h; omega)
  have := mm_rng h
  omega
theorem row_back {p : Int × Int} (h : Pos p) : backR (rowOf p) (comOf p) = (max p.1 p.2, min p.1 p.2) := (row_eu p).back (by have := mm_rng h; omega)
theorem back_row {r : List Int} {g : Int} (hg : 1 ≤ g) (hn : r ≠ []) (hr : GoodRow r) : rowOf (backR r g) = r ∧ comOf (backR r g) = g := by
  obtain ⟨e, h1, h2⟩ := back_eu hg r hn hr
  have e2 := row_eu (backR r g)
  rw [Int.max_eq_left h2, Int.min_eq_right h2] at e2
  exact e.det e2
theorem back_pos {r : List Int} {g : Int} (hg : 1 ≤ g) (hn : r ≠ []) (hr : GoodRow r) : Pos (backR r g) := by
  obtain ⟨e, h1, h2⟩ := back_eu hg r hn hr
  exact ⟨by omega, by omega⟩
def shortOf (p : Int × Int) : Int := ((rowOf p).length : Int) - 1 + (if decide (1 < (rowOf p).getLast?.getD 0) = true then 1 else 0)
def longOf (p : Int × Int) : Int := (rowOf p).sum - 1
theorem short_form {p : Int × Int} (h : Pos p) : shortOf p = ((rowOf p).length : Int) - (if decide (rowOf p = [1]) = true then 1 else 0) := by
  unfold shortOf
  by_cases e : p.1 = p.2
  · rw [row_one h e] <;> rfl
  · obtain ⟨x, hx, hx1⟩ := row_last h e
    rw [hx]
    have hne : ¬ rowOf p = [1] := fun c => by
      rw [c] at hx
      have : (1 : Int) = x := Option.some.inj hx
      omega
    rw [if_pos (decide_eq_true (show 1 < (some x).getD 0 from hx1)), if_neg (by simp [hne])]
    omega
/-! ### .. and their bounds -/
def RowB (n : Nat) (r : List Int) (c : Int) : Prop := ∃ a b, (∀ x ∈ r, Bt a x) ∧ Bt b c ∧ b + (a + 1) * r.length ≤ n
theorem foldl_bt {a : Nat} : ∀ (as : List Int) (s : Int × Int) (b : Nat), Bt b s.1 → Bt b s.2 → (∀ x ∈ as, Bt a x) → Bt (b + (a + 1) * as.length) (as.foldl bstp s).1 ∧ Bt (b + (a + 1) * as.length) (as.foldl bstp s).2
  | [], s, b, h1, h2, _ => ⟨h1, h2⟩
  | x :: as, s, b, h1, h2, h => by
    have hx := h x List.mem_cons_self
    have m1 : Bt (b + (a + 1)) (bstp s x).1 := ((hx.mul h1).add (h2.mono (by omega))).mono (by omega)
    have m2 : Bt (b + (a + 1)) (bstp s x).2 := h1.mono (by omega)
    have := foldl_bt as (bstp s x) (b + (a + 1)) m1 m2 (fun y hy => h y (List.mem_cons_of_mem _ hy))
    rw [List.foldl_cons, List.length_cons, Nat.mul_add, Nat.mul_one, Nat.add_comm _ (a + 1), ← Nat.add_assoc]
    exact this
theorem RowB.at_ {n k : Nat} {r : List Int} {c : Int} (h : RowB n r c) : Bt n ((r.reverse.take k).foldl bstp (c, 0)).1 ∧ Bt n ((r.reverse.take k).foldl bstp (c, 0)).2 := by
  obtain ⟨a, b, h1, h2, h3⟩ := h
  have hb := foldl_bt (a := a) (r.reverse.take k) (c, 0) b h2 (Nat.two_pow_pos b) (fun x hx => h1 x (List.mem_reverse.mp (List.mem_of_mem_take hx)))
  have hl : (r.reverse.take k).length ≤ r.length := by rw [List.length_take, List.length_reverse]; omega
  have := Nat.mul_le_mul_left (a + 1) hl
  exact ⟨hb.1.mono (by omega), hb.2.mono (by omega)⟩
theorem RowB.back {n : Nat} {r : List Int} {c : Int} (h : RowB n r c) : Bt n (backR r c).1 ∧ Bt n (backR r c).2 := by
  have := h.at_ (k := r.length)
  rw [List.take_of_length_le (by rw [List.length_reverse]; omega), backR_foldl] at this
  exact this
theorem RowB.mem {n : Nat} {r : List Int} {c : Int} (h : RowB n r c) {x : Int} (hx : x ∈ r) : Bt n x := by
  obtain ⟨a, b, h1, h2, h3⟩ := h
  have : 1 ≤ r.length := List.length_pos_iff.mpr (fun e => by rw [e] at hx; cases hx)
  have := Nat.mul_le_mul_left (a + 1) this
  exact (h1 x hx).mono (by omega)
theorem take_step {α : Type} {as : List α} {n : Nat} {x : α} (h : as[n]? = some x) : as.take (n + 1) = as.take n ++ [x] := by
  rw [List.take_succ, h] <;> rfl
theorem back_step {as : List Int} {n : Nat} {x : Int} (h : as[n]? = some x) (s : Int × Int) : (as.take (n + 1)).foldl bstp s = bstp ((as.take n).foldl bstp s) x := by
  rw [take_step h, List.foldl_append] <;> rfl
theorem last_getD {r : List Int} (h : r ≠ []) : r.getLast? = some (r.getLast?.getD 0) := by
  cases e : r.getLast? with
  | none => exact absurd (List.getLast?_eq_none_iff.mp e) h
  | some x => rfl
theorem all_pos {r : List Int} (h : ∀ x ∈ r, 1 ≤ x) : ((r.map fun xc => (true && decide (0 < xc))).all id) = true := by
  rw [List.all_map, List.all_eq_true]
  intro x hx
  have := h x hx
  simp only [Function.comp, id, Bool.true_and]
  exact decide_eq_true (by omega)
theorem good_last {r : List Int} (hn : r ≠ []) (h : GoodRow r) : (decide ((r.length : Int) = 1) || decide (1 < r.getLast?.getD 0)) = true := by
  rcases h.last with c | ⟨x, hx, hx1⟩
  · rw [decide_eq_true (show (r.length : Int) = 1 by omega)] <;> rfl
  · rw [hx, Bool.or_eq_true]
    exact .inr (decide_eq_true hx1)
theorem bt_max {n : Nat} {p : Int × Int} (h : Bt n p.1 ∧ Bt n p.2) : Bt n (max p.1 p.2) ∧ Bt n (min p.1 p.2) := by
  rcases Int.le_total p.1 p.2 with c | c
  · rw [Int.max_eq_right c, Int.min_eq_left c]; exact ⟨h.2, h.1⟩
  · rw [Int.max_eq_left c, Int.min_eq_right c]; exact ⟨h.1, h.2⟩
theorem row_ok {p : Int × Int} (hp : Pos p) (hb : Bt 180 p.1 ∧ Bt 180 p.2) : rowOf p ≠ [] ∧ GoodRow (rowOf p) ∧ (rowOf p).length ≤ 1000 ∧ 1 ≤ comOf p ∧ RowB 1000000 (rowOf p) (comOf p) := by
  have hm := bt_max hb
  have hl := row_len hp hm.2
  refine ⟨row_ne hp, row_good hp, by omega, (com_rng hp).1, 180, 180, fun x hx => ?_, ?_, by omega⟩
  · have := row_rng hp x hx
    exact hm.1.le (by omega) this.2
  · have := com_rng hp
    exact hm.1.le (by omega) this.2
theorem all_true {α : Type} (l : List α) : ((l.map fun _ => true).all id) = true := by
  rw [List.all_map, List.all_eq_true]
  intro x _
  rfl
theorem sq_c {p : Int × Int} (h : (decide (0 < p.1) && decide (0 < p.2) && decide (p.1.natAbs < 2 ^ 200) && decide (p.2.natAbs < 2 ^ 200)) = true) : Sq p := by
  simp only [Bool.and_eq_true, decide_eq_true_eq] at h
  exact ⟨⟨h.1.1.1, h.1.1.2⟩, (show Bt 200 p.1 from h.1.2).mono (by decide), (show Bt 200 p.2 from h.2).mono (by decide)⟩
theorem sqs {ps : List (Int × Int)} (h : (ps.all fun p => (decide (0 < p.1) && decide (0 < p.2) && decide (p.1.natAbs < 2 ^ 200) && decide (p.2.natAbs < 2 ^ 200))) = true) : ∀ p ∈ ps, Sq p := fun p hp => sq_c (List.all_eq_true.mp h p hp)
theorem row_c {r : List Int} {c : Int} (h : (decide (r ≠ []) && r.all (fun x => decide (1 ≤ x)) && (decide (r.length = 1) || decide (1 < r.getLast?.getD 0)) && decide (r.length ≤ 1000) && decide (1 ≤ c) && r.all (fun x => decide (x.natAbs < 2 ^ 200)) && decide (c.natAbs < 2 ^ 200)) = true) :
    r ≠ [] ∧ GoodRow r ∧ r.length ≤ 1000 ∧ 1 ≤ c ∧ RowB 1000000 r c := by
  simp only [Bool.and_eq_true, Bool.or_eq_true, decide_eq_true_eq, List.all_eq_true] at h
  obtain ⟨⟨⟨⟨⟨⟨h1, h2⟩, h3⟩, h4⟩, h5⟩, h6⟩, h7⟩ := h
  refine ⟨h1, ⟨h2, ?_⟩, h4, h5, 200, 200, h6, h7, by omega⟩
  rcases h3 with c | c
  · exact .inl c
  · exact .inr ⟨_, last_getD h1, c⟩
/-! ### rules -/
section
variable {K : PySem.W.Frag} {σ : L2.St} {H H' : Hp} {ta tb tc te : TE} {t u : TT} {α β γ : Type} [Rep K α] [Rep K β] [Rep K γ] {a : α} {b : β} {D : Ends} {tu tw tz : TS} {g : TG} {i j k : Nat}
theorem ixN_last {n : Nat} (h : 0 < n) : ixN n (-1) = some (n - 1) := by
  unfold ixN
  rw [if_neg (by omega), if_pos (by omega)]
  congr 1
  omega
theorem evr_ixZ {as : List α} {x : α} (ha : EvR K ta σ H as) (hx : as.getLast? = some x) : EvR K (tOp (rIxL K) ta (tUn (rU fun i => .int (-i)) (tC (.int 1)))) σ H x := fun H1 e Q q => ha H1 e _ fun v H2 e2 ⟨p, vs, ev, hp, rs⟩ => by
  rw [List.getLast?_eq_getElem?] at hx
  obtain ⟨z, hz, rz⟩ := paired_get rs hx
  have hl : vs.length = as.length := rs.length
  have hn : 0 < vs.length := by have := (List.getElem?_eq_some_iff.mp hz).1; omega
  refine ⟨1, rfl, p, vs, -1, z, ev, rfl, SqL.of hp, ?_, q _ H2 e2 rz⟩
  unfold atI
  rw [ixN_last hn, hl]
  exact hz
theorem evr_intB {x : Bool} (ha : EvR K ta σ H x) : EvR K (tCB (fun xs H Q => (∃ i, xs = [.int i] ∧ Q (.int i) H) ∨ ∃ k, xs = [.bl k] ∧ Q (.int (if k then 1 else 0)) H) (tCons ta tNil)) σ H (if x = true then (1 : Int) else 0) := fun H1 e Q q => ha H1 e _ fun v H2 e2 r =>
  .inr ⟨x, by rw [show v = V.bl x from r], q _ H2 e2 rfl⟩
theorem evr_abs {n : Int} (ha : EvR K ta σ H n) : EvR K (tCB (fun xs H Q => ∃ i, xs = [.int i] ∧ Q (.int (if i < 0 then -i else i)) H) (tCons ta tNil)) σ H (if n < 0 then -n else n) := fun H1 e Q q => ha H1 e _ fun v H2 e2 r =>
  ⟨n, by rw [show v = V.int n from r], q _ H2 e2 rfl⟩
/-- xs[-1] = e, xs a list of one's own -/
theorem r_setZ [RepT K α] {to : TE} {l : Addr} {us : List V} {as : List α} {H0 : Hp} (h0 : H0 l = none) (hex : Ex H0 H) (hl : H l = some (.lst us)) (hs : Paired (rep K H) us as) (hv : EvR K te σ H a) (ho : Ev to σ H (.ref l)) (hn : as ≠ [])
    (kk : ∀ us' H2, Ex H0 H2 → H2 l = some (.lst us') → Paired (rep K H2) us' (as.set (as.length - 1) a) → tz D σ H2) : tSeq (tAsg te (gSub to (tUn (rU fun i => .int (-i)) (tC (.int 1))) rSetL)) tz D σ H :=
  hv H (Ex.refl H) _ fun v H1 e1 r => ho H1 e1 _ fun H2 e2 => by
    have e13 := e1.trans e2
    have hl3 := e13 _ _ hl
    have hnt := not_tup_lst hl3
    have hlen : us.length = as.length := hs.length
    have : 0 < as.length := List.length_pos_iff.mpr hn
    refine ⟨1, rfl, l, us, -1, us.length - 1, rfl, rfl, hl3, ixN_last (by omega), ?_⟩
    refine kk _ _ (Ex.mut (hex.trans e13) h0) upd_same ?_
    rw [hlen]
    exact paired_set (RepT.stab hnt (rmono e2 r)) _ (pstab hnt (pmono e13 hs))
/-- xs.append(e), xs a list of one's own -/
theorem r_app [RepT K α] {to : TE} {l : Addr} {us : List V} {as : List α} {H0 : Hp} (h0 : H0 l = none) (hex : Ex H0 H) (hl : H l = some (.lst us)) (hs : Paired (rep K H) us as) (ho : Ev to σ H (.ref l)) (hv : EvR K te σ H a) (hz : as.length < 100000)
    (kk : ∀ us' H2, Ex H0 H2 → H2 l = some (.lst us') → Paired (rep K H2) us' (as ++ [a]) → tz D σ H2) : tSeq (tDrop (tBM K "list" rAppend to (tCons te tNil))) tz D σ H :=
  ho H (Ex.refl H) _ fun H1 e1 => ⟨Or.inl ⟨rfl, us, sq_of (e1 l _ hl)⟩, hv H1 e1 _ fun v H2 e2 r => by
    have e12 := e1.trans e2
    have hl2 := e12 _ _ hl
    have hnt := not_tup_lst hl2
    have hlen : us.length = as.length := hs.length
    exact ⟨l, us, v, rfl, rfl, hl2, sz_lt (by omega), kk _ _ (Ex.mut (hex.trans e12) h0) upd_same (paired_append (pstab hnt (pmono e12 hs)) (.cons (RepT.stab hnt r) .nil))⟩⟩
theorem r_app1 [RepT K α] {to : TE} {l : Addr} {us : List V} {as : List α} {H0 : Hp} (h0 : H0 l = none) (hex : Ex H0 H) (hl : H l = some (.lst us)) (hs : Paired (rep K H) us as) (ho : Ev to σ H (.ref l)) (hv : EvR K te σ H a) (hz : as.length < 100000)
    (kk : ∀ us' H2, Ex H0 H2 → H2 l = some (.lst us') → Paired (rep K H2) us' (as ++ [a]) → D.nx σ H2) : tDrop (tBM K "list" rAppend to (tCons te tNil)) D σ H :=
  ho H (Ex.refl H) _ fun H1 e1 => ⟨Or.inl ⟨rfl, us, sq_of (e1 l _ hl)⟩, hv H1 e1 _ fun v H2 e2 r => by
    have e12 := e1.trans e2
    have hl2 := e12 _ _ hl
    have hnt := not_tup_lst hl2
    have hlen : us.length = as.length := hs.length
    exact ⟨l, us, v, rfl, rfl, hl2, sz_lt (by omega), kk _ _ (Ex.mut (hex.trans e12) h0) upd_same (paired_append (pstab hnt (pmono e12 hs)) (.cons (RepT.stab hnt r) .nil))⟩⟩
theorem ev_ix0 {T : Addr} {x y : V} (hv : σ[i]? = some (some (.ref T))) (h : H T = some (.tup [x, y])) : Ev (tOp (rIxT K) (tVar i) (tC (.int 0))) σ H x := fun H1 e Q q =>
  ⟨_, hv, T, [x, y], 0, x, rfl, rfl, SqT.of (e _ _ h), rfl, q H1 (Ex.refl _)⟩
/-- a def that gives a new list -/
def Fn1N (K : PySem.W.Frag) {α β : Type} [Rep K α] [Rep K β] (pre : α → Prop) (f : α → List β) : Sp := fun vs H Q _ => ∃ v a, vs = [v] ∧ rep K H v a ∧ pre a ∧ ∀ p us H', H p = none → Ex H H' → H' p = some (.lst us) → Paired (rep K H') us (f a) → Q (.ref p) H'
theorem Fn1N.len {pre : α → Prop} {f : α → List β} {vs : List V} {H : Hp} {Q : VK} {E : XK} (h : Fn1N K pre f vs H Q E) : vs.length = 1 := by obtain ⟨v, a, rfl, _⟩ := h; rfl
theorem evn_call1 {pre : α → Prop} {f : α → List β} {E : XK} {a : α} (ha : EvR K ta σ H a) (hp : pre a) : EvN K (tCall (Fn1N K pre f) [] E (tCons ta tNil)) σ H (f a) := fun H1 e Q q => ha H1 e _ fun v H2 e2 r =>
  ⟨v, a, rfl, r, hp, fun p us H3 hp e3 hl hs => q p us H3 (fresh_back e2 hp) (e2.trans e3) hl hs⟩
/-- quotients: a new list and a number -/
def spQ (K : PySem.W.Frag) : Sp := fun vs H Q _ => ∃ v p, vs = [v] ∧ rep K H v p ∧ Sq p ∧ ∀ T L us H', H L = none → Ex H H' → H' T = some (.tup [.ref L, .int (comOf p)]) → H' L = some (.lst us) → Paired (rep K H') us (rowOf p) → Q (.ref T) H'
theorem spQ.len {vs : List V} {H : Hp} {Q : VK} {E : XK} (h : spQ K vs H Q E) : vs.length = 1 := by obtain ⟨v, a, rfl, _⟩ := h; rfl
theorem evr_callQ {E : XK} {p : Int × Int} (ha : EvR K ta σ H p) (hp : Sq p) : EvR K (tCall (spQ K) [] E (tCons ta tNil)) σ H (rowOf p, comOf p) := fun H1 e Q q => ha H1 e _ fun v H2 e2 r =>
  ⟨v, p, rfl, r, hp, fun T L us H3 hL e3 hT hl hs => q _ H3 (e2.trans e3) ⟨T, _, _, rfl, hT, ⟨L, us, rfl, hl, hs⟩, rfl⟩⟩
theorem r_asgQ {E : XK} {p : Int × Int} (ha : EvR K ta σ H p) (hp : Sq p) (kk : ∀ T L us H1, H L = none → Ex H H1 → H1 T = some (.tup [.ref L, .int (comOf p)]) → H1 L = some (.lst us) → Paired (rep K H1) us (rowOf p) → tz D (σ.set i (some (.ref T))) H1) :
    tSeq (tAsg (tCall (spQ K) [] E (tCons ta tNil)) (gName i)) tz D σ H := ha H (Ex.refl H) _ fun v H2 e2 r =>
  ⟨v, p, rfl, r, hp, fun T L us H3 hL e3 hT hl hs => kk T L us H3 (fresh_back e2 hL) (e2.trans e3) hT hl hs⟩
end
end Mt
namespace Mt
open PySem PySem.Spec L2 Evl PyProof.Rows
/-! ### a class without an own __init__ -/
structure Mk00 (K : PySem.W.Frag) (C : Addr) : Prop where
  makes : PySem.W.makesIn K C = true
  init : PySem.W.findIn K (.ref C) "__init__" = some (some (.builtin "object.__init__"))
  kp : PySem.W.keepIn K (.ref C) = true
def tMake00 (C : Addr) : TE := fun _ H Q => ∀ x dx, H x = none → H dx = none → dx ≠ x → Q (.ref x) (upd (upd H dx (.own x)) x (.ins C dx []))
section
variable {X : Cx} {C : Addr} {x : Str} {p pos : PySem.Pos}
theorem run_make00 {pins : List (Addr × Obj)} {σ : L2.St} {H : Hp} {s : Shared} {Q : VK} (M : Mk00 X.K C) (I : Inv X pins σ H s) (h : tMake00 C σ H Q) : wpAny (model X.prog X.w) X.A (call (.ref C) []) (EP X pins σ Q) X.xe s := by
  have hq := h (s.heap.objs.size + 1) s.heap.objs.size (I.hok.fresh (Nat.le_succ _)) (I.hok.fresh (Nat.le_refl _)) (Nat.ne_of_lt (Nat.lt_succ_self _))
  have I2 := Inv.made (C := C) I
  have Y := PySem.W.makes_of (M := model X.prog X.w) I.kIn M.makes
  have g2 : ((s.heap.push PySem.W.emptyDict).push (PySem.W.instObj C s.heap.objs.size)).get? (s.heap.objs.size + 1) = some (PySem.W.instObj C s.heap.objs.size) := by
    have := Heap.get?_push_size (s.heap.push PySem.W.emptyDict) (o := PySem.W.instObj C s.heap.objs.size) rfl
    rwa [Heap.size_push] at this
  refine wpAny_call (make_map0 I.kIn M.makes M.init (fun self => PySem.W.Looks.of_pure (PySem.W.oi_bind self)) ?_)
  have t1 : PySem.W.Looks (model X.prog X.w) ((s.heap.push PySem.W.emptyDict).push (PySem.W.instObj C s.heap.objs.size)) (typeOf (.ref (s.heap.objs.size + 1))) (.ref C) := (PySem.W.Looks.ld g2).andThen .now
  have t2 : PySem.W.Looks (model X.prog X.w) ((s.heap.push PySem.W.emptyDict).push (PySem.W.instObj C s.heap.objs.size)) (isInstance (.ref (s.heap.objs.size + 1)) (.type "object")) true := t1.andThen (Y.top.keeps fun b o e => Heap.get?_push_of_some _ (Heap.get?_push_of_some _ e))
  obtain ⟨hh, g, d, t, os⟩ := s
  refine codeAny_call_builtin PySem.W.oi_plain PySem.W.entry_oi (@PySem.W.check_slot (model X.prog X.w) _ _ _ "object.__init__" "object" "__init__" (.ref (hh.objs.size + 1)) [] [] _ PySem.W.oi_kind PySem.W.oi_split t2 (PySem.W.oi_args (.ref (hh.objs.size + 1))) ?_)
  rw [PySem.W.oi_run]
  exact wpAny_pure (And.intro rfl ⟨V.ref (hh.objs.size + 1), _, I2, rfl, hq⟩)
theorem pe_make00 (M : Mk00 X.K C) (hg : Gl X x) (hm : X.mg x = some (.ref C)) (hdb : (x == ("__debug__" : Str)) = false := by decide) : PE X (.Call (.Name x p) [] [] pos) (tMake00 C) := by
  refine ⟨fun pins s σ H Q I h => ?_⟩
  refine wpAny_Call_Name_kw (ld_glob I hg hm ?_ hdb)
  exact PySem.W.callWith_K0 I.kIn M.kp (run_make00 M I h)
end
/-- either reading will do -/
def tAlt (t u : TE) : TE := fun σ H Q => t σ H Q ∨ u σ H Q
theorem pe_alt {X : Cx} {e : Expr} {t u : TE} (h1 : PE X e t) (h2 : PE X e u) : PE X e (tAlt t u) := ⟨fun pins s σ H Q I h => h.elim (h1.run pins s σ H Q I) (h2.run pins s σ H Q I)⟩
/-! ### answers -/
inductive Ans where
  | lost
  | won (at_ times : Int)
  deriving DecidableEq
def Ans.isWon : Ans → Bool
  | .lost => false
  | .won _ _ => true
def Ans.isLost : Ans → Bool
  | .lost => true
  | .won _ _ => false
def Ans.at_ : Ans → Int
  | .lost => 0
  | .won i _ => i
def Ans.times : Ans → Int
  | .lost => 0
  | .won _ j => j
theorem kat : ¬ (("at" : Str) = "times") := by decide +kernel
def wf (i j : Int) : List (Str × V) := putF "times" (.int j) (putF "at" (.int i) [])
theorem wf_at (i j : Int) : (wf i j).lookup ("at" : Str) = some (.int i) := by
  unfold wf
  rw [lookup_putF, if_neg kat, lookup_putF, if_pos rfl]
theorem wf_times (i j : Int) : (wf i j).lookup ("times" : Str) = some (.int j) := by
  unfold wf
  rw [lookup_putF, if_pos rfl]
theorem wf_no (i j : Int) {m : Str} (h1 : ¬ m = "times") (h2 : ¬ m = "at") : (wf i j).lookup m = none := by
  unfold wf
  rw [lookup_putF, if_neg h1, lookup_putF, if_neg h2] <;> rfl
instance repAns {K : PySem.W.Frag} : Rep K Ans where
  rep := fun H v a => match a with
    | .lost => ∃ p C dx, v = .ref p ∧ PySem.W.nsIn K mainGlobals "Lost" = some (some (.ref C)) ∧ H p = some (.ins C dx [])
    | .won i j => ∃ p C dx, v = .ref p ∧ PySem.W.nsIn K mainGlobals "Won" = some (some (.ref C)) ∧ H p = some (.ins C dx (wf i j))
  mono := fun {H H' v a} e h => by
    cases a with
    | lost => obtain ⟨p, C, dx, h1, h2, h3⟩ := h; exact ⟨p, C, dx, h1, h2, e _ _ h3⟩
    | won i j => obtain ⟨p, C, dx, h1, h2, h3⟩ := h; exact ⟨p, C, dx, h1, h2, e _ _ h3⟩
/-- a class of the text, its instances plain -/
structure ClsX (K : PySem.W.Frag) (name : Str) (C : Addr) : Prop where
  at_ : PySem.W.nsIn K mainGlobals name = some (some (.ref C))
  cl : Cls K C
  ha : PySem.W.findIn K (.ref C) "__class__" = some (some (.builtin "object.__class__"))
  hn : PySem.W.specialIn K (.builtin "object.__class__") "__get__" = some (some (.builtin "getset_descriptor.__get__"))
  ht : PySem.W.takesIn K (.builtin "object.__class__") = some true
  hm : PySem.W.mroIn K C (.type "object") = some true
theorem ClsX.eq {K : PySem.W.Frag} {name : Str} {C C' : Addr} (c : ClsX K name C) (h : PySem.W.nsIn K mainGlobals name = some (some (.ref C'))) : C' = C := by
  have e := c.at_.symm.trans h
  injection e with e
  injection e with e
  injection e with e
  exact e.symm
theorem ClsX.ty {K : PySem.W.Frag} {name : Str} {C : Addr} (c : ClsX K name C) {H : Hp} {a dx : Addr} {fs : List (Str × V)} (h : H a = some (.ins C dx fs)) : TyX K H (.ref a) (.ref C) := .base (.ins h c.cl c.ha c.hn c.ht c.hm)
/-- what is asked of the answers' classes -/
structure AnsTxt (K : PySem.W.Frag) (mg : Str → Option Value) (CA CL CW : Addr) : Prop where
  cL : ClsX K "Lost" CL
  cW : ClsX K "Won" CW
  mgA : mg "Answer" = some (.ref CA)
  mgL : mg "Lost" = some (.ref CL)
  mgW : mg "Won" = some (.ref CW)
  nA : NoAttr K CW "at"
  nT : NoAttr K CW "times"
  mkL : Mk00 K CL
  kLA : PySem.W.kitOne K (.ref CL) (.ref CA) = some true
  kLL : PySem.W.kitOne K (.ref CL) (.ref CL) = some true
  kLW : PySem.W.kitOne K (.ref CL) (.ref CW) = some false
  kWA : PySem.W.kitOne K (.ref CW) (.ref CA) = some true
  kWL : PySem.W.kitOne K (.ref CW) (.ref CL) = some false
  kWW : PySem.W.kitOne K (.ref CW) (.ref CW) = some true
section
variable {K : PySem.W.Frag} {mg : Str → Option Value} {CA CL CW : Addr} {σ : L2.St} {H : Hp} {te ta tb : TE} {a : Ans}
theorem evr_isiA (T : AnsTxt K mg CA CL CW) (h : EvR K te σ H a) : EvR K (tCB (rIsi K) (tCons te (tCons (tC (.ref CA)) tNil))) σ H true := fun H1 e Q q => h H1 e _ fun v H2 e2 r => by
  cases a with
  | lost =>
    obtain ⟨p, C, dx, h1, h2, h3⟩ := r
    have ec := T.cL.eq h2
    subst ec h1
    exact ⟨_, _, _, _, true, rfl, .own CA, T.cL.ty h3, T.kLA, q _ H2 e2 rfl⟩
  | won i j =>
    obtain ⟨p, C, dx, h1, h2, h3⟩ := r
    have ec := T.cW.eq h2
    subst ec h1
    exact ⟨_, _, _, _, true, rfl, .own CA, T.cW.ty h3, T.kWA, q _ H2 e2 rfl⟩
theorem evr_isiL (T : AnsTxt K mg CA CL CW) (h : EvR K te σ H a) : EvR K (tCB (rIsi K) (tCons te (tCons (tC (.ref CL)) tNil))) σ H a.isLost := fun H1 e Q q => h H1 e _ fun v H2 e2 r => by
  cases a with
  | lost =>
    obtain ⟨p, C, dx, h1, h2, h3⟩ := r
    have ec := T.cL.eq h2
    subst ec h1
    exact ⟨_, _, _, _, true, rfl, .own _, T.cL.ty h3, T.kLL, q _ H2 e2 rfl⟩
  | won i j =>
    obtain ⟨p, C, dx, h1, h2, h3⟩ := r
    have ec := T.cW.eq h2
    subst ec h1
    exact ⟨_, _, _, _, false, rfl, .own _, T.cW.ty h3, T.kWL, q _ H2 e2 rfl⟩
theorem evr_isiW (T : AnsTxt K mg CA CL CW) (h : EvR K te σ H a) : EvR K (tCB (rIsi K) (tCons te (tCons (tC (.ref CW)) tNil))) σ H a.isWon := fun H1 e Q q => h H1 e _ fun v H2 e2 r => by
  cases a with
  | lost =>
    obtain ⟨p, C, dx, h1, h2, h3⟩ := r
    have ec := T.cL.eq h2
    subst ec h1
    exact ⟨_, _, _, _, false, rfl, .own _, T.cL.ty h3, T.kLW, q _ H2 e2 rfl⟩
  | won i j =>
    obtain ⟨p, C, dx, h1, h2, h3⟩ := r
    have ec := T.cW.eq h2
    subst ec h1
    exact ⟨_, _, _, _, true, rfl, .own _, T.cW.ty h3, T.kWW, q _ H2 e2 rfl⟩
theorem evr_at (T : AnsTxt K mg CA CL CW) (h : EvR K te σ H a) (hw : a.isWon = true) : EvR K (tFld K te "at") σ H a.at_ := fun H1 e Q q => h H1 e _ fun v H2 e2 r => by
  cases a with
  | lost => cases hw
  | won i j =>
    obtain ⟨p, C, dx, h1, h2, h3⟩ := r
    have ec := T.cW.eq h2
    subst ec h1
    exact ⟨p, C, dx, _, _, rfl, h3, T.cW.cl, T.nA, wf_at i j, q _ H2 e2 rfl⟩
theorem evr_times (T : AnsTxt K mg CA CL CW) (h : EvR K te σ H a) (hw : a.isWon = true) : EvR K (tFld K te "times") σ H a.times := fun H1 e Q q => h H1 e _ fun v H2 e2 r => by
  cases a with
  | lost => cases hw
  | won i j =>
    obtain ⟨p, C, dx, h1, h2, h3⟩ := r
    have ec := T.cW.eq h2
    subst ec h1
    exact ⟨p, C, dx, _, _, rfl, h3, T.cW.cl, T.nT, wf_times i j, q _ H2 e2 rfl⟩
theorem evr_makeL (T : AnsTxt K mg CA CL CW) : EvR K (tMake00 CL) σ H Ans.lost := fun H1 e Q q x dx hx hd hne =>
  q _ _ (fun b o hb => by rw [upd_ne (ne_of_none hb hx), upd_ne (ne_of_none hb hd)]; exact hb) ⟨x, CL, dx, rfl, T.cL.at_, upd_same⟩
/-- Won.__init__ -/
def spInitW (CW : Addr) : Sp := fun vs H Q _ => ∃ (p dx : Addr) (i j : Int), vs = [.ref p, .int i, .int j] ∧ H p = some (.ins CW dx []) ∧ ∀ H' : Hp, H' p = some (.ins CW dx (wf i j)) → (∀ b o, H b = some o → b ≠ p → H' b = some o) → Q .non H'
theorem spInitW.len {vs : List V} {Q : VK} {E : XK} (h : spInitW CW vs H Q E) : vs.length = 3 := by obtain ⟨p, dx, i, j, rfl, _⟩ := h; rfl
theorem evr_makeW (T : AnsTxt K mg CA CL CW) {i j : Int} {E : XK} (ha : EvR K ta σ H i) (hb : EvR K tb σ H j) : EvR K (tMake CW (spInitW CW) [] E (tCons ta (tCons tb tNil))) σ H (Ans.won i j) := fun H1 e Q q => ha.ev H1 e _ fun H2 e2 => hb.ev H2 (e.trans e2) _ fun H3 e3 x dx hx hd hne =>
  ⟨x, dx, i, j, rfl, upd_same, fun H' h1 h2 => ⟨rfl, q _ _ ((e2.trans e3).trans fun b o hbo => h2 b o (by rw [upd_ne (ne_of_none hbo hx), upd_ne (ne_of_none hbo hd)]; exact hbo) (ne_of_none hbo hx)) ⟨x, CW, dx, rfl, T.cW.at_, h1⟩⟩⟩
end
/-- Won(..) may be made -/
structure CalW (P : Program) (w : World) (K : PySem.W.Frag) (mg : Str → Option Value) (base : Heap) (CW : Addr) : Prop where
  ex : ∃ (f : Addr) (fd : FuncData), Mk K CW f ∧ FnOk P w K mg base CX0 1 f fd ["self", "at", "times"] (spInitW CW) ∧ Binds K fd ["self", "at", "times"] [] ∧ mg "Won" = some (.ref CW)
/-- a method may be called -/
structure CalM (P : Program) (w : World) (K : PySem.W.Frag) (mg : Str → Option Value) (base : Heap) (k : Nat) (C : Addr) (m : Str) (ps : List Str) (sp : Sp) : Prop where
  ex : ∃ (f : Addr) (fd : FuncData), Cls K C ∧ Meth K C m f ∧ FnOk P w K mg base CX0 k f fd ps sp ∧ Binds K fd ps []
section
variable {X : Cx} {CW C : Addr} {k : Nat} {m : Str} {ps : List Str} {sp : Sp} {e o : Expr} {es : List Expr} {t : TA} {ta : TE} {p pos apos : PySem.Pos}
theorem pe_makW (c : CalW X.prog X.w X.K X.mg X.base CW) (hr : Room 2 X.A) (hg : Gl X "Won") (ha : PA X (e :: es) t)
    (he : starEach (e :: es) X.env = (false, eval e X.env) :: starEach es X.env := by rfl) (hpl : (backTo pos (starEach es X.env)).any (·.1) = false := by rfl) : PE X (.Call (.Name "Won" p) (e :: es) [] pos) (tMake CW (spInitW CW) [] E0 t) := by
  obtain ⟨f, fd, M, F, hb, hm⟩ := c.ex
  exact pe_make M F hr hg hm hb .nil pass0 ha (by decide) he hpl
theorem pe_methM {pl : Sem Bool} (he : PE X o ta) (c : CalM X.prog X.w X.K X.mg X.base k C m ps sp) (hr : Room k X.A) (ha : PA X (e :: es) t)
    (hst : starEach (e :: es) X.env = (false, eval e X.env) :: starEach es X.env := by rfl) (hpl : (backTo pos (starEach es X.env)).any (·.1) = false := by rfl)
    (ht : eval (.Call (.Attribute o m apos) (e :: es) [] pos) X.env = (do
      let ov ← eval o X.env
      standAt apos.atName
      let (f, first) ← holding [ov] (getMethod ov m pl)
      callWith pos f first (backTo pos (starEach (e :: es) X.env)) (backToKw pos (keywordEach [] X.env))) := by rfl) : PE X (.Call (.Attribute o m apos) (e :: es) [] pos) (tMeth C m sp [] E0 ta t) := by
  obtain ⟨f, fd, cl, hm, F, hb⟩ := c.ex
  exact pe_meth (pl := pl) he cl hm F hr hb .nil pass0 ha hst hpl ht
end
/-! ### enumerate, tuples walked, items stored -/
section
variable {K : PySem.W.Frag} {σ : L2.St} {H H' : Hp} {ta tb tc te : TE} {t u : TT} {α β γ : Type} [Rep K α] [Rep K β] [Rep K γ] {a : α} {b : β} {D : Ends} {tu tw tz : TS} {g : TG} {i j k : Nat}
theorem evr_xor {i j : Int} (ha : EvR K ta σ H i) (hb : EvR K tb σ H j) (h0 : 0 ≤ i) (h1 : 0 ≤ j) : EvR K (tOp (rI0 fun i j => .int (Builtin.bitXor i j)) ta tb) σ H (xr i j) := by
  have h := evr_op0 (g := fun i j => Builtin.bitXor i j) ha hb
  rw [show Builtin.bitXor i j = xr i j from Bits.bitXor_pp h0 h1] at h
  exact h
theorem pe_globI {X : Cx} {x : Str} {n : Int} {p : PySem.Pos} (hg : Gl X x) (hm : ∃ t, X.mg x = some (.int n t)) (hd : (x == ("__debug__" : Str)) = false := by decide) : PE X (.Name x p) (tC (.int n)) := by
  obtain ⟨t, hm⟩ := hm
  exact pe_glob hg hm ⟨t, rfl⟩ hd
/-- for i, x in enumerate(xs) -/
theorem r_forE {tl : TE} {as : List α} (h : EvR K tl σ H as) (kk : ∀ p vs H1, Ex H H1 → H1 p = some (.lst vs) → Paired (rep K H1) vs as → ∃ Pv : Nat → L2.St → Hp → Prop, Pv 0 σ H1 ∧ (∀ n σ' H', Pv n σ' H' → H' p = some (.lst vs) ∧ Paired (rep K H') vs as) ∧
      (∀ n v x σ' H' H2, as[n]? = some x → Ex H' H2 → rep K H2 v x → Pv n σ' H' → tu { D with nx := Pv (n + 1), ct := Pv (n + 1), bk := tz D } ((σ'.set i (some (.int (n : Int)))).set j (some v)) H2) ∧ (∀ σ' H', Pv as.length σ' H' → tz D σ' H')) :
    tSeq (tFor (iEnum K (tCons tl tNil)) (gTup K 2 (gCons (gName i) (gCons (gName j) gNil))) tu) tz D σ H :=
  h H (Ex.refl H) _ fun v H1 e ⟨p, vs, ev, hp, rs⟩ => by
    obtain ⟨Pv, h0, hk, hs, hd⟩ := kk p vs H1 e hp rs
    refine ⟨p, vs, by rw [ev], SqL.of hp, for_it (walk_enum (xs := vs)) (D := { D with nx := tz D }) Pv h0 (fun n σ' H' _ q => SqL.of (hk n σ' H' q).1) (fun n x σ' H' H2 hn q y => ?_) (fun σ' H' q => hd σ' H' (by rw [← rs.length]; exact q))⟩
    obtain ⟨T, x1, y1, rfl, hT, rfl, ex, hy⟩ := y
    have ex := Option.some.inj ex
    subst ex
    obtain ⟨z, hz, rz⟩ := paired_get' (hk n σ' H' q).2 hy
    exact ⟨T, _, rfl, SqT.of upd_same, rfl, _, _, rfl, _, _, rfl, rfl, hs n y1 z σ' H' _ hz (Ex.new hT) (rmono (Ex.new hT) rz) q⟩
/-- for x in a tuple -/
theorem r_forU {tl : TE} {as : List α} (h : EvR K tl σ H (Tu.mk as)) (kk : ∀ p vs H1, Ex H H1 → H1 p = some (.tup vs) → Paired (rep K H1) vs as → ∃ Pv : Nat → L2.St → Hp → Prop, Pv 0 σ H1 ∧ (∀ n σ' H', Pv n σ' H' → Ex H1 H') ∧
      (∀ n v x σ' H', as[n]? = some x → rep K H' v x → Pv n σ' H' → g v σ' H' fun σ2 H2 => tu { D with nx := Pv (n + 1), ct := Pv (n + 1), bk := tz D } σ2 H2) ∧ (∀ σ' H', Pv as.length σ' H' → tz D σ' H')) : tSeq (tFor (iTup K tl) g tu) tz D σ H :=
  h H (Ex.refl H) _ fun v H1 e ⟨p, vs, ev, hp, rs⟩ => by
    obtain ⟨Pv, h0, hk, hs, hd⟩ := kk p vs H1 e hp rs
    refine ⟨p, ev, ⟨vs, SqT.of hp⟩, for_tup (D := { D with nx := tz D }) Pv h0 (fun n σ' H' _ q => SqT.of (hk n σ' H' q _ _ hp)) (fun n x σ' H' hx q => ?_) (fun σ' H' q => hd σ' H' (by rw [← (show vs.length = as.length from rs.length)]; exact q))⟩
    obtain ⟨y, hy, ry⟩ := paired_get' rs hx
    exact hs n x y σ' H' hy (rmono (hk n σ' H' q) ry) q
/-- for i, x in enumerate(xs) -/
theorem r_forE1 {tl : TE} {as : List α} (h : EvR K tl σ H as) (kk : ∀ p vs H1, Ex H H1 → H1 p = some (.lst vs) → Paired (rep K H1) vs as → ∃ Pv : Nat → L2.St → Hp → Prop, Pv 0 σ H1 ∧ (∀ n σ' H', Pv n σ' H' → H' p = some (.lst vs) ∧ Paired (rep K H') vs as) ∧
      (∀ n v x σ' H' H2, as[n]? = some x → Ex H' H2 → rep K H2 v x → Pv n σ' H' → tu { D with nx := Pv (n + 1), ct := Pv (n + 1), bk := D.nx } ((σ'.set i (some (.int (n : Int)))).set j (some v)) H2) ∧ (∀ σ' H', Pv as.length σ' H' → D.nx σ' H')) :
    tFor (iEnum K (tCons tl tNil)) (gTup K 2 (gCons (gName i) (gCons (gName j) gNil))) tu D σ H :=
  h H (Ex.refl H) _ fun v H1 e ⟨p, vs, ev, hp, rs⟩ => by
    obtain ⟨Pv, h0, hk, hs, hd⟩ := kk p vs H1 e hp rs
    refine ⟨p, vs, by rw [ev], SqL.of hp, for_it (walk_enum (xs := vs)) (D := D) Pv h0 (fun n σ' H' _ q => SqL.of (hk n σ' H' q).1) (fun n x σ' H' H2 hn q y => ?_) (fun σ' H' q => hd σ' H' (by rw [← rs.length]; exact q))⟩
    obtain ⟨T, x1, y1, rfl, hT, rfl, ex, hy⟩ := y
    have ex := Option.some.inj ex
    subst ex
    obtain ⟨z, hz, rz⟩ := paired_get' (hk n σ' H' q).2 hy
    exact ⟨T, _, rfl, SqT.of upd_same, rfl, _, _, rfl, _, _, rfl, rfl, hs n y1 z σ' H' _ hz (Ex.new hT) (rmono (Ex.new hT) rz) q⟩
/-- for x in a tuple -/
theorem r_forU1 {tl : TE} {as : List α} (h : EvR K tl σ H (Tu.mk as)) (kk : ∀ p vs H1, Ex H H1 → H1 p = some (.tup vs) → Paired (rep K H1) vs as → ∃ Pv : Nat → L2.St → Hp → Prop, Pv 0 σ H1 ∧ (∀ n σ' H', Pv n σ' H' → Ex H1 H') ∧
      (∀ n v x σ' H', as[n]? = some x → rep K H' v x → Pv n σ' H' → g v σ' H' fun σ2 H2 => tu { D with nx := Pv (n + 1), ct := Pv (n + 1), bk := D.nx } σ2 H2) ∧ (∀ σ' H', Pv as.length σ' H' → D.nx σ' H')) : tFor (iTup K tl) g tu D σ H :=
  h H (Ex.refl H) _ fun v H1 e ⟨p, vs, ev, hp, rs⟩ => by
    obtain ⟨Pv, h0, hk, hs, hd⟩ := kk p vs H1 e hp rs
    refine ⟨p, ev, ⟨vs, SqT.of hp⟩, for_tup (D := D) Pv h0 (fun n σ' H' _ q => SqT.of (hk n σ' H' q _ _ hp)) (fun n x σ' H' hx q => ?_) (fun σ' H' q => hd σ' H' (by rw [← (show vs.length = as.length from rs.length)]; exact q))⟩
    obtain ⟨y, hy, ry⟩ := paired_get' rs hx
    exact hs n x y σ' H' hy (rmono (hk n σ' H' q) ry) q
/-- xs[i] = e, xs a list of one's own -/
theorem r_setL [RepT K α] {to ti : TE} {l : Addr} {us : List V} {as : List α} {i : Int} {H0 : Hp} (h0 : H0 l = none) (hex : Ex H0 H) (hl : H l = some (.lst us)) (hs : Paired (rep K H) us as) (hv : EvR K te σ H a) (ho : Ev to σ H (.ref l)) (hi : EvR K ti σ H i) (hi0 : 0 ≤ i) (hi1 : i < (as.length : Int))
    (kk : ∀ us' H2, Ex H0 H2 → H2 l = some (.lst us') → Paired (rep K H2) us' (as.set i.toNat a) → tz D σ H2) : tSeq (tAsg te (gSub to ti rSetL)) tz D σ H :=
  hv H (Ex.refl H) _ fun v H1 e1 r => ho H1 e1 _ fun H2 e2 => hi.ev H2 (e1.trans e2) _ fun H3 e3 => by
    have e13 := (e1.trans e2).trans e3
    have hl3 := e13 _ _ hl
    have hn := not_tup_lst hl3
    have hlen : us.length = as.length := hs.length
    refine ⟨l, us, i, i.toNat, rfl, rfl, hl3, ?_, ?_⟩
    · have := ixN_nat (n := us.length) (j := i.toNat) (by omega)
      rw [Int.toNat_of_nonneg hi0] at this
      exact this
    · exact kk _ _ (Ex.mut (hex.trans e13) h0) upd_same (paired_set (RepT.stab hn (rmono (e2.trans e3) r)) _ (pstab hn (pmono e13 hs)))
/-- [e for i, x in enumerate(xs) if c] -/
def enumC {α β : Type} (as : List α) (c : Nat → α → Bool) (f : Nat → α → β) : List β := (as.zipIdx.filter fun z => c z.2 z.1).map fun z => f z.2 z.1
theorem enumC_step {α β : Type} {as : List α} {c : Nat → α → Bool} {f : Nat → α → β} {n : Nat} {x : α} (hx : as[n]? = some x) : enumC (as.take (n + 1)) c f = enumC (as.take n) c f ++ (if c n x = true then [f n x] else []) := by
  have hn : n < as.length := (List.getElem?_eq_some_iff.mp hx).1
  have hs : as.take (n + 1) = as.take n ++ [x] := by
    rw [List.take_succ, hx]
    rfl
  unfold enumC
  rw [hs, List.zipIdx_append, List.filter_append, List.map_append]
  have hl : (as.take n).length = n := by rw [List.length_take]; omega
  rw [hl]
  congr 1
  simp only [List.zipIdx_cons, List.zipIdx_nil, Nat.zero_add]
  split
  · rename_i h
    simp [h]
  · rename_i h
    simp [h]
theorem evn_lcE [RepT K β] {tl : TE} {as : List α} {vs : List Nat} (c : Nat → α → Bool) (f : Nat → α → β) (h : EvR K tl σ H as) (hz : as.length ≤ 90000) (hw : ∀ v w, wipe (((wipe σ vs).set i (some v)).set j (some w)) vs = wipe σ vs)
    (hc : ∀ (n : Nat) (x : α) (v : V) H1, Ex H H1 → as[n]? = some x → rep K H1 v x → EvT t (((wipe σ vs).set i (some (.int (n : Int)))).set j (some v)) H1 (c n x))
    (he : ∀ (n : Nat) (x : α) (v : V) H1, Ex H H1 → as[n]? = some x → rep K H1 v x → c n x = true → EvR K te (((wipe σ vs).set i (some (.int (n : Int)))).set j (some v)) H1 (f n x)) :
    EvN K (tLc (iEnum K (tCons tl tNil)) (gTup K 2 (gCons (gName i) (gCons (gName j) gNil))) t te vs) σ H (enumC as c f) := fun H0 e Q q => h H0 e _ fun v H1 e1 ⟨p, us, ev, hp, rs⟩ =>
  ⟨p, us, by rw [ev], SqL.of hp, fun Dl hD => lc_it (walk_enum (xs := us)) (fun n H' => Ex H1 H' ∧ ∃ acc, H' Dl = some (.lst acc) ∧ acc.length ≤ n ∧ Paired (rep K H') acc (enumC (as.take n) c f)) ⟨Ex.new hD, [], upd_same, Nat.le_refl _, by rw [List.take_zero]; exact .nil⟩ (fun n H' _ c => SqL.of (c.1 _ _ hp))
    (fun n y H' H'' hn cc yy => by
      obtain ⟨T, x1, y1, rfl, hT, rfl, exx, hy⟩ := yy
      have exx := Option.some.inj exx
      subst exx
      obtain ⟨c1, acc, c2, cl, c3⟩ := cc
      obtain ⟨x, hx, rx⟩ := paired_get' (pmono c1 rs) hy
      have eT := Ex.new (o := .tup [.int (n : Int), y1]) hT
      have c1T := c1.trans eT
      refine ⟨T, _, rfl, SqT.of upd_same, rfl, _, _, rfl, _, _, rfl, rfl, hw _ _, ?_⟩
      have hlen : us.length = as.length := rs.length
      refine hc n x y1 _ ((e.trans e1).trans c1T) hx (rmono eT rx) _ (Ex.refl _) _ fun H3 e3 => ?_
      cases hcn : c n x with
      | true =>
        rw [if_pos rfl]
        refine he n x y1 _ ((e.trans e1).trans c1T) hx (rmono eT rx) hcn H3 e3 _ fun z H4 e4 rz => ⟨acc, e4 _ _ (e3 _ _ (eT _ _ c2)), sz_lt ?_, Ex.mut ((c1T.trans e3).trans e4) hD, _, upd_same, ?_, ?_⟩
        · omega
        · rw [List.length_append]; simp; omega
        · have hnt := not_tup_lst (e4 _ _ (e3 _ _ (eT _ _ c2)))
          rw [enumC_step hx, hcn, if_pos rfl]
          exact paired_append (pstab hnt (pmono ((eT.trans e3).trans e4) c3)) (.cons (RepT.stab hnt rz) .nil)
      | false =>
        rw [if_neg Bool.false_ne_true]
        refine ⟨c1T.trans e3, acc, e3 _ _ (eT _ _ c2), by omega, ?_⟩
        rw [enumC_step hx, hcn, if_neg Bool.false_ne_true, List.append_nil]
        exact pmono (eT.trans e3) c3) (fun H' c => by
      obtain ⟨c1, acc, c2, _, c3⟩ := c
      rw [rs.length, List.take_length] at c3
      exact q _ _ _ (fresh_back e1 hD) (e1.trans c1) c2 c3)⟩
end
end Mt
namespace Mt
open PySem PySem.Spec L2 Evl PyProof.Rows
/-! ### all worths, bit by bit -/
def AllSm (ps : List (Int × Int)) : Prop := ∀ p ∈ ps, Sm p
def sumOf (ps : List (Int × Int)) : Int := ps.foldl (fun acc p => xr acc (worthOf p)) 0
def wN (p : Int × Int) : Nat := (worthOf p).toNat
theorem xr_nonneg (x y : Int) : 0 ≤ xr x y := Int.natCast_nonneg _
theorem fold_nim (ps : List (Int × Int)) : ∀ z : Nat, ps.foldl (fun acc p => xr acc (worthOf p)) (z : Int) = ((z ^^^ nim (ps.map wN) : Nat) : Int) := by
  induction ps with
  | nil => intro z; simp [nim]
  | cons p r ih =>
    intro z
    show r.foldl _ (xr (z : Int) (worthOf p)) = _
    have e : xr (z : Int) (worthOf p) = ((z ^^^ wN p : Nat) : Int) := rfl
    rw [e, ih, List.map_cons]
    show _ = ((z ^^^ (wN p ^^^ nim (r.map wN)) : Nat) : Int)
    rw [← Nat.xor_assoc]
theorem sumOf_nim (ps : List (Int × Int)) : sumOf ps = (nim (ps.map wN) : Nat) := by
  have h := fold_nim ps 0
  rw [Nat.zero_xor] at h
  exact h
theorem sumOf_nonneg (ps : List (Int × Int)) : 0 ≤ sumOf ps := by rw [sumOf_nim]; exact Int.natCast_nonneg _
theorem sumOf_step {ps : List (Int × Int)} {n : Nat} {p : Int × Int} (hx : ps[n]? = some p) : sumOf (ps.take (n + 1)) = xr (sumOf (ps.take n)) (worthOf p) := by
  have hs : ps.take (n + 1) = ps.take n ++ [p] := by
    rw [List.take_succ, hx]
    rfl
  unfold sumOf
  rw [hs, List.foldl_append]
  rfl
theorem wN_of {p : Int × Int} (h : Pos p) : ((wN p : Nat) : Int) = worthOf p := by unfold wN; have := worth_nonneg h; omega
theorem sumOf_set {ps : List (Int × Int)} {i : Nat} {p q : Int × Int} (hx : ps[i]? = some p) : sumOf (ps.set i q) = ((nim (ps.map wN) ^^^ (wN p ^^^ wN q) : Nat) : Int) := by
  rw [sumOf_nim, List.map_set, nim_set (ps.map wN) i (wN q) (wN p) (by rw [List.getElem?_map, hx]; rfl)]
/-! ### the answers' own word -/
def nthP (ps : List (Int × Int)) (i : Int) : Int × Int := ps.getD i.toNat (1, 1)
theorem nthP_ix {ps : List (Int × Int)} {i : Int} (h0 : 0 ≤ i) (h1 : i < (ps.length : Int)) : ps[i.toNat]? = some (nthP ps i) := by
  unfold nthP
  rw [List.getD_eq_getElem?_getD, List.getElem?_eq_getElem (by omega)]
  rfl
theorem nthP_mem {ps : List (Int × Int)} {i : Int} (h0 : 0 ≤ i) (h1 : i < (ps.length : Int)) : nthP ps i ∈ ps := List.mem_of_getElem? (nthP_ix h0 h1)
def showsOf (a : Ans) (ps : List (Int × Int)) : Bool := match a with
  | .lost => decide (sumOf ps = 0)
  | .won i j => if (0 ≤ i ∧ i < (ps.length : Int)) ∧ (1 ≤ j ∧ j ≤ mostOf (nthP ps i)) then decide (sumOf (ps.set i.toNat (takenOf (nthP ps i) j)) = 0) else false
theorem shows_lost {a : Ans} {ps : List (Int × Int)} (h : a.isLost = true) : showsOf a ps = decide (sumOf ps = 0) := by
  cases a with
  | lost => rfl
  | won i j => cases h
theorem shows_won1 {a : Ans} {ps : List (Int × Int)} (h : a.isWon = true) (hc : (0 ≤ a.at_ ∧ a.at_ < (ps.length : Int)) ∧ (1 ≤ a.times ∧ a.times ≤ mostOf (nthP ps a.at_))) : showsOf a ps = decide (sumOf (ps.set a.at_.toNat (takenOf (nthP ps a.at_) a.times)) = 0) := by
  cases a with
  | lost => cases h
  | won i j => unfold showsOf; exact if_pos hc
theorem shows_won2 {a : Ans} {ps : List (Int × Int)} (h : a.isWon = true) (hc : ¬ ((0 ≤ a.at_ ∧ a.at_ < (ps.length : Int)) ∧ (1 ≤ a.times ∧ a.times ≤ mostOf (nthP ps a.at_)))) : showsOf a ps = false := by
  cases a with
  | lost => cases h
  | won i j => unfold showsOf; exact if_neg hc
theorem won_of {a : Ans} (h : a.isLost = false) : a.isWon = true := by cases a <;> first | rfl | cases h
def preL (a : Ans) (ps : List (Int × Int)) : Prop := a.isLost = true ∧ AllSm ps
def preW (a : Ans) (ps : List (Int × Int)) : Prop := a.isWon = true ∧ AllSm ps
section
variable {K : PySem.W.Frag} {mg : Str → Option Value} {CA CL CW : Addr} {σ : L2.St} {H : Hp} {te ta tb : TE} {a : Ans}
theorem evr_shows (T : AnsTxt K mg CA CL CW) {E : XK} {ps : List (Int × Int)} (h : EvR K ta σ H a) (hp : EvR K tb σ H ps) (hs : AllSm ps) :
    EvR K (tAlt (tMeth CL "shows" (Fn2 K preL showsOf) [] E ta (tCons tb tNil)) (tMeth CW "shows" (Fn2 K preW showsOf) [] E ta (tCons tb tNil))) σ H (showsOf a ps) := fun H1 e Q q => by
  cases a with
  | lost =>
    refine .inl (h H1 e _ fun v H2 e2 r => ?_)
    obtain ⟨p, C, dx, h1, h2, h3⟩ := id r
    have ec := T.cL.eq h2
    subst ec h1
    exact ⟨p, dx, [], rfl, h3, rfl, hp H2 (e.trans e2) _ fun w H3 e3 rw_ => ⟨_, w, .lost, ps, rfl, rmono e3 r, rw_, ⟨rfl, hs⟩, fun u H4 e4 ru => q u H4 ((e2.trans e3).trans e4) ru⟩⟩
  | won i j =>
    refine .inr (h H1 e _ fun v H2 e2 r => ?_)
    obtain ⟨p, C, dx, h1, h2, h3⟩ := id r
    have ec := T.cW.eq h2
    subst ec h1
    exact ⟨p, dx, _, rfl, h3, wf_no i j (by decide +kernel) (by decide +kernel), hp H2 (e.trans e2) _ fun w H3 e3 rw_ => ⟨_, w, .won i j, ps, rfl, rmono e3 r, rw_, ⟨rfl, hs⟩, fun u H4 e4 ru => q u H4 ((e2.trans e3).trans e4) ru⟩⟩
end
/-! ### which taking -/
def okB (p : Int × Int) (w t : Int) : Bool := (decide (1 ≤ t) && decide (t ≤ mostOf p)) && decide (worthOf (takenOf p t) = w)
def cands (p : Int × Int) (w : Int) : List Int := [((max p.1 p.2 / min p.1 p.2 - w) - 1), (max p.1 p.2 / min p.1 p.2 - w), mostOf p]
def timesTo (p : Int × Int) (w : Int) : Int := ((cands p w).find? (okB p w)).getD 0
theorem cands_hit {p : Int × Int} {w : Int} (h : Pos p) (h0 : 0 ≤ w) (h1 : w < worthOf p) : ∃ t, (cands p w).find? (okB p w) = some t := by
  obtain ⟨t, c, a, b, e⟩ := worth_hit h h0 h1
  cases hf : (cands p w).find? (okB p w) with
  | some t => exact ⟨t, rfl⟩
  | none =>
    exfalso
    have := List.find?_eq_none.mp hf t (by
      unfold cands hi lo at *
      simp only [List.mem_cons, List.not_mem_nil, or_false]
      exact c)
    apply this
    unfold okB
    simp [a, b, e]
theorem timesTo_ok {p : Int × Int} {w : Int} (h : Pos p) (h0 : 0 ≤ w) (h1 : w < worthOf p) : 1 ≤ timesTo p w ∧ timesTo p w ≤ mostOf p ∧ worthOf (takenOf p (timesTo p w)) = w := by
  obtain ⟨t, ht⟩ := cands_hit h h0 h1
  have hk := List.find?_some ht
  unfold timesTo
  rw [ht]
  unfold okB at hk
  simp only [Bool.and_eq_true, decide_eq_true_eq] at hk
  exact ⟨hk.1.1, hk.1.2, hk.2⟩
theorem find_at {α : Type} {f : α → Bool} {x : α} : ∀ {l : List α} {n : Nat}, (∀ (m : Nat) (y : α), m < n → l[m]? = some y → f y = false) → l[n]? = some x → f x = true → l.find? f = some x
  | [], n, _, h, _ => by simp at h
  | a :: r, 0, _, h, hx => by
    have e : a = x := by simpa using h
    subst e
    rw [List.find?_cons, hx]
  | a :: r, n + 1, hm, h, hx => by
    rw [List.find?_cons, hm 0 a (Nat.succ_pos n) rfl]
    exact find_at (n := n) (fun m y h1 h2 => hm (m + 1) y (Nat.succ_lt_succ h1) (by simpa using h2)) (by simpa using h) hx
/-! ### who wins -/
def toldGo (s : Int) : Nat → List (Int × Int) → Ans
  | _, [] => .lost
  | n, p :: r => if xr (worthOf p) s < worthOf p then .won n (timesTo p (xr (worthOf p) s)) else toldGo s (n + 1) r
def toldOf (ps : List (Int × Int)) : Ans := if sumOf ps = 0 then .lost else toldGo (sumOf ps) 0 ps
theorem toldGo_drop {s : Int} {ps : List (Int × Int)} {n : Nat} {p : Int × Int} (hx : ps[n]? = some p) : toldGo s n (ps.drop n) = if xr (worthOf p) s < worthOf p then .won n (timesTo p (xr (worthOf p) s)) else toldGo s (n + 1) (ps.drop (n + 1)) := by
  obtain ⟨hn, he⟩ := List.getElem?_eq_some_iff.mp hx
  rw [List.drop_eq_getElem_cons hn, he]
  rfl
theorem toldGo_won (s : Int) (ps : List (Int × Int)) : ∀ n : Nat, (∃ (i : Nat) (p : Int × Int), ps[i]? = some p ∧ xr (worthOf p) s < worthOf p) →
    ∃ (i : Nat) (p : Int × Int), ps[i]? = some p ∧ xr (worthOf p) s < worthOf p ∧ toldGo s n ps = .won ((n + i : Nat) : Int) (timesTo p (xr (worthOf p) s)) := by
  induction ps with
  | nil => rintro n ⟨i, p, h, _⟩; simp at h
  | cons q r ih =>
    rintro n ⟨i, p, h, hl⟩
    by_cases c : xr (worthOf q) s < worthOf q
    · exact ⟨0, q, rfl, c, by unfold toldGo; rw [if_pos c]; rfl⟩
    · cases i with
      | zero =>
        have e : q = p := by simpa using h
        subst e
        exact absurd hl c
      | succ i =>
        obtain ⟨i', p', h1, h2, h3⟩ := ih (n + 1) ⟨i, p, by simpa using h, hl⟩
        refine ⟨i' + 1, p', by simpa using h1, h2, ?_⟩
        unfold toldGo
        rw [if_neg c, h3, show n + 1 + i' = n + (i' + 1) by omega]
theorem told_lost {ps : List (Int × Int)} (h : sumOf ps = 0) : toldOf ps = .lost := if_pos h
theorem told_won {ps : List (Int × Int)} (hs : AllSm ps) (h : sumOf ps ≠ 0) : ∃ (i : Nat) (p : Int × Int), ps[i]? = some p ∧ xr (worthOf p) (sumOf ps) < worthOf p ∧ toldOf ps = .won (i : Int) (timesTo p (xr (worthOf p) (sumOf ps))) := by
  have hn : nim (ps.map wN) ≠ 0 := by
    intro z
    rw [sumOf_nim, z] at h
    exact h rfl
  obtain ⟨i, w, hw, hlt⟩ := nim_hit hn
  rw [List.getElem?_map] at hw
  cases hp : ps[i]? with
  | none => rw [hp] at hw; cases hw
  | some p =>
    rw [hp] at hw
    have hw : wN p = w := Option.some.inj hw
    subst hw
    have hpos := (hs p (List.mem_of_getElem? hp)).pos
    obtain ⟨i', p', h1, h2, h3⟩ := toldGo_won (sumOf ps) ps 0 ⟨i, p, hp, by
      rw [← wN_of hpos, sumOf_nim]
      unfold xr
      rw [Int.toNat_natCast, Int.toNat_natCast]
      exact Int.ofNat_lt.mpr hlt⟩
    exact ⟨i', p', h1, h2, by unfold toldOf; rw [if_neg h, h3, Nat.zero_add]⟩
theorem told_shows {ps : List (Int × Int)} (hs : AllSm ps) : showsOf (toldOf ps) ps = true := by
  by_cases h : sumOf ps = 0
  · rw [told_lost h]
    exact decide_eq_true h
  · obtain ⟨i, p, h1, h2, h3⟩ := told_won hs h
    have hpos := (hs p (List.mem_of_getElem? h1)).pos
    obtain ⟨a, b, c⟩ := timesTo_ok hpos (xr_nonneg _ _) h2
    have hi := (List.getElem?_eq_some_iff.mp h1).1
    have hn : nthP ps (i : Int) = p := by
      have := nthP_ix (ps := ps) (i := (i : Int)) (by omega) (by omega)
      rw [Int.toNat_natCast, h1] at this
      exact (Option.some.inj this).symm
    rw [h3]
    unfold showsOf
    simp only
    rw [hn, if_pos ⟨⟨by omega, by omega⟩, a, b⟩, Int.toNat_natCast, sumOf_set h1]
    apply decide_eq_true
    have e : wN (takenOf p (timesTo p (xr (worthOf p) (sumOf ps)))) = wN p ^^^ nim (ps.map wN) := by
      unfold wN
      rw [c, sumOf_nim]
      unfold xr
      rw [Int.toNat_natCast, Int.toNat_natCast]
      rfl
    rw [e, ← Nat.xor_assoc (wN p), Nat.xor_self, Nat.zero_xor, Nat.xor_self]
    rfl
theorem told_isLost {ps : List (Int × Int)} (hs : AllSm ps) : (toldOf ps).isLost = decide (sumOf ps = 0) := by
  by_cases h : sumOf ps = 0
  · rw [told_lost h, decide_eq_true h]; rfl
  · obtain ⟨i, p, _, _, h3⟩ := told_won hs h
    rw [h3, decide_eq_false h]
    rfl
theorem told_isWon {ps : List (Int × Int)} (hs : AllSm ps) : (toldOf ps).isWon = !decide (sumOf ps = 0) := by
  by_cases h : sumOf ps = 0
  · rw [told_lost h, decide_eq_true h]; rfl
  · obtain ⟨i, p, _, _, h3⟩ := told_won hs h
    rw [h3, decide_eq_false h]
    rfl
theorem told_at {ps : List (Int × Int)} (hs : AllSm ps) (h : (toldOf ps).isWon = true) : (0 ≤ (toldOf ps).at_ ∧ (toldOf ps).at_ < (ps.length : Int)) ∧ (1 ≤ (toldOf ps).times ∧ (toldOf ps).times ≤ mostOf (nthP ps (toldOf ps).at_)) ∧ sumOf (ps.set (toldOf ps).at_.toNat (takenOf (nthP ps (toldOf ps).at_) (toldOf ps).times)) = 0 := by
  have hsh := told_shows hs
  by_cases hc : (0 ≤ (toldOf ps).at_ ∧ (toldOf ps).at_ < (ps.length : Int)) ∧ (1 ≤ (toldOf ps).times ∧ (toldOf ps).times ≤ mostOf (nthP ps (toldOf ps).at_))
  · rw [shows_won1 h hc] at hsh
    exact ⟨hc.1, hc.2, of_decide_eq_true hsh⟩
  · rw [shows_won2 h hc] at hsh
    cases hsh
theorem AllSm.set {ps : List (Int × Int)} (h : AllSm ps) {q : Int × Int} (hq : Sm q) (i : Nat) : AllSm (ps.set i q) := fun p hp => by
  rcases List.mem_or_eq_of_mem_set hp with c | c
  · exact h p c
  · exact c ▸ hq
/-- a taking behind lost ones -/
theorem sum_taken {ps : List (Int × Int)} {i : Nat} {p : Int × Int} {t : Int} (hs : AllSm ps) (h : sumOf ps = 0) (hx : ps[i]? = some p) (h1 : 1 ≤ t) (h2 : t ≤ mostOf p) : sumOf (ps.set i (takenOf p t)) ≠ 0 := by
  have hp := (hs p (List.mem_of_getElem? hx))
  have hz : nim (ps.map wN) = 0 := by
    rw [sumOf_nim] at h
    exact Int.ofNat.inj h
  rw [sumOf_set hx, hz, Nat.zero_xor]
  intro z
  have z : wN p ^^^ wN (takenOf p t) = 0 := Int.ofNat.inj z
  have e : wN p = wN (takenOf p t) := by
    have h := congrArg (fun k => k ^^^ wN (takenOf p t)) z
    simp only [Nat.xor_assoc, Nat.xor_self, Nat.xor_zero, Nat.zero_xor] at h
    exact h
  have e2 : worthOf (takenOf p t) = worthOf p := by
    rw [← wN_of hp.pos, ← wN_of (taken_pos hp.pos h1 h2), e]
  exact worth_ne hp.pos h1 h2 e2
theorem nim_lt {b : Nat} : ∀ {ws : List Nat}, (∀ w ∈ ws, w < 2 ^ b) → nim ws < 2 ^ b
  | [], _ => Nat.two_pow_pos b
  | w :: r, h => Nat.xor_lt_two_pow (h w List.mem_cons_self) (nim_lt fun x hx => h x (List.mem_cons_of_mem _ hx))
theorem sumOf_bt {b : Nat} {ps : List (Int × Int)} (h : ∀ p ∈ ps, Bt b (worthOf p)) : Bt b (sumOf ps) := by
  rw [sumOf_nim]
  unfold Bt
  rw [Int.natAbs_natCast]
  refine nim_lt fun w hw => ?_
  obtain ⟨p, hp, rfl⟩ := List.mem_map.mp hw
  have := h p hp
  unfold Bt at this
  unfold wN
  omega
theorem and_of {a b : Prop} [Decidable a] [Decidable b] (h : (decide a && decide b) = true) : a ∧ b := by simpa using h
theorem nand_of {a b : Prop} [Decidable a] [Decidable b] (h : (!(decide a && decide b)) = false) : a ∧ b := by simpa using h
end Mt
namespace Mt
open PySem PySem.Spec L2 Evl PyProof.Rows
/-! ### things of any kind -/
inductive Th where
  | non
  | str (s : Str)
  | int (i : Int)
  | bl (b : Bool)
  | lst (l : List Th)
  | tup (l : List Th)
  | dct
mutual
def thRep : Th → Hp → V → Prop
  | .non, _, v => v = .non
  | .str s, _, v => v = .str s
  | .int i, _, v => v = .int i
  | .bl b, _, v => v = .bl b
  | .lst l, H, v => ∃ p vs, v = .ref p ∧ H p = some (.lst vs) ∧ thAll l H vs
  | .tup l, H, v => ∃ p vs, v = .ref p ∧ H p = some (.tup vs) ∧ thAll l H vs
  | .dct, H, v => ∃ p, v = .ref p ∧ H p = some (.dK [])
def thAll : List Th → Hp → List V → Prop
  | [], _, vs => vs = []
  | t :: ts, H, vs => ∃ v us, vs = v :: us ∧ thRep t H v ∧ thAll ts H us
end
mutual
theorem thRep.mono : ∀ (t : Th) {H H' : Hp} {v : V}, Ex H H' → thRep t H v → thRep t H' v
  | .non, _, _, _, _, h => h
  | .str _, _, _, _, _, h => h
  | .int _, _, _, _, _, h => h
  | .bl _, _, _, _, _, h => h
  | .lst l, _, _, _, e, ⟨p, vs, h1, h2, h3⟩ => ⟨p, vs, h1, e _ _ h2, thAll.mono l e h3⟩
  | .tup l, _, _, _, e, ⟨p, vs, h1, h2, h3⟩ => ⟨p, vs, h1, e _ _ h2, thAll.mono l e h3⟩
  | .dct, _, _, _, e, ⟨p, h1, h2⟩ => ⟨p, h1, e _ _ h2⟩
theorem thAll.mono : ∀ (ts : List Th) {H H' : Hp} {vs : List V}, Ex H H' → thAll ts H vs → thAll ts H' vs
  | [], _, _, _, _, h => h
  | t :: ts, _, _, _, e, ⟨v, us, h1, h2, h3⟩ => ⟨v, us, h1, thRep.mono t e h2, thAll.mono ts e h3⟩
end
instance repTh {K : PySem.W.Frag} : Rep K Th := ⟨fun H v t => thRep t H v, fun {_ _ _ t} e h => thRep.mono t e h⟩
theorem th_all {K : PySem.W.Frag} {H : Hp} : ∀ {ts : List Th} {vs : List V}, thAll ts H vs → Paired (rep K H) vs ts
  | [], _, h => by
    have h : _ = [] := h
    subst h
    exact .nil
  | t :: ts, _, ⟨v, us, h1, h2, h3⟩ => by
    subst h1
    exact .cons h2 (th_all h3)
theorem all_th {K : PySem.W.Frag} {H : Hp} : ∀ {ts : List Th} {vs : List V}, Paired (rep K H) vs ts → thAll ts H vs
  | [], _, .nil => rfl
  | _ :: _, _, .cons r t => ⟨_, _, rfl, r, all_th t⟩
/-! no list of it begins with a reference -/
mutual
def Th.flat : Th → Bool
  | .lst l => (match l with | .int _ :: _ => true | [] => true | _ => false) && flatAll l
  | .tup l => flatAll l
  | _ => true
def flatAll : List Th → Bool
  | [] => true
  | t :: ts => t.flat && flatAll ts
end
mutual
theorem thRep.upd {l : Addr} {r : Addr} {us : List V} {o : HO} : ∀ (t : Th) {H : Hp} {v : V}, H l = some (.lst (.ref r :: us)) → t.flat = true → thRep t H v → thRep t (upd H l o) v
  | .non, _, _, _, _, h => h
  | .str _, _, _, _, _, h => h
  | .int _, _, _, _, _, h => h
  | .bl _, _, _, _, _, h => h
  | .lst ts, H, v, hl, hf, ⟨p, vs, h1, h2, h3⟩ => by
    unfold Th.flat at hf
    rw [Bool.and_eq_true] at hf
    have hne : p ≠ l := fun e => by
      rw [e, hl] at h2
      have h2 := HO.lst.inj (Option.some.inj h2)
      subst h2
      match ts, h3, hf.1 with
      | [], h3, _ => cases h3
      | .int _ :: _, ⟨w, ws, e1, e2, _⟩, _ =>
        have e2 : w = .int _ := e2
        rw [e2] at e1
        cases e1
    exact ⟨p, vs, h1, by rw [upd_ne hne]; exact h2, thAll.upd ts hl hf.2 h3⟩
  | .tup ts, H, v, hl, hf, ⟨p, vs, h1, h2, h3⟩ => by
    have hne : p ≠ l := fun e => by rw [e, hl] at h2; cases h2
    exact ⟨p, vs, h1, by rw [upd_ne hne]; exact h2, thAll.upd ts hl hf h3⟩
  | .dct, H, v, hl, _, ⟨p, h1, h2⟩ => by
    have hne : p ≠ l := fun e => by rw [e, hl] at h2; cases h2
    exact ⟨p, h1, by rw [upd_ne hne]; exact h2⟩
theorem thAll.upd {l : Addr} {r : Addr} {us : List V} {o : HO} : ∀ (ts : List Th) {H : Hp} {vs : List V}, H l = some (.lst (.ref r :: us)) → flatAll ts = true → thAll ts H vs → thAll ts (upd H l o) vs
  | [], _, _, _, _, h => h
  | t :: ts, _, _, hl, hf, ⟨v, ws, h1, h2, h3⟩ => by
    unfold flatAll at hf
    rw [Bool.and_eq_true] at hf
    exact ⟨v, ws, h1, thRep.upd t hl hf.1 h2, thAll.upd ts hl hf.2 h3⟩
end
def Th.tyn : Th → String
  | .non => "NoneType"
  | .str _ => "str"
  | .int _ => "int"
  | .bl _ => "bool"
  | .lst _ => "list"
  | .tup _ => "tuple"
  | .dct => "dict"
def is_tuple : Th → Bool
  | .non => false
  | .str _ => false
  | .int _ => false
  | .bl _ => false
  | .lst _ => false
  | .tup _ => true
  | .dct => false
theorem kit_tuple (x : Th) : kitB x.tyn "tuple" = some (is_tuple x) := by
  cases x with
  | non => exact (by decide +kernel : kitB "NoneType" "tuple" = some false)
  | str _ => exact (by decide +kernel : kitB "str" "tuple" = some false)
  | int _ => exact (by decide +kernel : kitB "int" "tuple" = some false)
  | bl _ => exact (by decide +kernel : kitB "bool" "tuple" = some false)
  | lst _ => exact (by decide +kernel : kitB "list" "tuple" = some false)
  | tup _ => exact (by decide +kernel : kitB "tuple" "tuple" = some true)
  | dct => exact (by decide +kernel : kitB "dict" "tuple" = some false)
def is_list : Th → Bool
  | .non => false
  | .str _ => false
  | .int _ => false
  | .bl _ => false
  | .lst _ => true
  | .tup _ => false
  | .dct => false
theorem kit_list (x : Th) : kitB x.tyn "list" = some (is_list x) := by
  cases x with
  | non => exact (by decide +kernel : kitB "NoneType" "list" = some false)
  | str _ => exact (by decide +kernel : kitB "str" "list" = some false)
  | int _ => exact (by decide +kernel : kitB "int" "list" = some false)
  | bl _ => exact (by decide +kernel : kitB "bool" "list" = some false)
  | lst _ => exact (by decide +kernel : kitB "list" "list" = some true)
  | tup _ => exact (by decide +kernel : kitB "tuple" "list" = some false)
  | dct => exact (by decide +kernel : kitB "dict" "list" = some false)
def is_int : Th → Bool
  | .non => false
  | .str _ => false
  | .int _ => true
  | .bl _ => true
  | .lst _ => false
  | .tup _ => false
  | .dct => false
theorem kit_int (x : Th) : kitB x.tyn "int" = some (is_int x) := by
  cases x with
  | non => exact (by decide +kernel : kitB "NoneType" "int" = some false)
  | str _ => exact (by decide +kernel : kitB "str" "int" = some false)
  | int _ => exact (by decide +kernel : kitB "int" "int" = some true)
  | bl _ => exact (by decide +kernel : kitB "bool" "int" = some true)
  | lst _ => exact (by decide +kernel : kitB "list" "int" = some false)
  | tup _ => exact (by decide +kernel : kitB "tuple" "int" = some false)
  | dct => exact (by decide +kernel : kitB "dict" "int" = some false)
def is_bool : Th → Bool
  | .non => false
  | .str _ => false
  | .int _ => false
  | .bl _ => true
  | .lst _ => false
  | .tup _ => false
  | .dct => false
theorem kit_bool (x : Th) : kitB x.tyn "bool" = some (is_bool x) := by
  cases x with
  | non => exact (by decide +kernel : kitB "NoneType" "bool" = some false)
  | str _ => exact (by decide +kernel : kitB "str" "bool" = some false)
  | int _ => exact (by decide +kernel : kitB "int" "bool" = some false)
  | bl _ => exact (by decide +kernel : kitB "bool" "bool" = some true)
  | lst _ => exact (by decide +kernel : kitB "list" "bool" = some false)
  | tup _ => exact (by decide +kernel : kitB "tuple" "bool" = some false)
  | dct => exact (by decide +kernel : kitB "dict" "bool" = some false)
theorem th_ty {K : PySem.W.Frag} {H : Hp} {v : V} : ∀ {t : Th}, rep K H v t → TyX K H v (.type t.tyn)
  | .non, h => by have h : v = .non := h; subst h; exact .base .non
  | .str s, h => by have h : v = .str s := h; subst h; exact .base (.str _)
  | .int i, h => by have h : v = .int i := h; subst h; exact .base (.int _)
  | .bl b, h => by have h : v = .bl b := h; subst h; exact .base (.bl _)
  | .lst l, ⟨p, vs, h1, h2, _⟩ => by subst h1; exact .base (.lst h2)
  | .tup l, ⟨p, vs, h1, h2, _⟩ => by subst h1; exact .base (.tup h2)
  | .dct, ⟨p, h1, h2⟩ => by subst h1; exact .base (.dK h2)
def Th.len : Th → Int
  | .lst l => (l.length : Int)
  | .tup l => (l.length : Int)
  | _ => 0
def Th.items : Th → List Th
  | .lst l => l
  | .tup l => l
  | _ => []
def Th.val : Th → Int
  | .int i => i
  | _ => 0
def numT : Th → Bool
  | .int _ => true
  | _ => false
theorem numT_is (x : Th) : (is_int x && !is_bool x) = numT x := by cases x <;> rfl
def posT (x : Th) : Bool := numT x && decide (0 < x.val)
def pairT : Th → Bool
  | .tup l => decide ((l.length : Int) = 2) && ((l.map posT).all id)
  | _ => false
def rowT : Th → Bool
  | .lst l => (decide (1 ≤ (l.length : Int)) && decide ((l.length : Int) ≤ 1000)) && (((l.map posT).all id) && (decide ((l.length : Int) = 1) || decide (1 < (l.getLast?.getD .non).val)))
  | _ => false
def pairsT : Th → Bool
  | .lst l => decide ((l.length : Int) ≤ 100) && ((l.map pairT).all id)
  | _ => false
section
variable {K : PySem.W.Frag} {σ : L2.St} {H H' : Hp} {ta tb tc te : TE} {t u : TT} {α β γ : Type} [Rep K α] [Rep K β] [Rep K γ] {a : α} {b : β} {D : Ends} {tu tw tz : TS} {g : TG} {i j k n : Nat}
theorem evr_isiT {x : Th} {nm : String} {r : Bool} (h : EvR K te σ H x) (hk : kitB x.tyn nm = some r) : EvR K (tCB (rIsi K) (tCons te (tCons (tC (.ty nm)) tNil))) σ H r := fun H1 e Q q => h H1 e _ fun v H2 e2 rr =>
  ⟨v, .ty nm, _, _, r, rfl, .ty nm, th_ty rr, kit_ty hk, q _ H2 e2 rfl⟩
theorem evr_as {α' : Type} [Rep K α'] {a' : α'} (h : EvR K te σ H a) (hr : ∀ {H : Hp} {v : V}, rep K H v a → rep K H v a') : EvR K te σ H a' := fun H1 e Q q => h H1 e Q fun v H2 e2 r => q v H2 e2 (hr r)
theorem th_li {l : List Th} {H : Hp} {v : V} (h : rep K H v (Th.lst l)) : rep K H v l := by
  obtain ⟨p, vs, h1, h2, h3⟩ := h
  exact ⟨p, vs, h1, h2, th_all h3⟩
theorem li_th {l : List Th} {H : Hp} {v : V} (h : rep K H v l) : rep K H v (Th.lst l) := by
  obtain ⟨p, vs, h1, h2, h3⟩ := h
  exact ⟨p, vs, h1, h2, all_th h3⟩
theorem th_tu {l : List Th} {H : Hp} {v : V} (h : rep K H v (Th.tup l)) : rep K H v (Tu.mk l) := by
  obtain ⟨p, vs, h1, h2, h3⟩ := h
  exact ⟨p, vs, h1, h2, th_all h3⟩
theorem tu_th {l : List Th} {H : Hp} {v : V} (h : rep K H v (Tu.mk l)) : rep K H v (Th.tup l) := by
  obtain ⟨p, vs, h1, h2, h3⟩ := h
  exact ⟨p, vs, h1, h2, all_th h3⟩
theorem evr_thI {x : Int} (h : EvR K te σ H x) : EvR K te σ H (Th.int x) := evr_as h id
theorem evr_thB {x : Bool} (h : EvR K te σ H x) : EvR K te σ H (Th.bl x) := evr_as h id
theorem evr_thN (h : EvR K te σ H ()) : EvR K te σ H Th.non := evr_as h id
theorem evr_thS {x : Str} : EvR K (tC (.str x)) σ H (Th.str x) := fun H1 _ Q q => q _ H1 (Ex.refl _) rfl
theorem evr_thD : EvR K tDNewK σ H Th.dct := fun H1 _ Q q p hp => q _ _ (Ex.new hp) ⟨p, rfl, upd_same⟩
theorem evr_thT {tl : TA} {as : List Th} (h : EvLs K tl σ H as) (hz : as.length ≤ 100000) : EvR K (tTup tl) σ H (Th.tup as) := evr_as (evr_tu h hz) tu_th
theorem evr_thL {tl : TA} {as : List Th} (h : EvLs K tl σ H as) (hz : as.length ≤ 100000) : EvR K (tLst tl) σ H (Th.lst as) := evr_as (evr_list h hz) li_th
theorem ints_th {H : Hp} : ∀ {xs : List Int} {vs : List V}, Paired (rep K H) vs xs → Paired (rep K H) vs (xs.map Th.int)
  | _, _, .nil => .nil
  | _, _, .cons r t => .cons r (ints_th t)
theorem evr_thLI {xs : List Int} (h : EvR K te σ H xs) : EvR K te σ H (Th.lst (xs.map Th.int)) := evr_as h fun ⟨p, vs, h1, h2, h3⟩ => li_th ⟨p, vs, h1, h2, ints_th h3⟩
def pairTh (p : Int × Int) : Th := .tup [.int p.1, .int p.2]
theorem pair_th {p : Int × Int} {H : Hp} {v : V} (h : rep K H v p) : rep K H v (pairTh p) := by
  obtain ⟨q, x, y, h1, h2, h3, h4⟩ := h
  exact ⟨q, _, h1, h2, x, _, rfl, h3, y, _, rfl, h4, rfl⟩
theorem pairs_th {H : Hp} : ∀ {xs : List (Int × Int)} {vs : List V}, Paired (rep K H) vs xs → Paired (rep K H) vs (xs.map pairTh)
  | _, _, .nil => .nil
  | _, _, .cons r t => .cons (pair_th r) (pairs_th t)
theorem evr_thLP {xs : List (Int × Int)} (h : EvR K te σ H xs) : EvR K te σ H (Th.lst (xs.map pairTh)) := evr_as h fun ⟨p, vs, h1, h2, h3⟩ => li_th ⟨p, vs, h1, h2, pairs_th h3⟩
theorem evr_thLT {xs : List Th} (h : EvR K te σ H xs) : EvR K te σ H (Th.lst xs) := evr_as h li_th
theorem evr_thV {x : Th} (h : EvR K te σ H x) (c : numT x = true) : EvR K te σ H x.val := evr_as h fun {H v} r => by
  cases x with
  | int i => exact r
  | _ => cases c
theorem evr_shl {i j : Int} (ha : EvR K ta σ H i) (hb : EvR K tb σ H j) (hc : CPow i j) : EvR K (tOp (rI CPow fun i j => .int (i * 2 ^ j.toNat)) ta tb) σ H (i * 2 ^ j.toNat) := evr_opI (g := fun i j => i * 2 ^ j.toNat) ha hb hc
theorem evr_lenU {as : List α} (ha : EvR K ta σ H (Tu.mk as)) : EvR K (tCB (rLenS K) (tCons ta tNil)) σ H (as.length : Int) := fun H1 e Q q => ha H1 e _ fun v H2 e2 ⟨p, vs, ev, hp, rs⟩ =>
  ⟨p, vs, by rw [ev], .inr (SqT.of hp), q _ H2 e2 (by show V.int _ = V.int _; rw [show vs.length = as.length from rs.length])⟩
/-- [e for x in a tuple] -/
theorem evn_lcU [RepT K β] {tl : TE} {as : List α} {vs : List Nat} (f : α → β) (h : EvR K tl σ H (Tu.mk as)) (hz : as.length ≤ 100000) (hw : ∀ v, wipe ((wipe σ vs).set j (some v)) vs = wipe σ vs)
    (he : ∀ (n : Nat) (x : α) (v : V) H1, Ex H H1 → as[n]? = some x → rep K H1 v x → EvR K te ((wipe σ vs).set j (some v)) H1 (f x)) : EvN K (tLc (iTup K tl) (gName j) tYes te vs) σ H (as.map f) := fun H0 e Q q => h H0 e _ fun v H1 e1 ⟨p, us, ev, hp, rs⟩ =>
  ⟨p, ev, ⟨us, SqT.of hp⟩, fun Dl hD => lc_tup (xs := us) (fun n H' => Ex H1 H' ∧ ∃ acc, H' Dl = some (.lst acc) ∧ Paired (rep K H') acc ((as.take n).map f)) ⟨Ex.new hD, [], upd_same, by rw [List.take_zero]; exact .nil⟩ (fun n H' _ c => SqT.of (c.1 _ _ hp))
    (fun n y H' hy c => by
      obtain ⟨x, hx, rx⟩ := paired_get' rs hy
      obtain ⟨c1, acc, c2, c3⟩ := c
      refine ⟨hw y, ?_⟩
      refine tyes_i ?_
      refine he n x y H' ((e.trans e1).trans c1) hx (rmono c1 rx) H' (Ex.refl _) _ fun z H4 e4 rz => ⟨acc, e4 _ _ c2, sz_lt ?_, Ex.mut (c1.trans e4) hD, _, upd_same, ?_⟩
      · rw [c3.length, List.length_map, List.length_take]
        have hx : as[n]? = some x := hx
        have := (List.getElem?_eq_some_iff.mp hx).1
        omega
      · have hs : as.take (n + 1) = as.take n ++ [x] := take_step hx
        have hn := not_tup_lst (e4 _ _ c2)
        rw [hs, List.map_append]
        exact paired_append (pstab hn (pmono e4 c3)) (.cons (RepT.stab hn rz) .nil)) (fun H' c => by
      obtain ⟨c1, acc, c2, c3⟩ := c
      rw [show us.length = as.length from rs.length, List.take_length] at c3
      exact q _ _ _ (fresh_back e1 hD) (e1.trans c1) c2 c3)⟩
/-! ### what raises -/
def Rf1 (K : PySem.W.Frag) {α : Type} [Rep K α] (pre : α → Prop) (C : Addr) : Sp := fun vs H _ E => ∃ v a, vs = [v] ∧ rep K H v a ∧ pre a ∧ ∀ H', Ex H H' → E (.ref C) none H'
def Rf2 (K : PySem.W.Frag) {α β : Type} [Rep K α] [Rep K β] (pre : α → β → Prop) (C : Addr) : Sp := fun vs H _ E => ∃ v w a b, vs = [v, w] ∧ rep K H v a ∧ rep K H w b ∧ pre a b ∧ ∀ H', Ex H H' → E (.ref C) none H'
theorem Rf1.len {pre : α → Prop} {C : Addr} {vs : List V} {H : Hp} {Q : VK} {E : XK} (h : Rf1 K pre C vs H Q E) : vs.length = 1 := by obtain ⟨v, a, rfl, _⟩ := h; rfl
theorem Rf2.len {pre : α → β → Prop} {C : Addr} {vs : List V} {H : Hp} {Q : VK} {E : XK} (h : Rf2 K pre C vs H Q E) : vs.length = 2 := by obtain ⟨v, w, a, b, rfl, _⟩ := h; rfl
theorem rx_call1 {pre : α → Prop} {W : WX} {C : Addr} {Q : VK} (ha : EvR K ta σ H a) (hp : pre a) (k : ∀ H1, Ex H H1 → W (.ref C) none σ H1) : tCallS (Rf1 K pre C) (WE W) (tCons ta tNil) σ H Q := ha H (Ex.refl H) _ fun v H2 e2 r =>
  ⟨v, a, rfl, r, hp, fun H3 e3 => k H3 (e2.trans e3)⟩
theorem rx_call2 {pre : α → β → Prop} {W : WX} {C : Addr} {Q : VK} (ha : EvR K ta σ H a) (hb : EvR K tb σ H b) (hp : pre a b) (k : ∀ H1, Ex H H1 → W (.ref C) none σ H1) : tCallS (Rf2 K pre C) (WE W) (tCons ta (tCons tb tNil)) σ H Q := ha H (Ex.refl H) _ fun v H2 e2 r =>
  hb H2 e2 _ fun w H3 e3 r3 => ⟨v, w, a, b, rfl, rmono e3 r, r3, hp, fun H4 e4 => k H4 ((e2.trans e3).trans e4)⟩
theorem x_if {c : Bool} {Q : VK} (h : EvT t σ H c) (h1 : c = true → ∀ H1, Ex H H1 → ta σ H1 Q) (h2 : c = false → ∀ H1, Ex H H1 → tb σ H1 Q) : tIf t ta tb σ H Q := h H (Ex.refl H) _ fun H1 e => by
  cases c with
  | true => exact h1 rfl H1 e
  | false => exact h2 rfl H1 e
end
structure CalX (P : Program) (w : World) (K : PySem.W.Frag) (mg : Str → Option Value) (base : Heap) (k : Nat) (x : Str) (ps : List Str) (sp : Sp) : Prop where
  ex : ∃ (f : Addr) (fd : FuncData), FnOk P w K mg base (L2.CX P w) k f fd ps sp ∧ mg x = some (.ref f) ∧ PySem.W.keepIn K (.ref f) = true ∧ Binds K fd ps []
theorem pe_calX {X : Cx} {k : Nat} {x : Str} {ps : List Str} {sp : Sp} {W : WX} {e : Expr} {es : List Expr} {t : TA} {p pos : PySem.Pos} (C : CalX X.prog X.w X.K X.mg X.base k x ps sp) (hr : Room k X.A) (hg : Gl X x) (tk : Takes X W) (ha : PA X (e :: es) t) (hdb : (x == ("__debug__" : Str)) = false := by decide)
    (he : starEach (e :: es) X.env = (false, eval e X.env) :: starEach es X.env := by rfl) (hpl : (backTo pos (starEach es X.env)).any (·.1) = false := by rfl) : PE X (.Call (.Name x p) (e :: es) [] pos) (tCallS sp (WE W) t) := by
  obtain ⟨f, fd, F, hm, hk, hb⟩ := C.ex
  exact pe_callS F hr hg hm hk hb (fun σ => passAt tk σ) ha hdb he hpl
/-- an own error class -/
structure ErrX (K : PySem.W.Frag) (mg : Str → Option Value) (name : Str) (C CT : Addr) : Prop where
  g : mg name = some (.ref C)
  x : PySem.W.excIn K C [.type "ValueError", .type "Exception", .type "BaseException", .type "object"] "ValueError.__new__" = true
  k : PySem.W.keepIn K (.ref C) = true
  b : PySem.W.subIn K (.ref C) (.type "BaseException") = some true
  t : PySem.W.typeIn K (.ref C) = some (.type "type")
  e : PySem.W.exmOne K (.ref C) (.ref CT) = some true
  c : ExcC K C
  v : PySem.W.kitOne K (.ref C) (.type "ValueError") = some true
theorem was_ok {K : PySem.W.Frag} {c : Value} {i : Nat} {ts : Addr → Value → Option Addr → TS} {Wout : WX} {D : Ends} {C : Addr} {σ : L2.St} {H : Hp} (hx : PySem.W.exmOne K (.ref C) c = some true)
    (h : ∀ a, H a = none → ts a (.ref C) none { nx := fun σ' H' => D.nx (σ'.set i none) H', rt := D.rt, bk := fun σ' H' => D.bk (σ'.set i none) H', ct := fun σ' H' => D.ct (σ'.set i none) H' } (σ.set i (some (.ref a))) H) : wAs K c i ts Wout D (.ref C) none σ H :=
  ⟨true, hx, fun _ a ha => h a ha, fun q => Bool.noConfusion q⟩
def rIsX (K : PySem.W.Frag) (cls : Value) (d : Option Addr) (a : Addr) : List V → Hp → VK → Prop := fun xs H Q => ∃ D, cls = .ref D ∧ d = none ∧ ExcC K D ∧ rIsE K D a xs H Q
theorem call_isX {X : Cx} {a : Addr} {cls : Value} {d : Option Addr} {oe : Obj} {pn : List (Addr × Obj)} (hz : Zc cls d oe) (hf : ∃ vs, oe.data = .fields vs) : CallR (X.suite a ((a, oe) :: pn)) (.builtin "isinstance") (rIsX X.K cls d a) := by
  intro pins s σ H xs us Q I r h
  obtain ⟨D, rfl, rfl, C, q⟩ := h
  exact call_isE C hz hf pins s σ H xs us Q I r q
theorem evr_isX {K : PySem.W.Frag} {σ : L2.St} {H : Hp} {D a C' : Addr} {i : Nat} {b : Bool} (hv : σ[i]? = some (some (.ref a))) (C : ExcC K D) (hk : PySem.W.kitOne K (.ref D) (.ref C') = some b) : EvR K (tCB (rIsX K (.ref D) none a) (tCons (tVar i) (tCons (tC (.ref C')) tNil))) σ H b := fun H1 e Q q =>
  ⟨_, hv, D, rfl, rfl, C, .ref C', .ref C', b, rfl, fun _ h => h, hk, q _ H1 (Ex.refl _) rfl⟩
theorem evr_isV {K : PySem.W.Frag} {σ : L2.St} {H : Hp} {D a : Addr} {i : Nat} {nm : String} {b : Bool} (hv : σ[i]? = some (some (.ref a))) (C : ExcC K D) (hk : PySem.W.kitOne K (.ref D) (.type nm) = some b) : EvR K (tCB (rIsX K (.ref D) none a) (tCons (tVar i) (tCons (tC (.ty nm)) tNil))) σ H b := fun H1 e Q q =>
  ⟨_, hv, D, rfl, rfl, C, .ty nm, .type nm, b, rfl, fun _ h => h, hk, q _ H1 (Ex.refl _) rfl⟩
end Mt
namespace Mt
open PySem PySem.Spec L2 Evl PyProof.Rows
theorem smcs {ps : List (Int × Int)} (h : (ps.all fun p => (decide (0 < p.1) && decide (0 < p.2) && decide (p.1.natAbs < 2 ^ 200) && decide (p.2.natAbs < 2 ^ 200))) = true) : AllSm ps := fun p hp => smc (List.all_eq_true.mp h p hp)
theorem getD_ix {α : Type} {l : List α} {i : Int} (h0 : 0 ≤ i) (h1 : i < (l.length : Int)) (d : α) : l[i.toNat]? = some (l.getD i.toNat d) := by
  rw [List.getD_eq_getElem?_getD, List.getElem?_eq_getElem (by omega)]
  rfl
theorem getD_mem {α : Type} {l : List α} {i : Int} (h0 : 0 ≤ i) (h1 : i < (l.length : Int)) (d : α) : l.getD i.toNat d ∈ l := List.mem_of_getElem? (getD_ix h0 h1 d)
theorem posT_neg {m : Int} (h : 0 ≤ m) : posT (.int ((-1) - m)) = false := by
  show (true && decide (0 < (-1) - m)) = false
  rw [decide_eq_false (by omega)] <;> rfl
def Short (x : Th) : Prop := x.items.length ≤ 90000
instance (x : Th) : Decidable (Short x) := inferInstanceAs (Decidable (x.items.length ≤ 90000))
def BadP (x : Th) : Prop := pairT x = false ∧ Short x
/-! ### bad pairs -/
def badP0 (m : Int) : List Th := [.non, .tup [], .tup [.int 1], .tup [.int 1, .int 2, .int 3], .lst [.int 1, .int 2], .str "12", .int 5, .dct, .tup [.int 0, .int 1], .tup [.int 1, .int 0], .tup [.int ((-1) - m), .int 2], .tup [.int 2, .int ((-1) - m)]]
def badP1 (m : Int) : List Th := [.tup [.non, .int 1], .tup [.int 1, .str "2"], .tup [.bl true, .int 2], .tup [.int 1, .bl true], .tup [.bl false, .int 3], .tup [.lst [.int 1], .int 2], .tup [.int 1, .tup [.int 2]], .tup [.int m, .int 0]]
def badPairs (m : Int) : List Th := badP0 m ++ badP1 m
def badPair (w m : Int) : Th := (badPairs m).getD (w % 20).toNat .non
theorem pair_bad1 {x y : Th} (h : posT x = false) : pairT (.tup [x, y]) = false := by
  show (decide ((([x, y] : List Th).length : Int) = 2) && (posT x && (posT y && true))) = false
  rw [h, Bool.false_and, Bool.and_false]
theorem pair_bad2 {x y : Th} (h : posT y = false) : pairT (.tup [x, y]) = false := by
  show (decide ((([x, y] : List Th).length : Int) = 2) && (posT x && (posT y && true))) = false
  rw [h, Bool.false_and, Bool.and_false, Bool.and_false]
theorem badPairs_ok {m : Int} (h : 0 ≤ m) {x : Th} (hx : x ∈ badPairs m) : BadP x ∧ x.flat = true := by
  have hn := posT_neg h
  unfold badPairs badP0 badP1 at hx
  simp only [List.cons_append, List.nil_append, List.mem_cons, List.not_mem_nil, or_false] at hx
  rcases hx with h | h | h | h | h | h | h | h | h | h | h | h | h | h | h | h | h | h | h | h <;> subst h
  · exact ⟨⟨rfl, by decide⟩, rfl⟩
  · exact ⟨⟨rfl, by decide⟩, rfl⟩
  · exact ⟨⟨rfl, by decide⟩, rfl⟩
  · exact ⟨⟨rfl, by decide⟩, rfl⟩
  · exact ⟨⟨rfl, by decide⟩, rfl⟩
  · exact ⟨⟨rfl, by decide⟩, rfl⟩
  · exact ⟨⟨rfl, by decide⟩, rfl⟩
  · exact ⟨⟨rfl, by decide⟩, rfl⟩
  · exact ⟨⟨rfl, by decide⟩, rfl⟩
  · exact ⟨⟨rfl, by decide⟩, rfl⟩
  · exact ⟨⟨pair_bad1 hn, by show 2 ≤ 90000; decide⟩, rfl⟩
  · exact ⟨⟨pair_bad2 hn, by show 2 ≤ 90000; decide⟩, rfl⟩
  · exact ⟨⟨rfl, by decide⟩, rfl⟩
  · exact ⟨⟨rfl, by decide⟩, rfl⟩
  · exact ⟨⟨rfl, by decide⟩, rfl⟩
  · exact ⟨⟨rfl, by decide⟩, rfl⟩
  · exact ⟨⟨rfl, by decide⟩, rfl⟩
  · exact ⟨⟨rfl, by decide⟩, rfl⟩
  · exact ⟨⟨rfl, by decide⟩, rfl⟩
  · exact ⟨⟨pair_bad2 rfl, by show 2 ≤ 90000; decide⟩, rfl⟩
theorem bp_rng (w m : Int) : 0 ≤ w % 20 ∧ w % 20 < ((badPairs m).length : Int) := ⟨Int.emod_nonneg _ (by decide), Int.emod_lt_of_pos _ (show (0 : Int) < 20 by decide)⟩
theorem bp_ix (w m : Int) : (badPairs m)[(w % 20).toNat]? = some (badPair w m) := getD_ix (bp_rng w m).1 (bp_rng w m).2 _
theorem bp_ok {m : Int} (w : Int) (h : 0 ≤ m) : BadP (badPair w m) ∧ (badPair w m).flat = true := badPairs_ok h (List.mem_of_getElem? (bp_ix w m))
/-! ### bad rows -/
def badR0 (m : Int) : List Th := [.non, .tup [.int 1, .int 2], .str "12", .dct, .int 3, .lst [], .lst [.int 1, .int 1], .lst [.int 2, .int 1], .lst [.int 0], .lst [.int 1, .int 0, .int 2], .lst [.int 2, .int ((-1) - m), .int 2], .lst (((List.replicate (1000 : Int).toNat [(1 : Int)]).flatten ++ [2]).map Th.int)]
def badR1 : List Th := [.lst [.non], .lst [.str "1"], .lst [.bl true], .lst [.int 2, .bl true, .int 2], .lst [.lst [.int 2]]]
def badRows (m : Int) : List Th := badR0 m ++ badR1
def badRow (w m : Int) : Th := (badRows m).getD (w % 17).toNat .non
def BadR (x : Th) : Prop := rowT x = false ∧ Short x
theorem ones_len (n : Nat) : (List.replicate n [(1 : Int)]).flatten.length = n := by
  rw [List.length_flatten, List.map_replicate, List.sum_replicate_nat]
  simp
theorem rowT_lst (l : List Th) : rowT (.lst l) = ((decide (1 ≤ (l.length : Int)) && decide ((l.length : Int) ≤ 1000)) && (((l.map posT).all id) && (decide ((l.length : Int) = 1) || decide (1 < (l.getLast?.getD .non).val)))) := rfl
theorem badRows_ok {m : Int} (h : 0 ≤ m) {x : Th} (hx : x ∈ badRows m) : BadR x := by
  have hn := posT_neg h
  unfold badRows badR0 badR1 at hx
  simp only [List.cons_append, List.nil_append, List.mem_cons, List.not_mem_nil, or_false] at hx
  rcases hx with h | h | h | h | h | h | h | h | h | h | h | h | h | h | h | h | h <;> subst h
  · exact ⟨rfl, by decide⟩
  · exact ⟨rfl, by decide⟩
  · exact ⟨rfl, by decide⟩
  · exact ⟨rfl, by decide⟩
  · exact ⟨rfl, by decide⟩
  · exact ⟨rfl, by decide⟩
  · exact ⟨rfl, by decide⟩
  · exact ⟨rfl, by decide⟩
  · exact ⟨rfl, by decide⟩
  · exact ⟨rfl, by decide⟩
  · refine ⟨?_, by show 3 ≤ 90000; decide⟩
    rw [rowT_lst, show (([Th.int 2, Th.int ((-1) - m), Th.int 2].map posT).all id) = false from by
      show (posT (.int 2) && (posT (.int ((-1) - m)) && (posT (.int 2) && true))) = false
      rw [hn]
      rfl, Bool.false_and, Bool.and_false]
  · have hl : (((List.replicate (1000 : Int).toNat [(1 : Int)]).flatten ++ [2]).map Th.int).length = 1001 := by
      rw [List.length_map, List.length_append, ones_len]
      rfl
    refine ⟨?_, by show (((List.replicate (1000 : Int).toNat [(1 : Int)]).flatten ++ [2]).map Th.int).length ≤ 90000; rw [hl]; decide⟩
    rw [rowT_lst, hl] <;> rfl
  · exact ⟨rfl, by decide⟩
  · exact ⟨rfl, by decide⟩
  · exact ⟨rfl, by decide⟩
  · exact ⟨rfl, by decide⟩
  · exact ⟨rfl, by decide⟩
theorem br_rng (w m : Int) : 0 ≤ w % 17 ∧ w % 17 < ((badRows m).length : Int) := ⟨Int.emod_nonneg _ (by decide), Int.emod_lt_of_pos _ (show (0 : Int) < 17 by decide)⟩
theorem br_ix (w m : Int) : (badRows m)[(w % 17).toNat]? = some (badRow w m) := getD_ix (br_rng w m).1 (br_rng w m).2 _
theorem br_ok {m : Int} (w : Int) (h : 0 ≤ m) : BadR (badRow w m) := badRows_ok h (List.mem_of_getElem? (br_ix w m))
/-! ### strange takings -/
def strange (m : Int) : List Th := [.non, .str "1", .bl true, .bl false, .lst [.int 1], .tup [.int 1], .dct, .int 0, .int ((-1) - m)]
theorem strange_ok {m : Int} (h : 0 ≤ m) {x : Th} (hx : x ∈ strange m) : numT x = false ∨ x.val ≤ 0 := by
  unfold strange at hx
  simp only [List.mem_cons, List.not_mem_nil, or_false] at hx
  rcases hx with h | h | h | h | h | h | h | h | h <;> subst h
  · exact .inl rfl
  · exact .inl rfl
  · exact .inl rfl
  · exact .inl rfl
  · exact .inl rfl
  · exact .inl rfl
  · exact .inl rfl
  · exact .inr (by decide)
  · exact .inr (by show (-1) - m ≤ 0; omega)
def takT (p : Int × Int) (t : Th) : Bool := numT t && (decide (1 ≤ t.val) && decide (t.val ≤ mostOf p))
def comT (t : Th) : Bool := numT t && !decide (t.val < 1)
def k6Pairs (m : Int) : List (Int × Int) := [(5, 18), (18, 5), (7, 7), (1, 4 + m), (15, 5)]
def k6Pair (w m : Int) : Int × Int := (k6Pairs m).getD (w / 10 % 5).toNat (1, 1)
def k6Bys (m : Int) : List Int := [3, 3, 0, 3 + m, 2]
def k6By (w m : Int) : Int := (k6Bys m).getD (w / 10 % 5).toNat 0
def k6Beyond (w m : Int) : Int := k6By w m + 1 + w / 50 % 2 * m
def k6Times (w m : Int) : List Th := strange m ++ [.int (k6Beyond w m)]
def k6Time (w m : Int) : Th := (k6Times w m).getD (w % 10).toNat .non
theorem k6_r5 (w : Int) : 0 ≤ w / 10 % 5 ∧ w / 10 % 5 < 5 := ⟨Int.emod_nonneg _ (by decide), Int.emod_lt_of_pos _ (by decide)⟩
theorem k6_pix (w m : Int) : (k6Pairs m)[(w / 10 % 5).toNat]? = some (k6Pair w m) := getD_ix (l := k6Pairs m) (k6_r5 w).1 (k6_r5 w).2 _
theorem k6_bix (w m : Int) : (k6Bys m)[(w / 10 % 5).toNat]? = some (k6By w m) := getD_ix (l := k6Bys m) (k6_r5 w).1 (k6_r5 w).2 _
theorem k6_r10 (w : Int) : 0 ≤ w % 10 ∧ w % 10 < 10 := ⟨Int.emod_nonneg _ (by decide), Int.emod_lt_of_pos _ (by decide)⟩
theorem k6_tix (w m : Int) : (k6Times w m)[(w % 10).toNat]? = some (k6Time w m) := getD_ix (l := k6Times w m) (k6_r10 w).1 (k6_r10 w).2 _
theorem k6_most {w m : Int} (h0 : 0 ≤ m) (h1 : m < 1000) : Sm (k6Pair w m) ∧ mostOf (k6Pair w m) ≤ k6By w m := by
  obtain ⟨a0, a1⟩ := k6_r5 w
  unfold k6Pair k6By k6Pairs k6Bys
  have : w / 10 % 5 = 0 ∨ w / 10 % 5 = 1 ∨ w / 10 % 5 = 2 ∨ w / 10 % 5 = 3 ∨ w / 10 % 5 = 4 := by omega
  rcases this with c | c | c | c | c <;> rw [c]
  · exact (show Sm ((5 : Int), (18 : Int)) ∧ mostOf ((5 : Int), (18 : Int)) ≤ 3 from ⟨smc (by decide), by decide +kernel⟩)
  · exact (show Sm ((18 : Int), (5 : Int)) ∧ mostOf ((18 : Int), (5 : Int)) ≤ 3 from ⟨smc (by decide), by decide +kernel⟩)
  · exact (show Sm ((7 : Int), (7 : Int)) ∧ mostOf ((7 : Int), (7 : Int)) ≤ 0 from ⟨smc (by decide), by decide +kernel⟩)
  · have hp : Pos ((1 : Int), 4 + m) := ⟨(show (0 : Int) < 1 by decide), by show 0 < 4 + m; omega⟩
    refine (show Sm ((1 : Int), 4 + m) ∧ mostOf ((1 : Int), 4 + m) ≤ 3 + m from ?_)
    refine ⟨⟨hp, (bt_c (x := 1) 1).mono (by decide), (bt_of (x := 4 + m) (lo := 0) (hi := 2000) 11 (by omega) (by omega) (by decide) (by decide)).mono (by decide)⟩, ?_⟩
    show mostOf ((1 : Int), 4 + m) ≤ 3 + m
    rw [← most_form hp]
    show (max (1 : Int) (4 + m) - 1) / min (1 : Int) (4 + m) ≤ 3 + m
    rw [Int.max_eq_right (by omega), Int.min_eq_left (by omega), Int.ediv_one]
    omega
  · exact (show Sm ((15 : Int), (5 : Int)) ∧ mostOf ((15 : Int), (5 : Int)) ≤ 2 from ⟨smc (by decide), by decide +kernel⟩)
theorem k6_tak {w m : Int} (h0 : 0 ≤ m) (h1 : m < 1000) : takT (k6Pair w m) (k6Time w m) = false := by
  have hm := (k6_most (w := w) h0 h1).2
  have hb0 := Int.emod_nonneg (w / 50) (show (2 : Int) ≠ 0 by decide)
  have hb : k6By w m + 1 ≤ k6Beyond w m := by
    unfold k6Beyond
    have := Int.mul_nonneg hb0 h0
    omega
  have hx := List.mem_of_getElem? (k6_tix w m)
  unfold takT
  rcases List.mem_append.mp hx with c | c
  · rcases strange_ok h0 c with d | d
    · rw [d, Bool.false_and]
    · rw [decide_eq_false (show ¬ 1 ≤ (k6Time w m).val by omega), Bool.false_and, Bool.and_false]
  · rw [List.mem_singleton.mp c]
    rw [decide_eq_false (show ¬ (Th.int (k6Beyond w m)).val ≤ mostOf (k6Pair w m) by show ¬ k6Beyond w m ≤ _; omega), Bool.and_false, Bool.and_false]
theorem k6_mul {w m : Int} (h0 : 0 ≤ m) (h1 : m < 1000) : IntMulOk (w / 50 % 2) m :=
  (bt_of (lo := 0) (hi := 2) 2 (Int.emod_nonneg _ (by decide)) (by have := Int.emod_lt_of_pos (w / 50) (show (0 : Int) < 2 by decide); omega) (by decide) (by decide)).mulOk (bt_of (lo := 0) (hi := 1000) 10 h0 (by omega) (by decide) (by decide)) (by decide)
def k6Com (w m : Int) : Th := (strange m).getD (w / 3 % 9).toNat .non
theorem k6_cix (w m : Int) : (strange m)[(w / 3 % 9).toNat]? = some (k6Com w m) := getD_ix (l := strange m) (Int.emod_nonneg _ (show (9 : Int) ≠ 0 by decide)) (Int.emod_lt_of_pos _ (show (0 : Int) < 9 by decide)) _
theorem k6_com {w m : Int} (h : 0 ≤ m) : comT (k6Com w m) = false := by
  have hx := List.mem_of_getElem? (k6_cix w m)
  unfold comT
  rcases strange_ok h hx with d | d
  · rw [d, Bool.false_and]
  · rw [decide_eq_true (show (k6Com w m).val < 1 by omega), Bool.not_true, Bool.and_false]
/-! ### bad lists of pairs -/
def badTolds : List Th := [.non, .tup [.tup [.int 1, .int 2]], .str "12", .dct, .int 5, .tup [.int 1, .int 2], .lst [.int 1, .int 2], .lst ((List.replicate (101 : Int).toNat [((1 : Int), (1 : Int))]).flatten.map pairTh), .lst [.tup [.int 1, .int 2], .lst [.int 1, .int 2]]]
def badTold (w : Int) : Th := badTolds.getD (w / 2 % 9).toNat .non
theorem bt_ix (w : Int) : badTolds[(w / 2 % 9).toNat]? = some (badTold w) := getD_ix (l := badTolds) (Int.emod_nonneg _ (by decide)) (Int.emod_lt_of_pos _ (show (0 : Int) < 9 by decide)) _
def BadS (x : Th) : Prop := pairsT x = false ∧ Short x ∧ ∀ y ∈ x.items, Short y
def shortB (x : Th) : Bool := decide (x.items.length ≤ 90000) && x.items.all fun y => decide (y.items.length ≤ 90000)
theorem badTolds_ok : (badTolds.all fun x => !pairsT x && shortB x) = true := by decide +kernel
theorem bt_ok (w : Int) : BadS (badTold w) := by
  have := List.all_eq_true.mp badTolds_ok _ (List.mem_of_getElem? (bt_ix w))
  unfold shortB at this
  simp only [Bool.and_eq_true, Bool.not_eq_true', decide_eq_true_eq, List.all_eq_true] at this
  exact ⟨this.1, this.2.1, this.2.2⟩
def k6List (m : Int) : List (Int × Int) := (rangeI 0 (1 + m % 90)).map fun xc => (1 + xc, 2 + m)
theorem k6_llen (m : Int) : ((k6List m).length : Int) = 1 + m % 90 := by
  have := Int.emod_nonneg m (show (90 : Int) ≠ 0 by decide)
  unfold k6List
  rw [List.length_map, rangeI_len]
  omega
theorem k6_lrng (m : Int) : 1 ≤ 1 + m % 90 ∧ 1 + m % 90 ≤ 90 := by
  have := Int.emod_nonneg m (show (90 : Int) ≠ 0 by decide)
  have := Int.emod_lt_of_pos m (show (0 : Int) < 90 by decide)
  omega
def k6Mixed (m : Int) (i : Nat) (x : Th) : Th := .lst (((k6List m).map pairTh).set i x)
theorem k6_mixed {m : Int} {i : Nat} {x : Th} (hi : i < (k6List m).length) (hx : BadP x) : BadS (k6Mixed m i x) := by
  have hl := k6_llen m
  have hr := k6_lrng m
  have hm : x ∈ ((k6List m).map pairTh).set i x := List.mem_set (by rw [List.length_map]; exact hi) x
  refine ⟨?_, by show (((k6List m).map pairTh).set i x).length ≤ 90000; rw [List.length_set, List.length_map]; omega, fun y hy => ?_⟩
  · show (_ && (List.map pairT _).all id) = false
    rw [show (List.map pairT (((k6List m).map pairTh).set i x)).all id = false from by
      rw [List.all_map, List.all_eq_false]
      exact ⟨x, hm, by show ¬ pairT x = true; rw [hx.1]; decide⟩, Bool.and_false]
  · rcases List.mem_or_eq_of_mem_set (show y ∈ ((k6List m).map pairTh).set i x from hy) with c | c
    · obtain ⟨p, _, rfl⟩ := List.mem_map.mp c
      show 2 ≤ 90000
      decide
    · rw [c]; exact hx.2
section
variable {K : PySem.W.Frag} {σ : L2.St} {H H' : Hp} {ta tb tc te : TE} {D : Ends} {tz : TS}
theorem pairTh_flat (p : Int × Int) : (pairTh p).flat = true := rfl
/-- xs[i] = a thing, xs a new list of pairs -/
theorem r_setTh {to ti : TE} {l : Addr} {us : List V} {ps : List (Int × Int)} {x : Th} {i : Int} {H0 : Hp} (h0 : H0 l = none) (hex : Ex H0 H) (hl : H l = some (.lst us)) (hs : Paired (rep K H) us ps) (hn : ps ≠ []) (hv : EvR K te σ H x) (hf : x.flat = true) (ho : Ev to σ H (.ref l)) (hi : EvR K ti σ H i) (hi0 : 0 ≤ i) (hi1 : i < (ps.length : Int))
    (kk : ∀ us' H2, Ex H0 H2 → H2 l = some (.lst us') → Paired (rep K H2) us' ((ps.map pairTh).set i.toNat x) → tz D σ H2) : tSeq (tAsg te (gSub to ti rSetL)) tz D σ H :=
  hv H (Ex.refl H) _ fun v H1 e1 r => ho H1 e1 _ fun H2 e2 => hi.ev H2 (e1.trans e2) _ fun H3 e3 => by
    have e13 := (e1.trans e2).trans e3
    have hl3 := e13 _ _ hl
    have hlen : us.length = ps.length := hs.length
    have hs3 := pairs_th (pmono e13 hs)
    obtain ⟨r0, us0, e0⟩ : ∃ (r0 : Addr) (us0 : List V), us = .ref r0 :: us0 := by
      match ps, hs, hn with
      | [], _, hn => exact absurd rfl hn
      | _ :: _, .cons ⟨q, _, _, ev, _⟩ t, _ => exact ⟨q, _, by rw [ev]⟩
    have hl3' : H3 l = some (.lst (.ref r0 :: us0)) := by rw [hl3, e0]
    have hup : ∀ {ts : List Th} {vs : List V} {o : HO}, (∀ t ∈ ts, t.flat = true) → Paired (rep K H3) vs ts → Paired (rep K (upd H3 l o)) vs ts := fun {ts} => by
      induction ts with
      | nil => intro vs o _ h; cases h; exact .nil
      | cons t ts ih => intro vs o hf h; cases h with | cons r t2 => exact .cons (thRep.upd _ hl3' (hf _ List.mem_cons_self) r) (ih (fun t ht => hf t (List.mem_cons_of_mem _ ht)) t2)
    refine ⟨l, us, i, i.toNat, rfl, rfl, hl3, ?_, ?_⟩
    · have := ixN_nat (n := us.length) (j := i.toNat) (by omega)
      rw [Int.toNat_of_nonneg hi0] at this
      exact this
    · refine kk _ _ (Ex.mut (hex.trans e13) h0) upd_same (paired_set ?_ _ (hup (fun t ht => by obtain ⟨p, _, rfl⟩ := List.mem_map.mp ht; rfl) hs3))
      exact thRep.upd _ hl3' hf (rmono (e2.trans e3) r)
end
/-! ### what is told -/
def toldT (k : Int) : List Bool := ((rangeI 0 4).map fun xc => decide (k = xc)) ++ [true]
theorem told_0 {k : Int} (h : k = 0) : [true, false, false] ++ [false, true] = toldT k := by subst h; decide
theorem told_1 {k : Int} (h : k = 1) : [false, true, false] ++ [false, true] = toldT k := by subst h; decide
theorem told_2 {k : Int} (h : k = 2) : [false, false, true] ++ [false, true] = toldT k := by subst h; decide
theorem told_3 {k : Int} (h : k = 3) : [false, false, false] ++ [true, true] = toldT k := by subst h; decide
theorem k6_ne (m : Int) : k6List m ≠ [] := fun c => by
  have := k6_llen m
  have := k6_lrng m
  rw [c] at *
  simp at *
  omega
theorem k6_iok (m w : Int) : 0 ≤ w / 40 % ((k6List m).length : Int) ∧ w / 40 % ((k6List m).length : Int) < ((k6List m).length : Int) := by
  have := k6_llen m
  have := k6_lrng m
  exact ⟨Int.emod_nonneg _ (by omega), Int.emod_lt_of_pos _ (by omega)⟩
theorem k6_good {m : Int} (h : 0 ≤ m) : [1 + m, 2] ≠ [] ∧ GoodRow [1 + m, 2] ∧ [1 + m, 2].length ≤ 1000 :=
  ⟨by simp, ⟨fun x hx => by simp only [List.mem_cons, List.not_mem_nil, or_false] at hx; omega, .inr ⟨2, rfl, by decide⟩⟩, by show 2 ≤ 1000; decide⟩
theorem k6_mok {m w : Int} (h : 0 ≤ m) : BadS (k6Mixed m (w / 40 % ((k6List m).length : Int)).toNat (badPair (w / 2) m)) := by
  have := k6_iok m w
  exact k6_mixed (by omega) (bp_ok _ h).1
theorem num_of {x : Th} (h : (!numT x) = false) : numT x = true := by simpa using h
end Mt
namespace Mt
open PySem PySem.Spec L2 Evl PyProof.Rows
def top (i : Nat) : Stmt := PySem.Challenge.pw_manytimes_k06_refused.main.body.getD i (.Pass ⟨0, 0, 0, 0⟩)
/-- what the walk asks of the module's names -/
structure Txt (K : PySem.W.Frag) (mg : Str → Option Value) (CA CL CW CP CK CR CS CT : Addr) : Prop where
  z_ValueError : mg "ValueError" = none
  z_all : mg "all" = none
  z_bool : mg "bool" = none
  z_enumerate : mg "enumerate" = none
  z_int : mg "int" = none
  z_isinstance : mg "isinstance" = none
  z_len : mg "len" = none
  z_list : mg "list" = none
  z_max : mg "max" = none
  z_min : mg "min" = none
  z_range : mg "range" = none
  z_sum : mg "sum" = none
  z_tuple : mg "tuple" = none
  g_LONGEST : ∃ t, mg "LONGEST" = some (.int 1000 t)
  g_MOST : ∃ t, mg "MOST" = some (.int 100 t)
  ans : AnsTxt K mg CA CL CW
  eP : ErrX K mg "BadPair" CP CT
  eK : ErrX K mg "BadTaking" CK CT
  eR : ErrX K mg "BadRow" CR CT
  eS : ErrX K mg "BadPairs" CS CT
  gT : mg "TimesError" = some (.ref CT)
  kPP : PySem.W.kitOne K (.ref CP) (.ref CP) = some true
  kPK : PySem.W.kitOne K (.ref CP) (.ref CK) = some false
  kPR : PySem.W.kitOne K (.ref CP) (.ref CR) = some false
  kPS : PySem.W.kitOne K (.ref CP) (.ref CS) = some false
  kKP : PySem.W.kitOne K (.ref CK) (.ref CP) = some false
  kKK : PySem.W.kitOne K (.ref CK) (.ref CK) = some true
  kKR : PySem.W.kitOne K (.ref CK) (.ref CR) = some false
  kKS : PySem.W.kitOne K (.ref CK) (.ref CS) = some false
  kRP : PySem.W.kitOne K (.ref CR) (.ref CP) = some false
  kRK : PySem.W.kitOne K (.ref CR) (.ref CK) = some false
  kRR : PySem.W.kitOne K (.ref CR) (.ref CR) = some true
  kRS : PySem.W.kitOne K (.ref CR) (.ref CS) = some false
  kSP : PySem.W.kitOne K (.ref CS) (.ref CP) = some false
  kSK : PySem.W.kitOne K (.ref CS) (.ref CK) = some false
  kSR : PySem.W.kitOne K (.ref CS) (.ref CR) = some false
  kSS : PySem.W.kitOne K (.ref CS) (.ref CS) = some true
section
variable {P : Program} {w : World} {K : PySem.W.Frag} {mg : Str → Option Value} {base : Heap} {CA CL CW CP CK CR CS CT : Addr}
abbrev s_is_number : Stmt := top 8
theorem sc_is_number : FnScope ["thing"] ["thing"] (defScope s_is_number) := ⟨rfl, rfl, rfl, by decide +kernel, rfl, by decide +kernel, by decide +kernel⟩
set_option maxHeartbeats 4000000 in
theorem ok_is_number {f : Addr} {fd : FuncData} (F : Fun K "is_number" "is_number" s_is_number f fd) (T : Txt K mg CA CL CW CP CK CR CS CT) : FnOk P w K mg base CX0 1 f fd ["thing"] (Fn1 K (α := Int) (β := Bool) (fun _ => True) (fun _ => true)) := by
  refine F.ok sc_is_number (fun vs H Q E h => h.len) (fun cdv A outer s H vs Q E hr h => ?_)
  obtain ⟨v_thing, p_thing, rfl, h_thing, pre, k⟩ := h
  have hu := hr.units
  have ex := Ex.refl H
  have hu1 := hu_of hr
  refine ⟨_, (pss_one (ps_ret (pe_and (pe_callB call_isi (by rfl) T.z_isinstance (by decide +kernel) (pa_cons (pv 0) (pa_cons (pe_bltn (v := .ty "int") (by rfl) T.z_int (by decide +kernel) rfl) pa_nil))) (pe_one (pe_not (pe_callB call_isi (by rfl) T.z_isinstance (by decide +kernel) (pa_cons (pv 0) (pa_cons (pe_bltn (v := .ty "bool") (by rfl) T.z_bool (by decide +kernel) rfl) pa_nil)))))))), ?_⟩
  refine r_ret (K := K) (evr_andV (evr_isi (K := K) (tn := "int") (n := "int") (b := true) (evr_var rfl h_thing) rfl (by decide +kernel)) (fun hbo => (evr_notV (evr_isi (K := K) (tn := "int") (n := "bool") (b := false) (evr_var rfl h_thing) rfl (by decide +kernel))))) (fun v_ret H1 e1 hh => ?_)
  exact k _ _ (ex.trans e1) (hh)
abbrev s_is_pair : Stmt := top 9
theorem sc_is_pair : FnScope ["thing", "one"] ["thing"] (defScope s_is_pair) := ⟨rfl, rfl, rfl, by decide +kernel, rfl, by decide +kernel, by decide +kernel⟩
set_option maxHeartbeats 4000000 in
theorem ok_is_pair {f : Addr} {fd : FuncData} (F : Fun K "is_pair" "is_pair" s_is_pair f fd) (T : Txt K mg CA CL CW CP CK CR CS CT) (G_is_number : Cal P w K mg base CX0 1 "is_number" ["thing"] (Fn1 K (α := Int) (β := Bool) (fun _ => True) (fun _ => true))) : FnOk P w K mg base CX0 2 f fd ["thing"] (Fn1 K (α := (Int × Int)) (β := Bool) Pos (fun _ => true)) := by
  refine F.ok sc_is_pair (fun vs H Q E h => h.len) (fun cdv A outer s H vs Q E hr h => ?_)
  obtain ⟨v_thing, p_thing, rfl, h_thing, pre, k⟩ := h
  have hu := hr.units
  have ex := Ex.refl H
  have hu1 := hu_of hr
  refine ⟨_, (pss_one (ps_ret (pe_and (pe_callB call_isi (by rfl) T.z_isinstance (by decide +kernel) (pa_cons (pv 0) (pa_cons (pe_bltn (v := .ty "tuple") (by rfl) T.z_tuple (by decide +kernel) rfl) pa_nil))) (pe_and (pe_cmpR op_eq (pe_callB call_len_seq (by rfl) T.z_len (by decide +kernel) (pa_cons (pv 0) pa_nil)) pe_int (nomark _)) (pe_one (pe_callB (cr_all rfl) (by rfl) T.z_all (by decide +kernel) (pa_cons (pe_lc (own := [("one", 1)]) (g := gName 1) (tt := tYes) rfl sc_is_pair.nd (pi_tup (pv 0)) (blkOk_by (own := [("one", 1)]) (N := ["thing", "one"]) (sc := defScope s_is_pair) (by decide +kernel)) (fun _ _ _ _ _ => pg_name (i := 1) sc_is_pair.nd rfl (Or.inl rfl)) (fun _ _ _ _ _ => pts_nil) (fun _ _ _ _ _ => (pe_and (pe_cal G_is_number (hr.mono (by decide)) (by rfl) (pa_cons (pv 1) pa_nil)) (pe_one (pe_cmpR op_gt (pv 1) pe_int (nomark _)))))) pa_nil))))))), ?_⟩
  refine r_ret (K := K) (evr_andV (evr_isi (K := K) (tn := "tuple") (n := "tuple") (b := true) (evr_var rfl h_thing) rfl (by decide +kernel)) (fun hbo => (evr_andV (evr_eqI (evr_lenP (evr_var rfl h_thing)) (evr_int 2)) (fun hbo => (evr_all (evr_n (evn_lcP (f := fun xc : Int => (((fun _ => true) xc) && (decide (0 < xc)))) (evr_var rfl h_thing) (fun _ => rfl) (fun xc vxc Hcx ecx hmem hxc => (evr_andV (evr_call1 (evr_var rfl hxc) trivial) (fun hbo1 => (evr_gt (evr_var rfl hxc) (evr_int 0)))))))))))) (fun v_ret H1 e1 hh => ?_)
  exact k _ _ (ex.trans e1) (rep_eq hh (by rw [all_num _ pre]; rfl))
abbrev s_asked_pair : Stmt := top 10
theorem sc_asked_pair : FnScope ["pair"] ["pair"] (defScope s_asked_pair) := ⟨rfl, rfl, rfl, by decide +kernel, rfl, by decide +kernel, by decide +kernel⟩
set_option maxHeartbeats 4000000 in
theorem ok_asked_pair {f : Addr} {fd : FuncData} (F : Fun K "asked_pair" "asked_pair" s_asked_pair f fd) (T : Txt K mg CA CL CW CP CK CR CS CT) (G_is_pair : Cal P w K mg base CX0 2 "is_pair" ["thing"] (Fn1 K (α := (Int × Int)) (β := Bool) Pos (fun _ => true))) : FnOk P w K mg base CX0 3 f fd ["pair"] (Fn1 K (α := (Int × Int)) (β := Unit) Pos (fun _ => ())) := by
  refine F.ok sc_asked_pair (fun vs H Q E h => h.len) (fun cdv A outer s H vs Q E hr h => ?_)
  obtain ⟨v_pair, p_pair, rfl, h_pair, pre, k⟩ := h
  have hu := hr.units
  have ex := Ex.refl H
  have hu1 := hu_of hr
  refine ⟨_, (pss_one (ps_if (pt_not (pt_val (pe_cal G_is_pair (hr.mono (by decide)) (by rfl) (pa_cons (pv 0) pa_nil)))) pss_never pss_nil)), ?_⟩
  refine r_guard1 (et_not (evt_B (evr_call1 (evr_var rfl h_pair) pre))) (rfl) (fun H1 e1 => ?_)
  have ex := ex.trans e1
  have h_pair := rmono e1 h_pair
  exact k V.non _ ex rfl
abbrev s_most_of : Stmt := top 12
theorem sc_most_of : FnScope ["pair"] ["pair"] (defScope s_most_of) := ⟨rfl, rfl, rfl, by decide +kernel, rfl, by decide +kernel, by decide +kernel⟩
set_option maxHeartbeats 4000000 in
theorem ok_most_of {f : Addr} {fd : FuncData} (F : Fun K "most_of" "most_of" s_most_of f fd) (T : Txt K mg CA CL CW CP CK CR CS CT) : FnOk P w K mg base CX0 1 f fd ["pair"] (Fn1 K (α := (Int × Int)) (β := Int) Sm mostOf) := by
  refine F.ok sc_most_of (fun vs H Q E h => h.len) (fun cdv A outer s H vs Q E hr h => ?_)
  obtain ⟨v_pair, p_pair, rfl, h_pair, pre, k⟩ := h
  have hu := hr.units
  have ex := Ex.refl H
  have hu1 := hu_of hr
  refine ⟨_, (pss_one (ps_ret (pe_ifExp (pt_cmpR op_ne (pe_ix ix_tup (pv 0) pe_int (fun _ _ => rfl)) (pe_ix ix_tup (pv 0) pe_int (fun _ _ => rfl)) (nomark _)) (pe_op op_fdivX (pe_op op_sub (pe_callB (call_maxP rfl) (by rfl) T.z_max (by decide +kernel) (pa_cons (pv 0) pa_nil)) pe_int) (pe_callB (call_minP rfl) (by rfl) T.z_min (by decide +kernel) (pa_cons (pv 0) pa_nil))) pe_int))), ?_⟩
  refine r_ret (K := K) (evr_if (evt_test (evr_neI (evr_fst (evr_var rfl h_pair)) (evr_snd (evr_var rfl h_pair)))) (fun hif => (evr_div (evr_sub (evr_maxP (evr_var rfl h_pair)) (evr_int 1)) (evr_minP (evr_var rfl h_pair)) (pre.div _))) (fun hif => (evr_int 0))) (fun v_ret H1 e1 hh => ?_)
  exact k _ _ (ex.trans e1) (rep_eq hh (by unfold mostOf hi lo; by_cases c : p_pair.1 = p_pair.2 <;> simp [c]))
abbrev s_most : Stmt := top 13
theorem sc_most : FnScope ["pair"] ["pair"] (defScope s_most) := ⟨rfl, rfl, rfl, by decide +kernel, rfl, by decide +kernel, by decide +kernel⟩
set_option maxHeartbeats 4000000 in
theorem ok_most {f : Addr} {fd : FuncData} (F : Fun K "most" "most" s_most f fd) (T : Txt K mg CA CL CW CP CK CR CS CT) (G_asked_pair : Cal P w K mg base CX0 3 "asked_pair" ["pair"] (Fn1 K (α := (Int × Int)) (β := Unit) Pos (fun _ => ()))) (G_most_of : Cal P w K mg base CX0 1 "most_of" ["pair"] (Fn1 K (α := (Int × Int)) (β := Int) Sm mostOf)) : FnOk P w K mg base CX0 4 f fd ["pair"] (Fn1 K (α := (Int × Int)) (β := Int) Sm mostOf) := by
  refine F.ok sc_most (fun vs H Q E h => h.len) (fun cdv A outer s H vs Q E hr h => ?_)
  obtain ⟨v_pair, p_pair, rfl, h_pair, pre, k⟩ := h
  have hu := hr.units
  have ex := Ex.refl H
  have hu1 := hu_of hr
  refine ⟨_, (pss_cons (ps_expr (pe_cal G_asked_pair (hr.mono (by decide)) (by rfl) (pa_cons (pv 0) pa_nil))) (pss_one (ps_ret (pe_cal G_most_of (hr.mono (by decide)) (by rfl) (pa_cons (pv 0) pa_nil))))), ?_⟩
  refine r_drop (K := K) (evr_call1 (evr_var rfl h_pair) pre.pos) (fun H1 e1 => ?_)
  have ex := ex.trans e1
  have h_pair := rmono e1 h_pair
  refine r_ret (K := K) (evr_call1 (evr_var rfl h_pair) pre) (fun v_ret H1 e1 hh => ?_)
  exact k _ _ (ex.trans e1) (hh)
abbrev s_taken_of : Stmt := top 14
theorem sc_taken_of : FnScope ["pair", "times"] ["pair", "times"] (defScope s_taken_of) := ⟨rfl, rfl, rfl, by decide +kernel, rfl, by decide +kernel, by decide +kernel⟩
set_option maxHeartbeats 4000000 in
theorem ok_taken_of {f : Addr} {fd : FuncData} (F : Fun K "taken_of" "taken_of" s_taken_of f fd) (T : Txt K mg CA CL CW CP CK CR CS CT) : FnOk P w K mg base CX0 1 f fd ["pair", "times"] (Fn2 K (α := (Int × Int)) (β := Int) (γ := (Int × Int)) (fun p t => Sm p ∧ 1 ≤ t ∧ t ≤ mostOf p) takenOf) := by
  refine F.ok sc_taken_of (fun vs H Q E h => h.len) (fun cdv A outer s H vs Q E hr h => ?_)
  obtain ⟨v_pair, v_times, p_pair, p_times, rfl, h_pair, h_times, pre, k⟩ := h
  have hu := hr.units
  have ex := Ex.refl H
  have hu1 := hu_of hr
  refine ⟨_, (pss_cons (ps_if (pt_cmpR op_gt (pe_ix ix_tup (pv 0) pe_int (fun _ _ => rfl)) (pe_ix ix_tup (pv 0) pe_int (fun _ _ => rfl)) (nomark _)) (pss_one (ps_ret (pe_tup (pa_cons (pe_op op_sub (pe_ix ix_tup (pv 0) pe_int (fun _ _ => rfl)) (pe_op op_mulX (pv 1) (pe_ix ix_tup (pv 0) pe_int (fun _ _ => rfl)))) (pa_cons (pe_ix ix_tup (pv 0) pe_int (fun _ _ => rfl)) pa_nil))))) pss_nil) (pss_one (ps_ret (pe_tup (pa_cons (pe_ix ix_tup (pv 0) pe_int (fun _ _ => rfl)) (pa_cons (pe_op op_sub (pe_ix ix_tup (pv 0) pe_int (fun _ _ => rfl)) (pe_op op_mulX (pv 1) (pe_ix ix_tup (pv 0) pe_int (fun _ _ => rfl)))) pa_nil)))))), ?_⟩
  refine q_when (evt_test (evr_gt (evr_fst (evr_var rfl h_pair)) (evr_snd (evr_var rfl h_pair)))) (fun hb1 H1 e1 => ?_) (fun hb1 H1 e1 => ?_)
  · have ex := ex.trans e1
    have h_pair := rmono e1 h_pair
    have h_times := rmono e1 h_times
    refine r_ret (K := K) (evr_tup (evr_sub (evr_fst (evr_var rfl h_pair)) (evr_mul (evr_var rfl h_times) (evr_snd (evr_var rfl h_pair)) ((pre.1.most.le (by omega) pre.2.2).mulOk pre.1.b2 (by decide)))) (evr_snd (evr_var rfl h_pair))) (fun v_ret H1 e1 hh => ?_)
    exact k _ _ (ex.trans e1) (rep_eq hh (by unfold takenOf; rw [if_pos (of_decide_eq_true hb1)]))
  · have ex := ex.trans e1
    have h_pair := rmono e1 h_pair
    have h_times := rmono e1 h_times
    refine r_ret (K := K) (evr_tup (evr_fst (evr_var rfl h_pair)) (evr_sub (evr_snd (evr_var rfl h_pair)) (evr_mul (evr_var rfl h_times) (evr_fst (evr_var rfl h_pair)) ((pre.1.most.le (by omega) pre.2.2).mulOk pre.1.b1 (by decide))))) (fun v_ret H1 e1 hh => ?_)
    exact k _ _ (ex.trans e1) (rep_eq hh (by unfold takenOf; rw [if_neg (of_decide_eq_false hb1)]))
abbrev s_taken : Stmt := top 15
theorem sc_taken : FnScope ["pair", "times"] ["pair", "times"] (defScope s_taken) := ⟨rfl, rfl, rfl, by decide +kernel, rfl, by decide +kernel, by decide +kernel⟩
set_option maxHeartbeats 4000000 in
theorem ok_taken {f : Addr} {fd : FuncData} (F : Fun K "taken" "taken" s_taken f fd) (T : Txt K mg CA CL CW CP CK CR CS CT) (G_asked_pair : Cal P w K mg base CX0 3 "asked_pair" ["pair"] (Fn1 K (α := (Int × Int)) (β := Unit) Pos (fun _ => ()))) (G_taken_of : Cal P w K mg base CX0 1 "taken_of" ["pair", "times"] (Fn2 K (α := (Int × Int)) (β := Int) (γ := (Int × Int)) (fun p t => Sm p ∧ 1 ≤ t ∧ t ≤ mostOf p) takenOf)) (G_is_number : Cal P w K mg base CX0 1 "is_number" ["thing"] (Fn1 K (α := Int) (β := Bool) (fun _ => True) (fun _ => true))) (G_most_of : Cal P w K mg base CX0 1 "most_of" ["pair"] (Fn1 K (α := (Int × Int)) (β := Int) Sm mostOf)) : FnOk P w K mg base CX0 4 f fd ["pair", "times"] (Fn2 K (α := (Int × Int)) (β := Int) (γ := (Int × Int)) (fun p t => Sm p ∧ 1 ≤ t ∧ t ≤ mostOf p) takenOf) := by
  refine F.ok sc_taken (fun vs H Q E h => h.len) (fun cdv A outer s H vs Q E hr h => ?_)
  obtain ⟨v_pair, v_times, p_pair, p_times, rfl, h_pair, h_times, pre, k⟩ := h
  have hu := hr.units
  have ex := Ex.refl H
  have hu1 := hu_of hr
  refine ⟨_, (pss_cons (ps_expr (pe_cal G_asked_pair (hr.mono (by decide)) (by rfl) (pa_cons (pv 0) pa_nil))) (pss_cons (ps_if (PW.pt (pw_or (pt_not (pt_val (pe_cal G_is_number (hr.mono (by decide)) (by rfl) (pa_cons (pv 1) pa_nil)))) (pw_or1 (pt_not (pt_chain op_le op_le pe_int (pv 1) (pe_cal G_most_of (hr.mono (by decide)) (by rfl) (pa_cons (pv 0) pa_nil))))))) pss_never pss_nil) (pss_one (ps_ret (pe_cal G_taken_of (hr.mono (by decide)) (by rfl) (pa_cons (pv 0) (pa_cons (pv 1) pa_nil))))))), ?_⟩
  refine r_drop (K := K) (evr_call1 (evr_var rfl h_pair) pre.1.pos) (fun H1 e1 => ?_)
  have ex := ex.trans e1
  have h_pair := rmono e1 h_pair
  have h_times := rmono e1 h_times
  refine r_guard (et_or (et_not (evt_B (evr_call1 (evr_var rfl h_times) trivial))) (fun hbo => (et_not (evt_test (evr_chain (g := (fun i j => decide (i ≤ j))) (g' := (fun i j => decide (i ≤ j))) (evr_int 1) (evr_var rfl h_times) (fun hch => (evr_call1 (evr_var rfl h_pair) pre.1))))))) (by simp [pre.2.1, pre.2.2]) (fun H1 e1 => ?_)
  have ex := ex.trans e1
  have h_pair := rmono e1 h_pair
  have h_times := rmono e1 h_times
  refine r_ret (K := K) (evr_call2 (evr_var rfl h_pair) (evr_var rfl h_times) pre) (fun v_ret H1 e1 hh => ?_)
  exact k _ _ (ex.trans e1) (hh)
abbrev s_worth_of : Stmt := top 16
theorem sc_worth_of : FnScope ["pair", "high", "low"] ["pair"] (defScope s_worth_of) := ⟨rfl, rfl, rfl, by decide +kernel, rfl, by decide +kernel, by decide +kernel⟩
set_option maxHeartbeats 4000000 in
theorem ok_worth_of {f : Addr} {fd : FuncData} (F : Fun K "worth_of" "worth_of" s_worth_of f fd) (T : Txt K mg CA CL CW CP CK CR CS CT) : FnOk P w K mg base CX0 1 f fd ["pair"] (Fn1 K (α := (Int × Int)) (β := Int) Sm worthOf) := by
  refine F.ok sc_worth_of (fun vs H Q E h => h.len) (fun cdv A outer s H vs Q E hr h => ?_)
  obtain ⟨v_pair, p_pair, rfl, h_pair, pre, k⟩ := h
  have hu := hr.units
  have ex := Ex.refl H
  have hu1 := hu_of hr
  refine ⟨_, (pss_cons (ps_par (i := 1) (j := 2) rfl sc_worth_of.nd rfl rfl (by decide) rfl rfl (pa_cons (pe_callB (call_maxP rfl) (by rfl) T.z_max (by decide +kernel) (pa_cons (pv 0) pa_nil)) (pa_cons (pe_callB (call_minP rfl) (by rfl) T.z_min (by decide +kernel) (pa_cons (pv 0) pa_nil)) pa_nil)) rfl) (pss_one (ps_ret (pe_op op_fdivX (pe_op op_sub (pe_op op_mulX (pv 1) (pv 1)) (pe_op op_mulX (pv 2) (pv 2))) (pe_op op_mulX (pv 1) (pv 2)))))), ?_⟩
  refine r_par (K := K) (evr_maxP (evr_var rfl h_pair)) (evr_minP (evr_var rfl h_pair)) (fun v_high v_low H1 e1 hh hh2 => ?_)
  have ex := ex.trans e1
  have h_pair := rmono e1 h_pair
  have h_high := hh
  have h_low := hh2
  refine r_ret (K := K) (evr_div (evr_sub (evr_mul (evr_var rfl h_high) (evr_var rfl h_high) (pre.hi.mulOk pre.hi (by decide))) (evr_mul (evr_var rfl h_low) (evr_var rfl h_low) (pre.lo.mulOk pre.lo (by decide)))) (evr_mul (evr_var rfl h_high) (evr_var rfl h_low) (pre.hi.mulOk pre.lo (by decide))) (pre.worthDiv _)) (fun v_ret H1 e1 hh => ?_)
  exact k _ _ (ex.trans e1) (hh)
abbrev s_worth : Stmt := top 17
theorem sc_worth : FnScope ["pair"] ["pair"] (defScope s_worth) := ⟨rfl, rfl, rfl, by decide +kernel, rfl, by decide +kernel, by decide +kernel⟩
set_option maxHeartbeats 4000000 in
theorem ok_worth {f : Addr} {fd : FuncData} (F : Fun K "worth" "worth" s_worth f fd) (T : Txt K mg CA CL CW CP CK CR CS CT) (G_asked_pair : Cal P w K mg base CX0 3 "asked_pair" ["pair"] (Fn1 K (α := (Int × Int)) (β := Unit) Pos (fun _ => ()))) (G_worth_of : Cal P w K mg base CX0 1 "worth_of" ["pair"] (Fn1 K (α := (Int × Int)) (β := Int) Sm worthOf)) : FnOk P w K mg base CX0 4 f fd ["pair"] (Fn1 K (α := (Int × Int)) (β := Int) Sm worthOf) := by
  refine F.ok sc_worth (fun vs H Q E h => h.len) (fun cdv A outer s H vs Q E hr h => ?_)
  obtain ⟨v_pair, p_pair, rfl, h_pair, pre, k⟩ := h
  have hu := hr.units
  have ex := Ex.refl H
  have hu1 := hu_of hr
  refine ⟨_, (pss_cons (ps_expr (pe_cal G_asked_pair (hr.mono (by decide)) (by rfl) (pa_cons (pv 0) pa_nil))) (pss_one (ps_ret (pe_cal G_worth_of (hr.mono (by decide)) (by rfl) (pa_cons (pv 0) pa_nil))))), ?_⟩
  refine r_drop (K := K) (evr_call1 (evr_var rfl h_pair) pre.pos) (fun H1 e1 => ?_)
  have ex := ex.trans e1
  have h_pair := rmono e1 h_pair
  refine r_ret (K := K) (evr_call1 (evr_var rfl h_pair) pre) (fun v_ret H1 e1 hh => ?_)
  exact k _ _ (ex.trans e1) (hh)
end
end Mt

namespace Mt
open PySem PySem.Spec L2 Evl PyProof.Rows
section
variable {P : Program} {w : World} {K : PySem.W.Frag} {mg : Str → Option Value} {base : Heap} {CA CL CW CP CK CR CS CT : Addr}
abbrev s_asked_pairs : Stmt := top 11
theorem sc_asked_pairs : FnScope ["pairs", "pair"] ["pairs"] (defScope s_asked_pairs) := ⟨rfl, rfl, rfl, by decide +kernel, rfl, by decide +kernel, by decide +kernel⟩
set_option maxHeartbeats 4000000 in
theorem ok_asked_pairs {f : Addr} {fd : FuncData} (F : Fun K "asked_pairs" "asked_pairs" s_asked_pairs f fd) (T : Txt K mg CA CL CW CP CK CR CS CT) (G_is_pair : Cal P w K mg base CX0 2 "is_pair" ["thing"] (Fn1 K (α := (Int × Int)) (β := Bool) Pos (fun _ => true))) : FnOk P w K mg base CX0 3 f fd ["pairs"] (Fn1 K (α := (List (Int × Int))) (β := Unit) (fun ps => AllSm ps ∧ ps.length ≤ 100) (fun _ => ())) := by
  refine F.ok sc_asked_pairs (fun vs H Q E h => h.len) (fun cdv A outer s H vs Q E hr h => ?_)
  obtain ⟨v_pairs, p_pairs, rfl, h_pairs, pre, k⟩ := h
  have hu := hr.units
  have ex := Ex.refl H
  have hu1 := hu_of hr
  refine ⟨_, (pss_one (ps_if (PW.pt (pw_or (pt_not (pt_val (pe_callB call_isi (by rfl) T.z_isinstance (by decide +kernel) (pa_cons (pv 0) (pa_cons (pe_bltn (v := .ty "list") (by rfl) T.z_list (by decide +kernel) rfl) pa_nil))))) (pw_or (pt_cmpR op_gt (pe_callB call_len_seq (by rfl) T.z_len (by decide +kernel) (pa_cons (pv 0) pa_nil)) (pe_globI (by rfl) T.g_MOST) (nomark _)) (pw_or1 (pt_not (pt_val (pe_callB (cr_all rfl) (by rfl) T.z_all (by decide +kernel) (pa_cons (pe_lc (own := [("pair", 1)]) (g := gName 1) (tt := tYes) rfl sc_asked_pairs.nd (pi_list (pv 0)) (blkOk_by (own := [("pair", 1)]) (N := ["pairs", "pair"]) (sc := defScope s_asked_pairs) (by decide +kernel)) (fun _ _ _ _ _ => pg_name (i := 1) sc_asked_pairs.nd rfl (Or.inl rfl)) (fun _ _ _ _ _ => pts_nil) (fun _ _ _ _ _ => (pe_cal G_is_pair (hr.mono (by decide)) (by rfl) (pa_cons (pv 1) pa_nil)))) pa_nil)))))))) pss_never pss_nil)), ?_⟩
  refine r_guard1 (et_or (et_not (evt_B (evr_isi (K := K) (tn := "list") (n := "list") (b := true) (evr_var rfl h_pairs) rfl (by decide +kernel)))) (fun hbo => (et_or (evt_test (evr_gt (evr_lenL (evr_var rfl h_pairs)) (evr_int 100))) (fun hbo => (et_not (evt_B (evr_all (evr_n (evn_lcL (f := fun xc : (Int × Int) => ((fun _ => true) xc)) (evr_var rfl h_pairs) (by have h := pre.2; omega) (fun _ => rfl) (fun nxc xc vxc Hcx ecx hmem hxc => (evr_call1 (evr_var rfl hxc) ((pre.1 _ (List.mem_of_getElem? hmem)).pos)))))))))))) (by have h := pre.2; simp; omega) (fun H1 e1 => ?_)
  have ex := ex.trans e1
  have h_pairs := rmono e1 h_pairs
  exact k V.non _ ex rfl
abbrev s_sum_of : Stmt := top 20
theorem sc_sum_of : FnScope ["pairs", "found", "pair"] ["pairs"] (defScope s_sum_of) := ⟨rfl, rfl, rfl, by decide +kernel, rfl, by decide +kernel, by decide +kernel⟩
set_option maxHeartbeats 4000000 in
theorem ok_sum_of {f : Addr} {fd : FuncData} (F : Fun K "sum_of" "sum_of" s_sum_of f fd) (T : Txt K mg CA CL CW CP CK CR CS CT) (G_worth_of : Cal P w K mg base CX0 1 "worth_of" ["pair"] (Fn1 K (α := (Int × Int)) (β := Int) Sm worthOf)) : FnOk P w K mg base CX0 2 f fd ["pairs"] (Fn1 K (α := (List (Int × Int))) (β := Int) AllSm sumOf) := by
  refine F.ok sc_sum_of (fun vs H Q E h => h.len) (fun cdv A outer s H vs Q E hr h => ?_)
  obtain ⟨v_pairs, p_pairs, rfl, h_pairs, pre, k⟩ := h
  have hu := hr.units
  have ex := Ex.refl H
  have hu1 := hu_of hr
  refine ⟨_, (pss_cons (ps_set (i := 1) sc_sum_of.nd rfl (Or.inl rfl) pe_int) (pss_cons (ps_for PassesOwn.never rfl (pi_list (pv 0)) (pg_name (i := 2) sc_sum_of.nd rfl (Or.inl rfl)) (pss_one (ps_set (i := 1) sc_sum_of.nd rfl (Or.inl rfl) (pe_op op_xor (pv 1) (pe_cal G_worth_of (hr.mono (by decide)) (by rfl) (pa_cons (pv 2) pa_nil)))))) (pss_one (ps_ret (pv 1))))), ?_⟩
  refine r_asg (K := K) (evr_int 0) (fun v_found H1 e1 hh => ?_)
  have ex := ex.trans e1
  have h_pairs := rmono e1 h_pairs
  have h_found := hh
  refine r_forL (K := K) (evr_var rfl h_pairs) (fun lp lvs H1 e1 hlp hlrs => ?_)
  have ex := ex.trans e1
  have h_pairs := rmono e1 h_pairs
  have h_found := rmono e1 h_found
  refine ⟨fun (n : Nat) (σ' : L2.St) (H' : Hp) => Ex H1 H' ∧ ∃ (o_2 : Option V), ∃ (w_found : V), σ' = [some v_pairs, some w_found, o_2] ∧ rep K H' w_found (sumOf (p_pairs.take n) : Int), ?_, ?_, ?_, ?_⟩
  · refine ⟨Ex.refl _, _, _, rfl, ?_⟩
    · exact rep_eq h_found (by rw [List.take_zero]; rfl)
  · rintro n σ' H' ⟨exn, _⟩
    exact ⟨exn _ _ hlp, pmono exn hlrs⟩
  · rintro n v_pair x_pair σ' H' hx h_pair ⟨exn, o_2, w_found, rfl, h_found⟩
    have ex := ex.trans exn
    have h_pairs := rmono exn h_pairs
    have exb1 := exn
    refine r_asg1 (K := K) (evr_xor (evr_var rfl h_found) (evr_call1 (evr_var rfl h_pair) (pre _ (List.mem_of_getElem? hx))) (sumOf_nonneg _) (worth_nonneg (pre _ (List.mem_of_getElem? hx)).pos)) (fun v_found H1 e1 hh => ?_)
    have ex := ex.trans e1
    have exb1 := exb1.trans e1
    have h_pairs := rmono e1 h_pairs
    have h_pair := rmono e1 h_pair
    have h_found := hh
    refine ⟨?_, _, _, rfl, ?_⟩
    · exact exb1
    · exact rep_eq h_found (sumOf_step hx).symm
  · rintro σ' H' ⟨exn, o_2, w_found, rfl, h_found⟩
    have ex := ex.trans exn
    have h_pairs := rmono exn h_pairs
    refine r_ret (K := K) (evr_var rfl h_found) (fun v_ret H1 e1 hh => ?_)
    exact k _ _ (ex.trans e1) (rep_eq hh (by rw [List.take_length]))
abbrev s_Lost_shows : Stmt := inClass (top 21) 0
theorem sc_Lost_shows : FnScope ["self", "pairs"] ["self", "pairs"] (defScope s_Lost_shows) := ⟨rfl, rfl, rfl, by decide +kernel, rfl, by decide +kernel, by decide +kernel⟩
set_option maxHeartbeats 4000000 in
theorem ok_Lost_shows {f : Addr} {fd : FuncData} (F : Fun K "shows" "Lost.shows" s_Lost_shows f fd) (T : Txt K mg CA CL CW CP CK CR CS CT) (G_sum_of : Cal P w K mg base CX0 2 "sum_of" ["pairs"] (Fn1 K (α := (List (Int × Int))) (β := Int) AllSm sumOf)) : FnOk P w K mg base CX0 3 f fd ["self", "pairs"] (Fn2 K (α := Ans) (β := (List (Int × Int))) (γ := Bool) preL showsOf) := by
  refine F.ok sc_Lost_shows (fun vs H Q E h => h.len) (fun cdv A outer s H vs Q E hr h => ?_)
  obtain ⟨v_self, v_pairs, p_self, p_pairs, rfl, h_self, h_pairs, pre, k⟩ := h
  have hu := hr.units
  have ex := Ex.refl H
  have hu1 := hu_of hr
  refine ⟨_, (pss_one (ps_ret (pe_cmpR op_eq (pe_cal G_sum_of (hr.mono (by decide)) (by rfl) (pa_cons (pv 1) pa_nil)) pe_int (nomark _)))), ?_⟩
  refine r_ret (K := K) (evr_eqI (evr_call1 (evr_var rfl h_pairs) pre.2) (evr_int 0)) (fun v_ret H1 e1 hh => ?_)
  exact k _ _ (ex.trans e1) (rep_eq hh (shows_lost pre.1).symm)
abbrev s_W_init : Stmt := inClass (top 22) 0
theorem sc_W_init : FnScope ["self", "at", "times"] ["self", "at", "times"] (defScope s_W_init) := ⟨rfl, rfl, rfl, by decide +kernel, rfl, by decide +kernel, by decide +kernel⟩
set_option maxHeartbeats 4000000 in
theorem ok_W_init {f : Addr} {fd : FuncData} (F : Fun K "__init__" "Won.__init__" s_W_init f fd) (T : Txt K mg CA CL CW CP CK CR CS CT) : FnOk P w K mg base CX0 1 f fd ["self", "at", "times"] (spInitW CW) := by
  refine F.ok sc_W_init (fun vs H Q E h => h.len) (fun cdv A outer s H vs Q E hr h => ?_)
  obtain ⟨p, dx, i, j, rfl, hp, k⟩ := h
  have hu := hr.units
  have ex := Ex.refl H
  have hu1 := hu_of hr
  refine ⟨_, (pss_cons (ps_fld (pv 0) (pv 1) rfl) (pss_one (ps_fld (pv 0) (pv 2) rfl))), ?_⟩
  refine ⟨_, rfl, _, rfl, p, CW, dx, [], rfl, hp, T.ans.cW.cl, T.ans.nA, (by show 0 < 1000; decide), _, rfl, _, rfl, p, CW, dx, _, rfl, upd_same, T.ans.cW.cl, T.ans.nT, (by show 1 < 1000; decide), ?_⟩
  exact k _ (by rw [upd_same]; rfl) fun b o hb hne => by rw [upd_ne hne, upd_ne hne]; exact hb
abbrev s_Won_shows : Stmt := inClass (top 22) 1
theorem sc_Won_shows : FnScope ["self", "pairs", "after"] ["self", "pairs"] (defScope s_Won_shows) := ⟨rfl, rfl, rfl, by decide +kernel, rfl, by decide +kernel, by decide +kernel⟩
set_option maxHeartbeats 4000000 in
theorem ok_Won_shows {f : Addr} {fd : FuncData} (F : Fun K "shows" "Won.shows" s_Won_shows f fd) (T : Txt K mg CA CL CW CP CK CR CS CT) (G_taken_of : Cal P w K mg base CX0 1 "taken_of" ["pair", "times"] (Fn2 K (α := (Int × Int)) (β := Int) (γ := (Int × Int)) (fun p t => Sm p ∧ 1 ≤ t ∧ t ≤ mostOf p) takenOf)) (G_sum_of : Cal P w K mg base CX0 2 "sum_of" ["pairs"] (Fn1 K (α := (List (Int × Int))) (β := Int) AllSm sumOf)) (G_most_of : Cal P w K mg base CX0 1 "most_of" ["pair"] (Fn1 K (α := (Int × Int)) (β := Int) Sm mostOf)) : FnOk P w K mg base CX0 3 f fd ["self", "pairs"] (Fn2 K (α := Ans) (β := (List (Int × Int))) (γ := Bool) preW showsOf) := by
  refine F.ok sc_Won_shows (fun vs H Q E h => h.len) (fun cdv A outer s H vs Q E hr h => ?_)
  obtain ⟨v_self, v_pairs, p_self, p_pairs, rfl, h_self, h_pairs, pre, k⟩ := h
  have hu := hr.units
  have ex := Ex.refl H
  have hu1 := hu_of hr
  refine ⟨_, (pss_cons (ps_if (PW.pt (pw_or (pt_not (pt_chain op_le op_lt pe_int (pe_fld (pv 0) rfl) (pe_callB call_len_seq (by rfl) T.z_len (by decide +kernel) (pa_cons (pv 1) pa_nil)))) (pw_or1 (pt_not (pt_chain op_le op_le pe_int (pe_fld (pv 0) rfl) (pe_cal G_most_of (hr.mono (by decide)) (by rfl) (pa_cons (pe_ix ix_list (pv 1) (pe_fld (pv 0) rfl) (fun _ _ => rfl)) pa_nil))))))) (pss_one (ps_ret pe_bl)) pss_nil) (pss_cons (ps_set (i := 2) sc_Won_shows.nd rfl (Or.inl rfl) (pe_callTy call_list_of (by rfl) T.z_list (by decide +kernel) (pa_cons (pv 1) pa_nil))) (pss_cons (ps_asg (pe_cal G_taken_of (hr.mono (by decide)) (by rfl) (pa_cons (pe_ix ix_list (pv 1) (pe_fld (pv 0) rfl) (fun _ _ => rfl)) (pa_cons (pe_fld (pv 0) rfl) pa_nil))) (pg_sub (pv 2) (pe_fld (pv 0) rfl) set_list)) (pss_one (ps_ret (pe_cmpR op_eq (pe_cal G_sum_of (hr.mono (by decide)) (by rfl) (pa_cons (pv 2) pa_nil)) pe_int (nomark _))))))), ?_⟩
  refine q_when (et_or (et_not (evt_test (evr_chain (g := (fun i j => decide (i ≤ j))) (g' := (fun i j => decide (i < j))) (evr_int 0) (evr_at T.ans (evr_var rfl h_self) pre.1) (fun hch => (evr_lenL (evr_var rfl h_pairs)))))) (fun hbo => (et_not (evt_test (evr_chain (g := (fun i j => decide (i ≤ j))) (g' := (fun i j => decide (i ≤ j))) (evr_int 1) (evr_times T.ans (evr_var rfl h_self) pre.1) (fun hch => (evr_call1 (evr_ixL (evr_var rfl h_pairs) (evr_at T.ans (evr_var rfl h_self) pre.1) (by first | exact (nand_of hbo).1 | exact hc.1.1) (by first | exact nthP_ix (nand_of hbo).1 (nand_of hbo).2 | exact nthP_ix hc.1.1 hc.1.2)) (pre.2 _ (by first | exact nthP_mem (nand_of hbo).1 (nand_of hbo).2 | exact nthP_mem hc.1.1 hc.1.2))))))))) (fun hb1 H1 e1 => ?_) (fun hb1 H1 e1 => ?_)
  · have ex := ex.trans e1
    have h_self := rmono e1 h_self
    have h_pairs := rmono e1 h_pairs
    refine r_ret (K := K) (evr_bl false) (fun v_ret H1 e1 hh => ?_)
    exact k _ _ (ex.trans e1) (rep_eq hh (shows_won2 pre.1 (by intro h; simp [h.1.1, h.1.2, h.2.1, h.2.2] at hb1)).symm)
  · have ex := ex.trans e1
    have h_self := rmono e1 h_self
    have h_pairs := rmono e1 h_pairs
    have hc : (0 ≤ p_self.at_ ∧ p_self.at_ < (p_pairs.length : Int)) ∧ (1 ≤ p_self.times ∧ p_self.times ≤ mostOf (nthP p_pairs p_self.at_)) := by simpa using hb1
    have Bex_after := ex
    have Ah_self_after := h_self
    have Ah_pairs_after := h_pairs
    obtain ⟨HA_after, hHA_⟩ : ∃ HA : Hp, HA = H1 := ⟨_, rfl⟩
    subst hHA_
    refine r_asgN (K := K) (evn_listS (evr_var rfl h_pairs)) (fun l_after us_after H1 hn_after e1 hl_after hs_after => ?_)
    have exA_after := e1
    have ex := ex.trans e1
    have h_self := rmono e1 h_self
    have h_pairs := rmono e1 h_pairs
    refine r_setL (K := K) hn_after exA_after hl_after hs_after (evr_call2 (evr_ixL (evr_var rfl h_pairs) (evr_at T.ans (evr_var rfl h_self) pre.1) (by first | exact (nand_of hbo).1 | exact hc.1.1) (by first | exact nthP_ix (nand_of hbo).1 (nand_of hbo).2 | exact nthP_ix hc.1.1 hc.1.2)) (evr_times T.ans (evr_var rfl h_self) pre.1) ⟨(pre.2 _ (by first | exact nthP_mem (nand_of hbo).1 (nand_of hbo).2 | exact nthP_mem hc.1.1 hc.1.2)), hc.2⟩) (ev_var rfl) (evr_at T.ans (evr_var rfl h_self) pre.1) hc.1.1 hc.1.2 (fun us_after H1 exA_after hl_after hs_after => ?_)
    have ex := Bex_after.trans exA_after
    have h_self := rmono exA_after Ah_self_after
    have h_pairs := rmono exA_after Ah_pairs_after
    refine r_ret (K := K) (evr_eqI (evr_call1 (evr_var (a := ((p_pairs).set ((p_self).at_ : Int).toNat (takenOf (nthP p_pairs p_self.at_) (p_self).times))) rfl ⟨l_after, _, rfl, hl_after, hs_after⟩) (AllSm.set pre.2 (Sm.taken (pre.2 _ (by first | exact nthP_mem (nand_of hbo).1 (nand_of hbo).2 | exact nthP_mem hc.1.1 hc.1.2)) hc.2.1 hc.2.2) _)) (evr_int 0)) (fun v_ret H1 e1 hh => ?_)
    exact k _ _ (ex.trans e1) (rep_eq hh (shows_won1 pre.1 hc).symm)
abbrev s_times_to : Stmt := top 24
theorem sc_times_to : FnScope ["pair", "worth", "most", "whole", "times"] ["pair", "worth"] (defScope s_times_to) := ⟨rfl, rfl, rfl, by decide +kernel, rfl, by decide +kernel, by decide +kernel⟩
set_option maxHeartbeats 4000000 in
theorem ok_times_to {f : Addr} {fd : FuncData} (F : Fun K "times_to" "times_to" s_times_to f fd) (T : Txt K mg CA CL CW CP CK CR CS CT) (G_most_of : Cal P w K mg base CX0 1 "most_of" ["pair"] (Fn1 K (α := (Int × Int)) (β := Int) Sm mostOf)) (G_worth_of : Cal P w K mg base CX0 1 "worth_of" ["pair"] (Fn1 K (α := (Int × Int)) (β := Int) Sm worthOf)) (G_taken_of : Cal P w K mg base CX0 1 "taken_of" ["pair", "times"] (Fn2 K (α := (Int × Int)) (β := Int) (γ := (Int × Int)) (fun p t => Sm p ∧ 1 ≤ t ∧ t ≤ mostOf p) takenOf)) : FnOk P w K mg base CX0 2 f fd ["pair", "worth"] (Fn2 K (α := (Int × Int)) (β := Int) (γ := Int) (fun p w => Sm p ∧ 0 ≤ w ∧ w < worthOf p) timesTo) := by
  refine F.ok sc_times_to (fun vs H Q E h => h.len) (fun cdv A outer s H vs Q E hr h => ?_)
  obtain ⟨v_pair, v_worth, p_pair, p_worth, rfl, h_pair, h_worth, pre, k⟩ := h
  have hu := hr.units
  have ex := Ex.refl H
  have hu1 := hu_of hr
  refine ⟨_, (pss_cons (ps_set (i := 2) sc_times_to.nd rfl (Or.inl rfl) (pe_cal G_most_of (hr.mono (by decide)) (by rfl) (pa_cons (pv 0) pa_nil))) (pss_cons (ps_set (i := 3) sc_times_to.nd rfl (Or.inl rfl) (pe_op op_fdivX (pe_callB (call_maxP rfl) (by rfl) T.z_max (by decide +kernel) (pa_cons (pv 0) pa_nil)) (pe_callB (call_minP rfl) (by rfl) T.z_min (by decide +kernel) (pa_cons (pv 0) pa_nil)))) (pss_cons (ps_for PassesOwn.never rfl (pi_tup (pe_tup (pa_cons (pe_op op_sub (pe_op op_sub (pv 3) (pv 1)) pe_int) (pa_cons (pe_op op_sub (pv 3) (pv 1)) (pa_cons (pv 2) pa_nil))))) (pg_name (i := 4) sc_times_to.nd rfl (Or.inl rfl)) (pss_one (ps_if (PW.pt (pw_and (pt_chain op_le op_le pe_int (pv 4) (pv 2)) (pw_and1 (pt_cmpR op_eq (pe_cal G_worth_of (hr.mono (by decide)) (by rfl) (pa_cons (pe_cal G_taken_of (hr.mono (by decide)) (by rfl) (pa_cons (pv 0) (pa_cons (pv 4) pa_nil))) pa_nil)) (pv 1) (nomark _))))) (pss_one (ps_ret (pv 4))) pss_nil))) (pss_one (ps_ret pe_non))))), ?_⟩
  refine r_asg (K := K) (evr_call1 (evr_var rfl h_pair) pre.1) (fun v_most H1 e1 hh => ?_)
  have ex := ex.trans e1
  have h_pair := rmono e1 h_pair
  have h_worth := rmono e1 h_worth
  have h_most := hh
  refine r_asg (K := K) (evr_div (evr_maxP (evr_var rfl h_pair)) (evr_minP (evr_var rfl h_pair)) (pre.1.div _)) (fun v_whole H1 e1 hh => ?_)
  have ex := ex.trans e1
  have h_pair := rmono e1 h_pair
  have h_worth := rmono e1 h_worth
  have h_most := rmono e1 h_most
  have h_whole := hh
  refine r_forU (K := K) (evr_tu (els_cons (evr_sub (evr_sub (evr_var rfl h_whole) (evr_var rfl h_worth)) (evr_int 1)) (els_cons (evr_sub (evr_var rfl h_whole) (evr_var rfl h_worth)) (els_cons (evr_var rfl h_most) els_nil))) (by show _ ≤ 100000; simp)) (fun lp lvs H1 e1 hlp hlrs => ?_)
  have ex := ex.trans e1
  have h_pair := rmono e1 h_pair
  have h_worth := rmono e1 h_worth
  have h_most := rmono e1 h_most
  have h_whole := rmono e1 h_whole
  refine ⟨fun (n : Nat) (σ' : L2.St) (H' : Hp) => Ex H1 H' ∧ ∃ (o_4 : Option V), σ' = [some v_pair, some v_worth, some v_most, some v_whole, o_4] ∧ (∀ (m : Nat) (y : Int), m < n → (cands p_pair p_worth)[m]? = some y → okB p_pair p_worth y = false), ?_, ?_, ?_, ?_⟩
  · refine ⟨Ex.refl _, _, rfl, ?_⟩
    · exact fun m y hm => by omega
  · rintro n σ' H' ⟨exn, _⟩
    exact exn
  · rintro n v_times x_times σ' H' hx h_times ⟨exn, o_4, rfl, hextra⟩
    have ex := ex.trans exn
    have h_pair := rmono exn h_pair
    have h_worth := rmono exn h_worth
    have h_most := rmono exn h_most
    have h_whole := rmono exn h_whole
    have exb1 := exn
    refine s_when (et_and (evt_test (evr_chain (g := (fun i j => decide (i ≤ j))) (g' := (fun i j => decide (i ≤ j))) (evr_int 1) (evr_var rfl h_times) (fun hch => (evr_var rfl h_most)))) (fun hbo => (evt_test (evr_eqI (evr_call1 (evr_call2 (evr_var rfl h_pair) (evr_var rfl h_times) ⟨pre.1, and_of hbo⟩) (pre.1.taken (and_of hbo).1 (and_of hbo).2)) (evr_var rfl h_worth))))) (fun hb1 H1 e1 => ?_) (fun hb1 H1 e1 => ?_)
    · have ex := ex.trans e1
      have exb1 := exb1.trans e1
      have h_pair := rmono e1 h_pair
      have h_worth := rmono e1 h_worth
      have h_most := rmono e1 h_most
      have h_whole := rmono e1 h_whole
      have h_times := rmono e1 h_times
      refine r_ret (K := K) (evr_var rfl h_times) (fun v_ret H1 e1 hh => ?_)
      exact k _ _ (ex.trans e1) (rep_eq hh (by have h := find_at hextra (hx : (cands p_pair p_worth)[n]? = some x_times) hb1; unfold timesTo; rw [h]; rfl))
    · have ex := ex.trans e1
      have exb1 := exb1.trans e1
      have h_pair := rmono e1 h_pair
      have h_worth := rmono e1 h_worth
      have h_most := rmono e1 h_most
      have h_whole := rmono e1 h_whole
      have h_times := rmono e1 h_times
      refine ⟨?_, _, rfl, ?_⟩
      · exact exb1
      · intro m y hm hy
        rcases Nat.lt_succ_iff_lt_or_eq.mp hm with c | c
        · exact hextra m y c hy
        · subst c
          have e : y = x_times := Option.some.inj (hy.symm.trans (hx : (cands p_pair p_worth)[m]? = some x_times))
          subst e
          exact hb1
  · rintro σ' H' ⟨exn, o_4, rfl, hextra⟩
    have ex := ex.trans exn
    have h_pair := rmono exn h_pair
    have h_worth := rmono exn h_worth
    have h_most := rmono exn h_most
    have h_whole := rmono exn h_whole
    obtain ⟨t, ht⟩ := cands_hit pre.1.pos pre.2.1 pre.2.2
    exfalso
    have hm := List.mem_of_find?_eq_some ht
    obtain ⟨m, hm⟩ := List.mem_iff_getElem?.mp hm
    have hl : m < 3 := (List.getElem?_eq_some_iff.mp hm).1
    have := hextra m t hl hm
    rw [List.find?_some ht] at this
    cases this
abbrev s_told : Stmt := top 25
theorem sc_told : FnScope ["pairs", "whole", "at", "pair"] ["pairs"] (defScope s_told) := ⟨rfl, rfl, rfl, by decide +kernel, rfl, by decide +kernel, by decide +kernel⟩
set_option maxHeartbeats 4000000 in
theorem ok_told {f : Addr} {fd : FuncData} (F : Fun K "told" "told" s_told f fd) (T : Txt K mg CA CL CW CP CK CR CS CT) (G_asked_pairs : Cal P w K mg base CX0 3 "asked_pairs" ["pairs"] (Fn1 K (α := (List (Int × Int))) (β := Unit) (fun ps => AllSm ps ∧ ps.length ≤ 100) (fun _ => ()))) (G_sum_of : Cal P w K mg base CX0 2 "sum_of" ["pairs"] (Fn1 K (α := (List (Int × Int))) (β := Int) AllSm sumOf)) (G_worth_of : Cal P w K mg base CX0 1 "worth_of" ["pair"] (Fn1 K (α := (Int × Int)) (β := Int) Sm worthOf)) (G_times_to : Cal P w K mg base CX0 2 "times_to" ["pair", "worth"] (Fn2 K (α := (Int × Int)) (β := Int) (γ := Int) (fun p w => Sm p ∧ 0 ≤ w ∧ w < worthOf p) timesTo)) (GW_init : CalW P w K mg base CW) : FnOk P w K mg base CX0 4 f fd ["pairs"] (Fn1 K (α := (List (Int × Int))) (β := Ans) (fun ps => AllSm ps ∧ ps.length ≤ 100) toldOf) := by
  refine F.ok sc_told (fun vs H Q E h => h.len) (fun cdv A outer s H vs Q E hr h => ?_)
  obtain ⟨v_pairs, p_pairs, rfl, h_pairs, pre, k⟩ := h
  have hu := hr.units
  have ex := Ex.refl H
  have hu1 := hu_of hr
  refine ⟨_, (pss_cons (ps_expr (pe_cal G_asked_pairs (hr.mono (by decide)) (by rfl) (pa_cons (pv 0) pa_nil))) (pss_cons (ps_set (i := 1) sc_told.nd rfl (Or.inl rfl) (pe_cal G_sum_of (hr.mono (by decide)) (by rfl) (pa_cons (pv 0) pa_nil))) (pss_cons (ps_if (pt_cmpR op_eq (pv 1) pe_int (nomark _)) (pss_one (ps_ret (pe_make00 T.ans.mkL (by rfl) T.ans.mgL))) pss_nil) (pss_cons (ps_for PassesOwn.never rfl (pi_enum rfl T.z_enumerate (pa_cons (pv 0) pa_nil)) (pg_tup rfl (pgs_cons (pg_name (i := 2) sc_told.nd rfl (Or.inl rfl)) (pgs_cons (pg_name (i := 3) sc_told.nd rfl (Or.inl rfl)) pgs_nil))) (pss_one (ps_if (pt_cmpR op_lt (pe_op op_xor (pe_cal G_worth_of (hr.mono (by decide)) (by rfl) (pa_cons (pv 3) pa_nil)) (pv 1)) (pe_cal G_worth_of (hr.mono (by decide)) (by rfl) (pa_cons (pv 3) pa_nil)) (nomark _)) (pss_one (ps_ret (pe_makW GW_init (hr.mono (by decide)) (by rfl) (pa_cons (pv 2) (pa_cons (pe_cal G_times_to (hr.mono (by decide)) (by rfl) (pa_cons (pv 3) (pa_cons (pe_op op_xor (pe_cal G_worth_of (hr.mono (by decide)) (by rfl) (pa_cons (pv 3) pa_nil)) (pv 1)) pa_nil))) pa_nil))))) pss_nil))) (pss_one (ps_ret (pe_make00 T.ans.mkL (by rfl) T.ans.mgL))))))), ?_⟩
  refine r_drop (K := K) (evr_call1 (evr_var rfl h_pairs) pre) (fun H1 e1 => ?_)
  have ex := ex.trans e1
  have h_pairs := rmono e1 h_pairs
  refine r_asg (K := K) (evr_call1 (evr_var rfl h_pairs) pre.1) (fun v_whole H1 e1 hh => ?_)
  have ex := ex.trans e1
  have h_pairs := rmono e1 h_pairs
  have h_whole := hh
  refine q_when (evt_test (evr_eqI (evr_var rfl h_whole) (evr_int 0))) (fun hb1 H1 e1 => ?_) (fun hb1 H1 e1 => ?_)
  · have ex := ex.trans e1
    have h_pairs := rmono e1 h_pairs
    have h_whole := rmono e1 h_whole
    refine r_ret (K := K) (evr_makeL T.ans) (fun v_ret H1 e1 hh => ?_)
    exact k _ _ (ex.trans e1) (rep_eq hh (told_lost (of_decide_eq_true hb1)).symm)
  · have ex := ex.trans e1
    have h_pairs := rmono e1 h_pairs
    have h_whole := rmono e1 h_whole
    refine r_forE (K := K) (evr_var rfl h_pairs) (fun lp lvs H1 e1 hlp hlrs => ?_)
    have ex := ex.trans e1
    have h_pairs := rmono e1 h_pairs
    have h_whole := rmono e1 h_whole
    refine ⟨fun (n : Nat) (σ' : L2.St) (H' : Hp) => Ex H1 H' ∧ ∃ (o_2 o_3 : Option V), σ' = [some v_pairs, some v_whole, o_2, o_3] ∧ (toldGo (sumOf p_pairs) 0 p_pairs = toldGo (sumOf p_pairs) n (p_pairs.drop n)), ?_, ?_, ?_, ?_⟩
    · refine ⟨Ex.refl _, _, _, rfl, ?_⟩
      · rw [List.drop_zero]
    · rintro n σ' H' ⟨exn, _⟩
      exact ⟨exn _ _ hlp, pmono exn hlrs⟩
    · rintro n v_pair x_pair σ' H' H2 hx exm h_pair ⟨exn, o_2, o_3, rfl, hextra⟩
      have exn := exn.trans exm
      have ex := ex.trans exn
      have h_pairs := rmono exn h_pairs
      have h_whole := rmono exn h_whole
      have h_at : rep K H2 (V.int (n : Int)) (n : Int) := rfl
      have exb1 := exn
      refine s_when (evt_test (evr_lt (evr_xor (evr_call1 (evr_var rfl h_pair) (pre.1 _ (List.mem_of_getElem? hx))) (evr_var rfl h_whole) (worth_nonneg (pre.1 _ (List.mem_of_getElem? hx)).pos) (sumOf_nonneg _)) (evr_call1 (evr_var rfl h_pair) (pre.1 _ (List.mem_of_getElem? hx))))) (fun hb2 H1 e1 => ?_) (fun hb2 H1 e1 => ?_)
      · have ex := ex.trans e1
        have exb1 := exb1.trans e1
        have h_pairs := rmono e1 h_pairs
        have h_whole := rmono e1 h_whole
        have h_pair := rmono e1 h_pair
        have h_at := rmono e1 h_at
        refine r_ret (K := K) (evr_makeW T.ans (evr_var rfl h_at) (evr_call2 (evr_var rfl h_pair) (evr_xor (evr_call1 (evr_var rfl h_pair) (pre.1 _ (List.mem_of_getElem? hx))) (evr_var rfl h_whole) (worth_nonneg (pre.1 _ (List.mem_of_getElem? hx)).pos) (sumOf_nonneg _)) ⟨(pre.1 _ (List.mem_of_getElem? hx)), xr_nonneg _ _, of_decide_eq_true hb2⟩)) (fun v_ret H1 e1 hh => ?_)
        exact k _ _ (ex.trans e1) (rep_eq hh (by unfold toldOf; rw [if_neg (of_decide_eq_false hb1), hextra, toldGo_drop hx, if_pos (of_decide_eq_true hb2)]))
      · have ex := ex.trans e1
        have exb1 := exb1.trans e1
        have h_pairs := rmono e1 h_pairs
        have h_whole := rmono e1 h_whole
        have h_pair := rmono e1 h_pair
        have h_at := rmono e1 h_at
        refine ⟨?_, _, _, rfl, ?_⟩
        · exact exb1
        · rw [hextra, toldGo_drop hx, if_neg (of_decide_eq_false hb2)]
    · rintro σ' H' ⟨exn, o_2, o_3, rfl, hextra⟩
      have ex := ex.trans exn
      have h_pairs := rmono exn h_pairs
      have h_whole := rmono exn h_whole
      exfalso
      obtain ⟨i, p, _, _, h⟩ := told_won pre.1 (of_decide_eq_false hb1)
      unfold toldOf at h
      rw [if_neg (of_decide_eq_false hb1), hextra, List.drop_length] at h
      cases h
abbrev s_row_of : Stmt := top 28
theorem sc_row_of : FnScope ["pair", "high", "low", "found"] ["pair"] (defScope s_row_of) := ⟨rfl, rfl, rfl, by decide +kernel, rfl, by decide +kernel, by decide +kernel⟩
set_option maxHeartbeats 4000000 in
theorem ok_row_of {f : Addr} {fd : FuncData} (F : Fun K "row_of" "row_of" s_row_of f fd) (T : Txt K mg CA CL CW CP CK CR CS CT) : FnOk P w K mg base CX0 1 f fd ["pair"] (Fn1N K (α := Int × Int) (β := Int) Sq rowOf) := by
  refine F.ok sc_row_of (fun vs H Q E h => h.len) (fun cdv A outer s H vs Q E hr h => ?_)
  obtain ⟨v_pair, p_pair, rfl, h_pair, pre, k⟩ := h
  have hu := hr.units
  have ex := Ex.refl H
  have hu1 := hu_of hr
  refine ⟨_, (pss_cons (ps_par (i := 1) (j := 2) rfl sc_row_of.nd rfl rfl (by decide) rfl rfl (pa_cons (pe_callB (call_maxP rfl) (by rfl) T.z_max (by decide +kernel) (pa_cons (pv 0) pa_nil)) (pa_cons (pe_callB (call_minP rfl) (by rfl) T.z_min (by decide +kernel) (pa_cons (pv 0) pa_nil)) pa_nil)) rfl) (pss_cons (ps_set (i := 3) sc_row_of.nd rfl (Or.inl rfl) (pe_lst pa_nil)) (pss_cons (ps_while PassesOwn.never (pt_cmpR op_gt (pv 2) pe_int (nomark _)) (pss_cons (ps_expr (pe_bm PySem.F.plainAttrs_list PySem.F.slot_list_append PySem.F.type_list_append mt_append (pv 3) (pa_cons (pe_op op_fdivX (pv 1) (pv 2)) pa_nil))) (pss_one (ps_par (i := 1) (j := 2) rfl sc_row_of.nd rfl rfl (by decide) rfl rfl (pa_cons (pv 2) (pa_cons (pe_op op_mod (pv 1) (pv 2)) pa_nil)) rfl)))) (pss_one (ps_ret (pv 3)))))), ?_⟩
  refine r_par (K := K) (evr_maxP (evr_var rfl h_pair)) (evr_minP (evr_var rfl h_pair)) (fun v_high v_low HA eA hh hh2 => ?_)
  have h_pair := rmono eA h_pair
  have e : v_high = V.int (max p_pair.1 p_pair.2) := hh
  subst e
  have e : v_low = V.int (min p_pair.1 p_pair.2) := hh2
  subst e
  refine r_asgN (K := K) (evn_list (α := Int) els_nil (Nat.zero_le _)) (fun l us HB hn eB hl hs => ?_)
  refine q_while (fun (mm : Nat) (σ' : L2.St) (H' : Hp) => ∃ (h l' : Int) (r dn : List Int) (us : List V), σ' = [some v_pair, some (.int h), some (.int l'), some (.ref l)] ∧ Ex HA H' ∧ H' l = some (.lst us) ∧ Paired (rep K H') us dn ∧ Eu h l' r (comOf p_pair) ∧ dn ++ r = rowOf p_pair ∧ Bt 5000 h ∧ Bt 5000 l' ∧ mm = r.length) _ ⟨_, _, rowOf p_pair, [], _, rfl, eB, hl, hs, row_eu p_pair, rfl, pre.hi, pre.lo, rfl⟩ ?_
  rintro mm σ' H' ⟨h, l', r, dn, us, rfl, exn, hl, hs, eu, hr, bh, bl, rfl⟩
  refine ⟨_, evt_test (K := K) (evr_gt (evr_varI rfl) (evr_int 0)), fun hb H2 e2 => ?_, fun hb H2 e2 => ?_⟩
  · have hl0 : 0 < l' := of_decide_eq_true hb
    obtain ⟨r', hr', eu'⟩ := eu.pos hl0
    subst hr'
    have hm0 := Int.emod_nonneg h (show l' ≠ 0 by omega)
    have hm1 := Int.emod_lt_of_pos h hl0
    refine ⟨fun σ2 H2 => ∃ m', m' < (h / l' :: r').length ∧ (fun (mm : Nat) (σ' : L2.St) (H' : Hp) => ∃ (h l' : Int) (r dn : List Int) (us : List V), σ' = [some v_pair, some (.int h), some (.int l'), some (.ref l)] ∧ Ex HA H' ∧ H' l = some (.lst us) ∧ Paired (rep K H') us dn ∧ Eu h l' r (comOf p_pair) ∧ dn ++ r = rowOf p_pair ∧ Bt 5000 h ∧ Bt 5000 l' ∧ mm = r.length) m' σ2 H2, fun _ _ q => q, ?_⟩
    have hdl : dn.length < 100000 := by have := congrArg List.length hr; rw [List.length_append] at this; have := row_len pre.pos pre.lo; omega
    refine r_app (K := K) hn (exn.trans e2) (e2 _ _ hl) (pmono e2 hs) (ev_var rfl) (evr_div (evr_varI rfl) (evr_varI rfl) (bl.divOk hl0 (by decide) (by decide))) hdl (fun us' H3 exn hl hs => ?_)
    refine r_par1 (K := K) (evr_varI rfl) (evr_mod (evr_varI rfl) (evr_varI rfl) hl0) (fun v w H4 e4 hv hw => ?_)
    have e : v = V.int l' := hv
    subst e
    have e : w = V.int (h % l') := hw
    subst e
    exact ⟨r'.length, by rw [List.length_cons]; omega, l', h % l', r', dn ++ [h / l'], us', rfl, exn.trans e4, e4 _ _ hl, pmono e4 hs, eu', by rw [List.append_assoc]; exact hr, bl, bl.le hm0 (by omega), rfl⟩
  · have hx := eu.non (of_decide_eq_false hb)
    have hr0 := hx.1
    subst hr0
    have hg := hx.2.symm
    subst hg
    rw [List.append_nil] at hr
    have hl := e2 _ _ hl
    have hs := pmono e2 hs
    rw [hr] at hs
    have exn := exn.trans e2
    exact ⟨_, rfl, k l us H2 (fresh_back eA hn) (eA.trans exn) hl hs⟩
abbrev s_quotients : Stmt := top 29
theorem sc_quotients : FnScope ["pair", "high", "low"] ["pair"] (defScope s_quotients) := ⟨rfl, rfl, rfl, by decide +kernel, rfl, by decide +kernel, by decide +kernel⟩
set_option maxHeartbeats 4000000 in
theorem ok_quotients {f : Addr} {fd : FuncData} (F : Fun K "quotients" "quotients" s_quotients f fd) (T : Txt K mg CA CL CW CP CK CR CS CT) (G_asked_pair : Cal P w K mg base CX0 3 "asked_pair" ["pair"] (Fn1 K (α := (Int × Int)) (β := Unit) Pos (fun _ => ()))) (G_row_of : Cal P w K mg base CX0 1 "row_of" ["pair"] (Fn1N K (α := Int × Int) (β := Int) Sq rowOf)) : FnOk P w K mg base CX0 4 f fd ["pair"] (spQ K) := by
  refine F.ok sc_quotients (fun vs H Q E h => h.len) (fun cdv A outer s H vs Q E hr h => ?_)
  obtain ⟨v_pair, p_pair, rfl, h_pair, pre, k⟩ := h
  have hu := hr.units
  have ex := Ex.refl H
  have hu1 := hu_of hr
  refine ⟨_, (pss_cons (ps_expr (pe_cal G_asked_pair (hr.mono (by decide)) (by rfl) (pa_cons (pv 0) pa_nil))) (pss_cons (ps_par (i := 1) (j := 2) rfl sc_quotients.nd rfl rfl (by decide) rfl rfl (pa_cons (pe_callB (call_maxP rfl) (by rfl) T.z_max (by decide +kernel) (pa_cons (pv 0) pa_nil)) (pa_cons (pe_callB (call_minP rfl) (by rfl) T.z_min (by decide +kernel) (pa_cons (pv 0) pa_nil)) pa_nil)) rfl) (pss_cons (ps_while PassesOwn.never (pt_cmpR op_gt (pv 2) pe_int (nomark _)) (pss_one (ps_par (i := 1) (j := 2) rfl sc_quotients.nd rfl rfl (by decide) rfl rfl (pa_cons (pv 2) (pa_cons (pe_op op_mod (pv 1) (pv 2)) pa_nil)) rfl))) (pss_one (ps_ret (pe_tup (pa_cons (pe_cal G_row_of (hr.mono (by decide)) (by rfl) (pa_cons (pv 0) pa_nil)) (pa_cons (pv 1) pa_nil)))))))), ?_⟩
  refine r_drop (K := K) (evr_call1 (evr_var rfl h_pair) pre.pos) (fun H0 e0 => ?_)
  have h_pair := rmono e0 h_pair
  refine r_par (K := K) (evr_maxP (evr_var rfl h_pair)) (evr_minP (evr_var rfl h_pair)) (fun v_high v_low HA eA hh hh2 => ?_)
  have h_pair := rmono eA h_pair
  have e : v_high = V.int (max p_pair.1 p_pair.2) := hh
  subst e
  have e : v_low = V.int (min p_pair.1 p_pair.2) := hh2
  subst e
  refine q_while (fun (mm : Nat) (σ' : L2.St) (H' : Hp) => ∃ (h l' : Int) (r : List Int), σ' = [some v_pair, some (.int h), some (.int l')] ∧ Ex HA H' ∧ Eu h l' r (comOf p_pair) ∧ Bt 5000 h ∧ Bt 5000 l' ∧ mm = r.length) _ ⟨_, _, rowOf p_pair, rfl, Ex.refl _, row_eu p_pair, pre.hi, pre.lo, rfl⟩ ?_
  rintro mm σ' H' ⟨h, l', r, rfl, exn, eu, bh, bl, rfl⟩
  refine ⟨_, evt_test (K := K) (evr_gt (evr_varI rfl) (evr_int 0)), fun hb H2 e2 => ?_, fun hb H2 e2 => ?_⟩
  · have hl0 : 0 < l' := of_decide_eq_true hb
    obtain ⟨r', hr', eu'⟩ := eu.pos hl0
    subst hr'
    have hm0 := Int.emod_nonneg h (show l' ≠ 0 by omega)
    have hm1 := Int.emod_lt_of_pos h hl0
    refine ⟨fun σ2 H2 => ∃ m', m' < (h / l' :: r').length ∧ (fun (mm : Nat) (σ' : L2.St) (H' : Hp) => ∃ (h l' : Int) (r : List Int), σ' = [some v_pair, some (.int h), some (.int l')] ∧ Ex HA H' ∧ Eu h l' r (comOf p_pair) ∧ Bt 5000 h ∧ Bt 5000 l' ∧ mm = r.length) m' σ2 H2, fun _ _ q => q, ?_⟩
    refine r_par1 (K := K) (evr_varI rfl) (evr_mod (evr_varI rfl) (evr_varI rfl) hl0) (fun v w H4 e4 hv hw => ?_)
    have e : v = V.int l' := hv
    subst e
    have e : w = V.int (h % l') := hw
    subst e
    exact ⟨r'.length, by rw [List.length_cons]; omega, l', h % l', r', rfl, (exn.trans e2).trans e4, eu', bl, bl.le hm0 (by omega), rfl⟩
  · have hx := eu.non (of_decide_eq_false hb)
    have hr0 := hx.1
    subst hr0
    have hg := hx.2.symm
    subst hg
    have exn := exn.trans e2
    refine (evn_call1 (evr_var rfl (rmono exn h_pair)) pre) H2 (Ex.refl _) _ fun L us H3 hL e3 hl hs => ⟨_, rfl, (by show 2 ≤ sizeLine; decide), fun T hT => k T L us _ ?_ ?_ upd_same ?_ (pmono (Ex.new hT) hs)⟩
    · exact fresh_back ((e0.trans eA).trans exn) hL
    · exact ((e0.trans eA).trans exn).trans (e3.trans (Ex.new hT))
    · exact (Ex.new hT) _ _ hl
abbrev s_is_row : Stmt := top 30
theorem sc_is_row : FnScope ["thing", "one"] ["thing"] (defScope s_is_row) := ⟨rfl, rfl, rfl, by decide +kernel, rfl, by decide +kernel, by decide +kernel⟩
set_option maxHeartbeats 4000000 in
theorem ok_is_row {f : Addr} {fd : FuncData} (F : Fun K "is_row" "is_row" s_is_row f fd) (T : Txt K mg CA CL CW CP CK CR CS CT) (G_is_number : Cal P w K mg base CX0 1 "is_number" ["thing"] (Fn1 K (α := Int) (β := Bool) (fun _ => True) (fun _ => true))) : FnOk P w K mg base CX0 2 f fd ["thing"] (Fn1 K (α := (List Int)) (β := Bool) (fun r => r ≠ [] ∧ GoodRow r ∧ r.length ≤ 1000) (fun _ => true)) := by
  refine F.ok sc_is_row (fun vs H Q E h => h.len) (fun cdv A outer s H vs Q E hr h => ?_)
  obtain ⟨v_thing, p_thing, rfl, h_thing, pre, k⟩ := h
  have hu := hr.units
  have ex := Ex.refl H
  have hu1 := hu_of hr
  refine ⟨_, (pss_cons (ps_if (PW.pt (pw_or (pt_not (pt_val (pe_callB call_isi (by rfl) T.z_isinstance (by decide +kernel) (pa_cons (pv 0) (pa_cons (pe_bltn (v := .ty "list") (by rfl) T.z_list (by decide +kernel) rfl) pa_nil))))) (pw_or1 (pt_not (pt_chain op_le op_le pe_int (pe_callB call_len_seq (by rfl) T.z_len (by decide +kernel) (pa_cons (pv 0) pa_nil)) (pe_globI (by rfl) T.g_LONGEST)))))) (pss_one (ps_ret pe_bl)) pss_nil) (pss_cons (ps_if (pt_not (pt_val (pe_callB (cr_all rfl) (by rfl) T.z_all (by decide +kernel) (pa_cons (pe_lc (own := [("one", 1)]) (g := gName 1) (tt := tYes) rfl sc_is_row.nd (pi_list (pv 0)) (blkOk_by (own := [("one", 1)]) (N := ["thing", "one"]) (sc := defScope s_is_row) (by decide +kernel)) (fun _ _ _ _ _ => pg_name (i := 1) sc_is_row.nd rfl (Or.inl rfl)) (fun _ _ _ _ _ => pts_nil) (fun _ _ _ _ _ => (pe_and (pe_cal G_is_number (hr.mono (by decide)) (by rfl) (pa_cons (pv 1) pa_nil)) (pe_one (pe_cmpR op_gt (pv 1) pe_int (nomark _)))))) pa_nil)))) (pss_one (ps_ret pe_bl)) pss_nil) (pss_one (ps_ret (pe_or (pe_cmpR op_eq (pe_callB call_len_seq (by rfl) T.z_len (by decide +kernel) (pa_cons (pv 0) pa_nil)) pe_int (nomark _)) (pe_one (pe_cmpR op_gt (pe_ix ix_list (pv 0) (pe_un un_neg pe_int) (fun _ _ => rfl)) pe_int (nomark _)))))))), ?_⟩
  refine q_when (et_or (et_not (evt_B (evr_isi (K := K) (tn := "list") (n := "list") (b := true) (evr_var rfl h_thing) rfl (by decide +kernel)))) (fun hbo => (et_not (evt_test (evr_chain (g := (fun i j => decide (i ≤ j))) (g' := (fun i j => decide (i ≤ j))) (evr_int 1) (evr_lenL (evr_var rfl h_thing)) (fun hch => (evr_int 1000))))))) (fun hb1 H1 e1 => ?_) (fun hb1 H1 e1 => ?_)
  · exact absurd hb1 (by have h := pre.2.2; have h2 := List.length_pos_iff.mpr pre.1; simp; omega)
  · have ex := ex.trans e1
    have h_thing := rmono e1 h_thing
    refine q_when (et_not (evt_B (evr_all (evr_n (evn_lcL (f := fun xc : Int => (((fun _ => true) xc) && (decide (0 < xc)))) (evr_var rfl h_thing) (by have h := pre.2.2; omega) (fun _ => rfl) (fun nxc xc vxc Hcx ecx hmem hxc => (evr_andV (evr_call1 (evr_var rfl hxc) trivial) (fun hbo => (evr_gt (evr_var rfl hxc) (evr_int 0)))))))))) (fun hb2 H1 e1 => ?_) (fun hb2 H1 e1 => ?_)
    · exact absurd hb2 (by rw [all_pos pre.2.1.pos]; decide)
    · have ex := ex.trans e1
      have h_thing := rmono e1 h_thing
      refine r_ret (K := K) (evr_orV (evr_eqI (evr_lenL (evr_var rfl h_thing)) (evr_int 1)) (fun hbo => (evr_gt (evr_ixZ (evr_var rfl h_thing) (last_getD pre.1)) (evr_int 1)))) (fun v_ret H1 e1 hh => ?_)
      exact k _ _ (ex.trans e1) (rep_eq hh (good_last pre.1 pre.2.1))
abbrev s_pair_of : Stmt := top 31
theorem sc_pair_of : FnScope ["row", "common", "high", "low", "one"] ["row", "common"] (defScope s_pair_of) := ⟨rfl, rfl, rfl, by decide +kernel, rfl, by decide +kernel, by decide +kernel⟩
set_option maxHeartbeats 4000000 in
theorem ok_pair_of {f : Addr} {fd : FuncData} (F : Fun K "pair_of" "pair_of" s_pair_of f fd) (T : Txt K mg CA CL CW CP CK CR CS CT) (G_is_row : Cal P w K mg base CX0 2 "is_row" ["thing"] (Fn1 K (α := (List Int)) (β := Bool) (fun r => r ≠ [] ∧ GoodRow r ∧ r.length ≤ 1000) (fun _ => true))) (G_is_number : Cal P w K mg base CX0 1 "is_number" ["thing"] (Fn1 K (α := Int) (β := Bool) (fun _ => True) (fun _ => true))) : FnOk P w K mg base CX0 3 f fd ["row", "common"] (Fn2 K (α := (List Int)) (β := Int) (γ := (Int × Int)) (fun r c => r ≠ [] ∧ GoodRow r ∧ r.length ≤ 1000 ∧ 1 ≤ c ∧ RowB 1000000 r c) backR) := by
  refine F.ok sc_pair_of (fun vs H Q E h => h.len) (fun cdv A outer s H vs Q E hr h => ?_)
  obtain ⟨v_row, v_common, p_row, p_common, rfl, h_row, h_common, pre, k⟩ := h
  have hu := hr.units
  have ex := Ex.refl H
  have hu1 := hu_of hr
  refine ⟨_, (pss_cons (ps_if (pt_not (pt_val (pe_cal G_is_row (hr.mono (by decide)) (by rfl) (pa_cons (pv 0) pa_nil)))) pss_never pss_nil) (pss_cons (ps_if (PW.pt (pw_or (pt_not (pt_val (pe_cal G_is_number (hr.mono (by decide)) (by rfl) (pa_cons (pv 1) pa_nil)))) (pw_or1 (pt_cmpR op_lt (pv 1) pe_int (nomark _))))) pss_never pss_nil) (pss_cons (ps_par (i := 2) (j := 3) rfl sc_pair_of.nd rfl rfl (by decide) rfl rfl (pa_cons (pv 1) (pa_cons pe_int pa_nil)) rfl) (pss_cons (ps_for PassesOwn.never rfl (pi_list (pe_revL (pv 0))) (pg_name (i := 4) sc_pair_of.nd rfl (Or.inl rfl)) (pss_one (ps_par (i := 2) (j := 3) rfl sc_pair_of.nd rfl rfl (by decide) rfl rfl (pa_cons (pe_op op_add (pe_op op_mulX (pv 4) (pv 2)) (pv 3)) (pa_cons (pv 2) pa_nil)) rfl))) (pss_one (ps_ret (pe_tup (pa_cons (pv 2) (pa_cons (pv 3) pa_nil))))))))), ?_⟩
  refine r_guard (et_not (evt_B (evr_call1 (evr_var rfl h_row) ⟨pre.1, pre.2.1, pre.2.2.1⟩))) (rfl) (fun H1 e1 => ?_)
  have ex := ex.trans e1
  have h_row := rmono e1 h_row
  have h_common := rmono e1 h_common
  refine r_guard (et_or (et_not (evt_B (evr_call1 (evr_var rfl h_common) trivial))) (fun hbo => (evt_test (evr_lt (evr_var rfl h_common) (evr_int 1))))) (by have h := pre.2.2.2.1; simp; omega) (fun H1 e1 => ?_)
  have ex := ex.trans e1
  have h_row := rmono e1 h_row
  have h_common := rmono e1 h_common
  refine r_par (K := K) (evr_var rfl h_common) (evr_int 0) (fun v_high v_low H1 e1 hh hh2 => ?_)
  have ex := ex.trans e1
  have h_row := rmono e1 h_row
  have h_common := rmono e1 h_common
  have h_high := hh
  have h_low := hh2
  refine r_forL (K := K) (evr_n (evn_rev (evr_var rfl h_row))) (fun lp lvs H1 e1 hlp hlrs => ?_)
  have ex := ex.trans e1
  have h_row := rmono e1 h_row
  have h_common := rmono e1 h_common
  have h_high := rmono e1 h_high
  have h_low := rmono e1 h_low
  refine ⟨fun (n : Nat) (σ' : L2.St) (H' : Hp) => Ex H1 H' ∧ ∃ (o_4 : Option V), ∃ (w_high w_low : V), σ' = [some v_row, some v_common, some w_high, some w_low, o_4] ∧ rep K H' w_high (((p_row.reverse.take n).foldl bstp (p_common, 0)).1 : Int) ∧ rep K H' w_low (((p_row.reverse.take n).foldl bstp (p_common, 0)).2 : Int), ?_, ?_, ?_, ?_⟩
  · refine ⟨Ex.refl _, _, _, _, rfl, ?_, ?_⟩
    · exact h_high
    · exact h_low
  · rintro n σ' H' ⟨exn, _⟩
    exact ⟨exn _ _ hlp, pmono exn hlrs⟩
  · rintro n v_one x_one σ' H' hx h_one ⟨exn, o_4, w_high, w_low, rfl, h_high, h_low⟩
    have ex := ex.trans exn
    have h_row := rmono exn h_row
    have h_common := rmono exn h_common
    have exb1 := exn
    refine r_par1 (K := K) (evr_add (evr_mul (evr_var rfl h_one) (evr_var rfl h_high) ((pre.2.2.2.2.mem (List.mem_reverse.mp (List.mem_of_getElem? hx))).mulOk pre.2.2.2.2.at_.1 (by decide))) (evr_var rfl h_low)) (evr_var rfl h_high) (fun v_high v_low H1 e1 hh hh2 => ?_)
    have ex := ex.trans e1
    have exb1 := exb1.trans e1
    have h_row := rmono e1 h_row
    have h_common := rmono e1 h_common
    have h_one := rmono e1 h_one
    have h_high := hh
    have h_low := hh2
    refine ⟨?_, _, _, _, rfl, ?_, ?_⟩
    · exact exb1
    · exact rep_eq h_high (by rw [back_step hx] <;> rfl)
    · exact rep_eq h_low (by rw [back_step hx] <;> rfl)
  · rintro σ' H' ⟨exn, o_4, w_high, w_low, rfl, h_high, h_low⟩
    have ex := ex.trans exn
    have h_row := rmono exn h_row
    have h_common := rmono exn h_common
    refine r_ret (K := K) (evr_tup (evr_var rfl h_high) (evr_var rfl h_low)) (fun v_ret H1 e1 hh => ?_)
    exact k _ _ (ex.trans e1) (rep_eq hh (by rw [List.take_length, backR_foldl]))
abbrev s_shortest : Stmt := top 32
theorem sc_shortest : FnScope ["pair", "row"] ["pair"] (defScope s_shortest) := ⟨rfl, rfl, rfl, by decide +kernel, rfl, by decide +kernel, by decide +kernel⟩
set_option maxHeartbeats 4000000 in
theorem ok_shortest {f : Addr} {fd : FuncData} (F : Fun K "shortest" "shortest" s_shortest f fd) (T : Txt K mg CA CL CW CP CK CR CS CT) (G_asked_pair : Cal P w K mg base CX0 3 "asked_pair" ["pair"] (Fn1 K (α := (Int × Int)) (β := Unit) Pos (fun _ => ()))) (G_row_of : Cal P w K mg base CX0 1 "row_of" ["pair"] (Fn1N K (α := Int × Int) (β := Int) Sq rowOf)) : FnOk P w K mg base CX0 4 f fd ["pair"] (Fn1 K (α := (Int × Int)) (β := Int) Sq shortOf) := by
  refine F.ok sc_shortest (fun vs H Q E h => h.len) (fun cdv A outer s H vs Q E hr h => ?_)
  obtain ⟨v_pair, p_pair, rfl, h_pair, pre, k⟩ := h
  have hu := hr.units
  have ex := Ex.refl H
  have hu1 := hu_of hr
  refine ⟨_, (pss_cons (ps_expr (pe_cal G_asked_pair (hr.mono (by decide)) (by rfl) (pa_cons (pv 0) pa_nil))) (pss_cons (ps_set (i := 1) sc_shortest.nd rfl (Or.inl rfl) (pe_cal G_row_of (hr.mono (by decide)) (by rfl) (pa_cons (pv 0) pa_nil))) (pss_one (ps_ret (pe_op op_add (pe_op op_sub (pe_callB call_len_seq (by rfl) T.z_len (by decide +kernel) (pa_cons (pv 1) pa_nil)) pe_int) (pe_ifExp (pt_cmpR op_gt (pe_ix ix_list (pv 1) (pe_un un_neg pe_int) (fun _ _ => rfl)) pe_int (nomark _)) pe_int pe_int)))))), ?_⟩
  refine r_drop (K := K) (evr_call1 (evr_var rfl h_pair) pre.pos) (fun H1 e1 => ?_)
  have ex := ex.trans e1
  have h_pair := rmono e1 h_pair
  refine r_asg (K := K) (evr_n (evn_call1 (evr_var rfl h_pair) pre)) (fun v_row H1 e1 hh => ?_)
  have ex := ex.trans e1
  have h_pair := rmono e1 h_pair
  have h_row := hh
  refine r_ret (K := K) (evr_add (evr_sub (evr_lenL (evr_var rfl h_row)) (evr_int 1)) (evr_if (evt_test (evr_gt (evr_ixZ (evr_var rfl h_row) (last_getD (row_ne pre.pos))) (evr_int 1))) (fun hif => (evr_int 1)) (fun hif => (evr_int 0)))) (fun v_ret H1 e1 hh => ?_)
  exact k _ _ (ex.trans e1) (hh)
abbrev s_longest : Stmt := top 33
theorem sc_longest : FnScope ["pair"] ["pair"] (defScope s_longest) := ⟨rfl, rfl, rfl, by decide +kernel, rfl, by decide +kernel, by decide +kernel⟩
set_option maxHeartbeats 4000000 in
theorem ok_longest {f : Addr} {fd : FuncData} (F : Fun K "longest" "longest" s_longest f fd) (T : Txt K mg CA CL CW CP CK CR CS CT) (G_asked_pair : Cal P w K mg base CX0 3 "asked_pair" ["pair"] (Fn1 K (α := (Int × Int)) (β := Unit) Pos (fun _ => ()))) (G_row_of : Cal P w K mg base CX0 1 "row_of" ["pair"] (Fn1N K (α := Int × Int) (β := Int) Sq rowOf)) : FnOk P w K mg base CX0 4 f fd ["pair"] (Fn1 K (α := (Int × Int)) (β := Int) Sq longOf) := by
  refine F.ok sc_longest (fun vs H Q E h => h.len) (fun cdv A outer s H vs Q E hr h => ?_)
  obtain ⟨v_pair, p_pair, rfl, h_pair, pre, k⟩ := h
  have hu := hr.units
  have ex := Ex.refl H
  have hu1 := hu_of hr
  refine ⟨_, (pss_cons (ps_expr (pe_cal G_asked_pair (hr.mono (by decide)) (by rfl) (pa_cons (pv 0) pa_nil))) (pss_one (ps_ret (pe_op op_sub (pe_callB (cr_sum rfl) (by rfl) T.z_sum (by decide +kernel) (pa_cons (pe_cal G_row_of (hr.mono (by decide)) (by rfl) (pa_cons (pv 0) pa_nil)) pa_nil)) pe_int)))), ?_⟩
  refine r_drop (K := K) (evr_call1 (evr_var rfl h_pair) pre.pos) (fun H1 e1 => ?_)
  have ex := ex.trans e1
  have h_pair := rmono e1 h_pair
  refine r_ret (K := K) (evr_sub (evr_sum (evr_n (evn_call1 (evr_var rfl h_pair) pre))) (evr_int 1)) (fun v_ret H1 e1 hh => ?_)
  exact k _ _ (ex.trans e1) (hh)
set_option maxHeartbeats 4000000 in
theorem ok_is_numberT {f : Addr} {fd : FuncData} (F : Fun K "is_number" "is_number" s_is_number f fd) (T : Txt K mg CA CL CW CP CK CR CS CT) : FnOk P w K mg base CX0 1 f fd ["thing"] (Fn1 K (α := Th) (β := Bool) (fun _ => True) numT) := by
  refine F.ok sc_is_number (fun vs H Q E h => h.len) (fun cdv A outer s H vs Q E hr h => ?_)
  obtain ⟨v_thing, p_thing, rfl, h_thing, pre, k⟩ := h
  refine ⟨_, (pss_one (ps_ret (pe_and (pe_callB call_isi (by rfl) T.z_isinstance (by decide +kernel) (pa_cons (pv 0) (pa_cons (pe_bltn (v := .ty "int") (by rfl) T.z_int (by decide +kernel) rfl) pa_nil))) (pe_one (pe_not (pe_callB call_isi (by rfl) T.z_isinstance (by decide +kernel) (pa_cons (pv 0) (pa_cons (pe_bltn (v := .ty "bool") (by rfl) T.z_bool (by decide +kernel) rfl) pa_nil)))))))), ?_⟩
  refine r_ret (K := K) (evr_andV (evr_isiT (evr_var rfl h_thing) (kit_int _)) (fun _ => evr_notV (evr_isiT (evr_var rfl h_thing) (kit_bool _)))) (fun v_ret H1 e1 hh => ?_)
  exact k _ _ e1 (rep_eq hh (numT_is p_thing))
set_option maxHeartbeats 4000000 in
theorem ok_is_pairT {f : Addr} {fd : FuncData} (F : Fun K "is_pair" "is_pair" s_is_pair f fd) (T : Txt K mg CA CL CW CP CK CR CS CT) (G_is_numberT : Cal P w K mg base CX0 1 "is_number" ["thing"] (Fn1 K (α := Th) (β := Bool) (fun _ => True) numT)) : FnOk P w K mg base CX0 2 f fd ["thing"] (Fn1 K (α := Th) (β := Bool) Short pairT) := by
  refine F.ok sc_is_pair (fun vs H Q E h => h.len) (fun cdv A outer s H vs Q E hr h => ?_)
  obtain ⟨v_thing, p_thing, rfl, h_thing, pre, k⟩ := h
  have hu := hr.units
  have hu1 := hu_of hr
  refine ⟨_, (pss_one (ps_ret (pe_and (pe_callB call_isi (by rfl) T.z_isinstance (by decide +kernel) (pa_cons (pv 0) (pa_cons (pe_bltn (v := .ty "tuple") (by rfl) T.z_tuple (by decide +kernel) rfl) pa_nil))) (pe_and (pe_cmpR op_eq (pe_callB call_len_seq (by rfl) T.z_len (by decide +kernel) (pa_cons (pv 0) pa_nil)) pe_int (nomark _)) (pe_one (pe_callB (cr_all rfl) (by rfl) T.z_all (by decide +kernel) (pa_cons (pe_lc (own := [("one", 1)]) (g := gName 1) (tt := tYes) rfl sc_is_pair.nd (pi_tup (pv 0)) (blkOk_by (own := [("one", 1)]) (N := ["thing", "one"]) (sc := defScope s_is_pair) (by decide +kernel)) (fun _ _ _ _ _ => pg_name (i := 1) sc_is_pair.nd rfl (Or.inl rfl)) (fun _ _ _ _ _ => pts_nil) (fun _ _ _ _ _ => (pe_and (pe_cal G_is_numberT (hr.mono (by decide)) (by rfl) (pa_cons (pv 1) pa_nil)) (pe_one (pe_cmpR op_gt (pv 1) pe_int (nomark _)))))) pa_nil))))))), ?_⟩
  refine r_ret (K := K) (a := pairT p_thing) ?_ (fun v_ret H1 e1 hh => k _ _ e1 hh)
  cases p_thing with
  | tup l => exact evr_is (evr_andV (evr_isiT (evr_var rfl h_thing) (kit_tuple _)) (fun _ => evr_andV (evr_eqI (evr_lenU (evr_as (a := Th.tup l) (a' := Tu.mk l) (evr_var rfl h_thing) th_tu)) (evr_int 2)) (fun _ => evr_all (evr_n (evn_lcU (f := posT) (evr_as (a := Th.tup l) (a' := Tu.mk l) (evr_var rfl h_thing) th_tu) (by have h : l.length ≤ 90000 := pre; omega) (fun _ => rfl) (fun nxc xc vxc Hcx ecx hmem hxc => (show EvR K _ _ _ (posT xc) from evr_andV (evr_call1 (evr_var rfl hxc) trivial) (fun c => evr_gt (evr_thV (evr_var rfl hxc) c) (evr_int 0))))))))) rfl
  | non => exact evr_is (evr_andV (y := true) (evr_isiT (evr_var rfl h_thing) (kit_tuple _)) (fun c => by cases c)) rfl
  | str _ => exact evr_is (evr_andV (y := true) (evr_isiT (evr_var rfl h_thing) (kit_tuple _)) (fun c => by cases c)) rfl
  | int _ => exact evr_is (evr_andV (y := true) (evr_isiT (evr_var rfl h_thing) (kit_tuple _)) (fun c => by cases c)) rfl
  | bl _ => exact evr_is (evr_andV (y := true) (evr_isiT (evr_var rfl h_thing) (kit_tuple _)) (fun c => by cases c)) rfl
  | lst _ => exact evr_is (evr_andV (y := true) (evr_isiT (evr_var rfl h_thing) (kit_tuple _)) (fun c => by cases c)) rfl
  | dct => exact evr_is (evr_andV (y := true) (evr_isiT (evr_var rfl h_thing) (kit_tuple _)) (fun c => by cases c)) rfl
set_option maxHeartbeats 4000000 in
theorem ok_is_rowT {f : Addr} {fd : FuncData} (F : Fun K "is_row" "is_row" s_is_row f fd) (T : Txt K mg CA CL CW CP CK CR CS CT) (G_is_numberT : Cal P w K mg base CX0 1 "is_number" ["thing"] (Fn1 K (α := Th) (β := Bool) (fun _ => True) numT)) : FnOk P w K mg base CX0 2 f fd ["thing"] (Fn1 K (α := Th) (β := Bool) BadR (fun _ => false)) := by
  refine F.ok sc_is_row (fun vs H Q E h => h.len) (fun cdv A outer s H vs Q E hr h => ?_)
  obtain ⟨v_thing, p_thing, rfl, h_thing, pre, k⟩ := h
  have hu := hr.units
  have hu1 := hu_of hr
  refine ⟨_, (pss_cons (ps_if (PW.pt (pw_or (pt_not (pt_val (pe_callB call_isi (by rfl) T.z_isinstance (by decide +kernel) (pa_cons (pv 0) (pa_cons (pe_bltn (v := .ty "list") (by rfl) T.z_list (by decide +kernel) rfl) pa_nil))))) (pw_or1 (pt_not (pt_chain op_le op_le pe_int (pe_callB call_len_seq (by rfl) T.z_len (by decide +kernel) (pa_cons (pv 0) pa_nil)) (pe_globI (by rfl) T.g_LONGEST)))))) (pss_one (ps_ret pe_bl)) pss_nil) (pss_cons (ps_if (pt_not (pt_val (pe_callB (cr_all rfl) (by rfl) T.z_all (by decide +kernel) (pa_cons (pe_lc (own := [("one", 1)]) (g := gName 1) (tt := tYes) rfl sc_is_row.nd (pi_list (pv 0)) (blkOk_by (own := [("one", 1)]) (N := ["thing", "one"]) (sc := defScope s_is_row) (by decide +kernel)) (fun _ _ _ _ _ => pg_name (i := 1) sc_is_row.nd rfl (Or.inl rfl)) (fun _ _ _ _ _ => pts_nil) (fun _ _ _ _ _ => (pe_and (pe_cal G_is_numberT (hr.mono (by decide)) (by rfl) (pa_cons (pv 1) pa_nil)) (pe_one (pe_cmpR op_gt (pv 1) pe_int (nomark _)))))) pa_nil)))) (pss_one (ps_ret pe_bl)) pss_nil)
    (pss_one (ps_ret (pe_or (pe_cmpR op_eq (pe_callB call_len_seq (by rfl) T.z_len (by decide +kernel) (pa_cons (pv 0) pa_nil)) pe_int (nomark _)) (pe_one (pe_cmpR op_gt (pe_ix ix_list (pv 0) (pe_un un_neg pe_int) (fun _ _ => rfl)) pe_int (nomark _)))))))), ?_⟩
  cases p_thing with
  | lst l =>
    have hz : l.length ≤ 90000 := pre.2
    have hp := pre.1
    rw [rowT_lst] at hp
    refine q_when (et_or (et_not (evt_B (evr_isiT (evr_var rfl h_thing) (kit_list _)))) (fun _ => (et_not (evt_test (evr_chain (g := (fun i j => decide (i ≤ j))) (g' := (fun i j => decide (i ≤ j))) (evr_int 1) (evr_lenL (evr_as (a := Th.lst l) (a' := l) (evr_var rfl h_thing) th_li)) (fun hch => (evr_int 1000))))))) (fun hb1 H1 e1 => ?_) (fun hb1 H1 e1 => ?_)
    · exact r_ret (K := K) (evr_bl false) (fun v_ret H2 e2 hh => k _ _ (e1.trans e2) hh)
    · have h_thing := rmono e1 h_thing
      have hb1 : (decide (1 ≤ (l.length : Int)) && decide ((l.length : Int) ≤ 1000)) = true := by
        have h : (!(decide (1 ≤ (l.length : Int)) && decide ((l.length : Int) ≤ 1000))) = false := hb1
        simpa using h
      refine q_when (et_not (evt_B (evr_all (evr_n (evn_lcL (f := posT) (evr_as (a := Th.lst l) (a' := l) (evr_var rfl h_thing) th_li) (by omega) (fun _ => rfl) (fun nxc xc vxc Hcx ecx hmem hxc => (show EvR K _ _ _ (posT xc) from evr_andV (evr_call1 (evr_var rfl hxc) trivial) (fun c => evr_gt (evr_thV (evr_var rfl hxc) c) (evr_int 0))))))))) (fun hb2 H2 e2 => ?_) (fun hb2 H2 e2 => ?_)
      · exact r_ret (K := K) (evr_bl false) (fun v_ret H3 e3 hh => k _ _ ((e1.trans e2).trans e3) hh)
      · have h_thing := rmono e2 h_thing
        have hb2 : ((l.map posT).all id) = true := by simpa using hb2
        rw [hb1, hb2, Bool.true_and, Bool.true_and] at hp
        have hne : l ≠ [] := fun c => by rw [c] at hb1; cases hb1
        have hl : l.getLast? = some (l.getLast?.getD .non) := by
          cases e : l.getLast? with
          | none => exact absurd (List.getLast?_eq_none_iff.mp e) hne
          | some x => rfl
        have hn : numT (l.getLast?.getD .non) = true := by
          rw [List.all_map, List.all_eq_true] at hb2
          have h : posT (l.getLast?.getD .non) = true := hb2 _ (List.mem_of_getLast? hl)
          unfold posT at h
          exact (Bool.and_eq_true_iff.mp h).1
        exact r_ret (K := K) (a := false) (evr_is (evr_orV (evr_eqI (evr_lenL (evr_as (a := Th.lst l) (a' := l) (evr_var rfl h_thing) th_li)) (evr_int 1)) (fun _ => evr_gt (evr_thV (evr_ixZ (evr_as (a := Th.lst l) (a' := l) (evr_var rfl h_thing) th_li) hl) hn) (evr_int 1))) hp) (fun v_ret H3 e3 hh => k _ _ ((e1.trans e2).trans e3) hh)
  | non => exact q_when (et_or (b := true) (et_not (evt_B (evr_isiT (evr_var rfl h_thing) (kit_list _)))) (fun c => by cases c)) (fun hb1 H1 e1 => r_ret (K := K) (evr_bl false) (fun v_ret H2 e2 hh => k _ _ (e1.trans e2) hh)) (fun hb => by cases hb)
  | str _ => exact q_when (et_or (b := true) (et_not (evt_B (evr_isiT (evr_var rfl h_thing) (kit_list _)))) (fun c => by cases c)) (fun hb1 H1 e1 => r_ret (K := K) (evr_bl false) (fun v_ret H2 e2 hh => k _ _ (e1.trans e2) hh)) (fun hb => by cases hb)
  | int _ => exact q_when (et_or (b := true) (et_not (evt_B (evr_isiT (evr_var rfl h_thing) (kit_list _)))) (fun c => by cases c)) (fun hb1 H1 e1 => r_ret (K := K) (evr_bl false) (fun v_ret H2 e2 hh => k _ _ (e1.trans e2) hh)) (fun hb => by cases hb)
  | bl _ => exact q_when (et_or (b := true) (et_not (evt_B (evr_isiT (evr_var rfl h_thing) (kit_list _)))) (fun c => by cases c)) (fun hb1 H1 e1 => r_ret (K := K) (evr_bl false) (fun v_ret H2 e2 hh => k _ _ (e1.trans e2) hh)) (fun hb => by cases hb)
  | tup _ => exact q_when (et_or (b := true) (et_not (evt_B (evr_isiT (evr_var rfl h_thing) (kit_list _)))) (fun c => by cases c)) (fun hb1 H1 e1 => r_ret (K := K) (evr_bl false) (fun v_ret H2 e2 hh => k _ _ (e1.trans e2) hh)) (fun hb => by cases hb)
  | dct => exact q_when (et_or (b := true) (et_not (evt_B (evr_isiT (evr_var rfl h_thing) (kit_list _)))) (fun c => by cases c)) (fun hb1 H1 e1 => r_ret (K := K) (evr_bl false) (fun v_ret H2 e2 hh => k _ _ (e1.trans e2) hh)) (fun hb => by cases hb)
set_option maxHeartbeats 4000000 in
theorem ok_asked_pairX {f : Addr} {fd : FuncData} (F : Fun K "asked_pair" "asked_pair" s_asked_pair f fd) (T : Txt K mg CA CL CW CP CK CR CS CT) (G_is_pairT : Cal P w K mg base CX0 2 "is_pair" ["thing"] (Fn1 K (α := Th) (β := Bool) Short pairT)) : FnOk P w K mg base (L2.CX P w) 3 f fd ["pair"] (Rf1 K (α := Th) BadP CP) := by
  refine F.okX sc_asked_pair (fun vs H Q E h => h.len) (fun cdv A outer s H vs Q E hr h => ?_)
  obtain ⟨v_pair, p_pair, rfl, h_pair, pre, k⟩ := h
  refine ⟨_, pss_one (ps_if (pt_not (pt_val (pe_cal G_is_pairT (hr.mono (by decide)) (by rfl) (pa_cons (pv 0) pa_nil)))) (pss_one (ps_raise rfl (takes_of rfl rfl rfl rfl) (pmk_own PySem.F.excBase_ValueError T.eP.x T.eP.g T.eP.k (raises_own T.eP.b T.eP.t) (by exact rfl)))) pss_nil), ?_⟩
  refine s_when (et_not (evt_B (evr_call1 (evr_var rfl h_pair) pre.2))) (fun hb H1 e1 => ?_) (fun hb H1 e1 => ?_)
  · exact k H1 e1
  · rw [pre.1] at hb; cases hb
set_option maxHeartbeats 4000000 in
theorem ok_asked_pairsX {f : Addr} {fd : FuncData} (F : Fun K "asked_pairs" "asked_pairs" s_asked_pairs f fd) (T : Txt K mg CA CL CW CP CK CR CS CT) (G_is_pairT : Cal P w K mg base CX0 2 "is_pair" ["thing"] (Fn1 K (α := Th) (β := Bool) Short pairT)) : FnOk P w K mg base (L2.CX P w) 3 f fd ["pairs"] (Rf1 K (α := Th) BadS CS) := by
  refine F.okX sc_asked_pairs (fun vs H Q E h => h.len) (fun cdv A outer s H vs Q E hr h => ?_)
  obtain ⟨v_pairs, p_pairs, rfl, h_pairs, pre, k⟩ := h
  have hu := hr.units
  have hu1 := hu_of hr
  refine ⟨_, (pss_one (ps_if (PW.pt (pw_or (pt_not (pt_val (pe_callB call_isi (by rfl) T.z_isinstance (by decide +kernel) (pa_cons (pv 0) (pa_cons (pe_bltn (v := .ty "list") (by rfl) T.z_list (by decide +kernel) rfl) pa_nil))))) (pw_or (pt_cmpR op_gt (pe_callB call_len_seq (by rfl) T.z_len (by decide +kernel) (pa_cons (pv 0) pa_nil)) (pe_globI (by rfl) T.g_MOST) (nomark _)) (pw_or1 (pt_not (pt_val (pe_callB (cr_all rfl) (by rfl) T.z_all (by decide +kernel) (pa_cons (pe_lc (own := [("pair", 1)]) (g := gName 1) (tt := tYes) rfl sc_asked_pairs.nd (pi_list (pv 0)) (blkOk_by (own := [("pair", 1)]) (N := ["pairs", "pair"]) (sc := defScope s_asked_pairs) (by decide +kernel)) (fun _ _ _ _ _ => pg_name (i := 1) sc_asked_pairs.nd rfl (Or.inl rfl)) (fun _ _ _ _ _ => pts_nil) (fun _ _ _ _ _ => (pe_cal G_is_pairT (hr.mono (by decide)) (by rfl) (pa_cons (pv 1) pa_nil)))) pa_nil)))))))) (pss_one (ps_raise rfl (takes_of rfl rfl rfl rfl) (pmk_own PySem.F.excBase_ValueError T.eS.x T.eS.g T.eS.k (raises_own T.eS.b T.eS.t) (by exact rfl)))) pss_nil)), ?_⟩
  cases p_pairs with
  | lst l =>
    have hz : l.length ≤ 90000 := pre.2.1
    have hp : (decide ((l.length : Int) ≤ 100) && ((l.map pairT).all id)) = false := pre.1
    refine s_when (et_or (et_not (evt_B (evr_isiT (evr_var rfl h_pairs) (kit_list _)))) (fun _ => (et_or (evt_test (evr_gt (evr_lenL (evr_as (a := Th.lst l) (a' := l) (evr_var rfl h_pairs) th_li)) (evr_int 100))) (fun _ => (et_not (evt_B (evr_all (evr_n (evn_lcL (f := pairT) (evr_as (a := Th.lst l) (a' := l) (evr_var rfl h_pairs) th_li) (by omega) (fun _ => rfl) (fun nxc xc vxc Hcx ecx hmem hxc => evr_call1 (evr_var rfl hxc) (pre.2.2 _ (List.mem_of_getElem? hmem))))))))))) ) (fun hb H1 e1 => ?_) (fun hb H1 e1 => ?_)
    · exact k H1 e1
    · exfalso
      have hb : (decide (100 < (l.length : Int)) || !((l.map pairT).all id)) = false := hb
      rw [Bool.or_eq_false_iff] at hb
      have h1 := of_decide_eq_false hb.1
      rw [decide_eq_true (show (l.length : Int) ≤ 100 by omega), Bool.true_and] at hp
      rw [hp] at hb
      exact Bool.noConfusion hb.2
  | non => exact s_when (et_or (b := true) (et_not (evt_B (evr_isiT (evr_var rfl h_pairs) (kit_list _)))) (fun c => by cases c)) (fun hb H1 e1 => k H1 e1) (fun hb => by cases hb)
  | str _ => exact s_when (et_or (b := true) (et_not (evt_B (evr_isiT (evr_var rfl h_pairs) (kit_list _)))) (fun c => by cases c)) (fun hb H1 e1 => k H1 e1) (fun hb => by cases hb)
  | int _ => exact s_when (et_or (b := true) (et_not (evt_B (evr_isiT (evr_var rfl h_pairs) (kit_list _)))) (fun c => by cases c)) (fun hb H1 e1 => k H1 e1) (fun hb => by cases hb)
  | bl _ => exact s_when (et_or (b := true) (et_not (evt_B (evr_isiT (evr_var rfl h_pairs) (kit_list _)))) (fun c => by cases c)) (fun hb H1 e1 => k H1 e1) (fun hb => by cases hb)
  | tup _ => exact s_when (et_or (b := true) (et_not (evt_B (evr_isiT (evr_var rfl h_pairs) (kit_list _)))) (fun c => by cases c)) (fun hb H1 e1 => k H1 e1) (fun hb => by cases hb)
  | dct => exact s_when (et_or (b := true) (et_not (evt_B (evr_isiT (evr_var rfl h_pairs) (kit_list _)))) (fun c => by cases c)) (fun hb H1 e1 => k H1 e1) (fun hb => by cases hb)
set_option maxHeartbeats 4000000 in
theorem ok_mostX {f : Addr} {fd : FuncData} (F : Fun K "most" "most" s_most f fd) (T : Txt K mg CA CL CW CP CK CR CS CT) (G_asked_pairX : CalX P w K mg base 3 "asked_pair" ["pair"] (Rf1 K (α := Th) BadP CP)) : FnOk P w K mg base (L2.CX P w) 4 f fd ["pair"] (Rf1 K (α := Th) BadP CP) := by
  refine F.okX sc_most (fun vs H Q E h => h.len) (fun cdv A outer s H vs Q E hr h => ?_)
  obtain ⟨v_pair, p_pair, rfl, h_pair, pre, k⟩ := h
  refine ⟨_, pss_cons (ps_expr (pe_calX G_asked_pairX (hr.mono (by decide)) (by rfl) (takes_of rfl rfl rfl rfl) (pa_cons (pv 0) pa_nil))) pss_never, ?_⟩
  exact rx_call1 (evr_var rfl h_pair) pre (fun H1 e1 => k H1 e1)
set_option maxHeartbeats 4000000 in
theorem ok_worthX {f : Addr} {fd : FuncData} (F : Fun K "worth" "worth" s_worth f fd) (T : Txt K mg CA CL CW CP CK CR CS CT) (G_asked_pairX : CalX P w K mg base 3 "asked_pair" ["pair"] (Rf1 K (α := Th) BadP CP)) : FnOk P w K mg base (L2.CX P w) 4 f fd ["pair"] (Rf1 K (α := Th) BadP CP) := by
  refine F.okX sc_worth (fun vs H Q E h => h.len) (fun cdv A outer s H vs Q E hr h => ?_)
  obtain ⟨v_pair, p_pair, rfl, h_pair, pre, k⟩ := h
  refine ⟨_, pss_cons (ps_expr (pe_calX G_asked_pairX (hr.mono (by decide)) (by rfl) (takes_of rfl rfl rfl rfl) (pa_cons (pv 0) pa_nil))) pss_never, ?_⟩
  exact rx_call1 (evr_var rfl h_pair) pre (fun H1 e1 => k H1 e1)
set_option maxHeartbeats 4000000 in
theorem ok_quotientsX {f : Addr} {fd : FuncData} (F : Fun K "quotients" "quotients" s_quotients f fd) (T : Txt K mg CA CL CW CP CK CR CS CT) (G_asked_pairX : CalX P w K mg base 3 "asked_pair" ["pair"] (Rf1 K (α := Th) BadP CP)) : FnOk P w K mg base (L2.CX P w) 4 f fd ["pair"] (Rf1 K (α := Th) BadP CP) := by
  refine F.okX sc_quotients (fun vs H Q E h => h.len) (fun cdv A outer s H vs Q E hr h => ?_)
  obtain ⟨v_pair, p_pair, rfl, h_pair, pre, k⟩ := h
  refine ⟨_, pss_cons (ps_expr (pe_calX G_asked_pairX (hr.mono (by decide)) (by rfl) (takes_of rfl rfl rfl rfl) (pa_cons (pv 0) pa_nil))) pss_never, ?_⟩
  exact rx_call1 (evr_var rfl h_pair) pre (fun H1 e1 => k H1 e1)
set_option maxHeartbeats 4000000 in
theorem ok_shortestX {f : Addr} {fd : FuncData} (F : Fun K "shortest" "shortest" s_shortest f fd) (T : Txt K mg CA CL CW CP CK CR CS CT) (G_asked_pairX : CalX P w K mg base 3 "asked_pair" ["pair"] (Rf1 K (α := Th) BadP CP)) : FnOk P w K mg base (L2.CX P w) 4 f fd ["pair"] (Rf1 K (α := Th) BadP CP) := by
  refine F.okX sc_shortest (fun vs H Q E h => h.len) (fun cdv A outer s H vs Q E hr h => ?_)
  obtain ⟨v_pair, p_pair, rfl, h_pair, pre, k⟩ := h
  refine ⟨_, pss_cons (ps_expr (pe_calX G_asked_pairX (hr.mono (by decide)) (by rfl) (takes_of rfl rfl rfl rfl) (pa_cons (pv 0) pa_nil))) pss_never, ?_⟩
  exact rx_call1 (evr_var rfl h_pair) pre (fun H1 e1 => k H1 e1)
set_option maxHeartbeats 4000000 in
theorem ok_longestX {f : Addr} {fd : FuncData} (F : Fun K "longest" "longest" s_longest f fd) (T : Txt K mg CA CL CW CP CK CR CS CT) (G_asked_pairX : CalX P w K mg base 3 "asked_pair" ["pair"] (Rf1 K (α := Th) BadP CP)) : FnOk P w K mg base (L2.CX P w) 4 f fd ["pair"] (Rf1 K (α := Th) BadP CP) := by
  refine F.okX sc_longest (fun vs H Q E h => h.len) (fun cdv A outer s H vs Q E hr h => ?_)
  obtain ⟨v_pair, p_pair, rfl, h_pair, pre, k⟩ := h
  refine ⟨_, pss_cons (ps_expr (pe_calX G_asked_pairX (hr.mono (by decide)) (by rfl) (takes_of rfl rfl rfl rfl) (pa_cons (pv 0) pa_nil))) pss_never, ?_⟩
  exact rx_call1 (evr_var rfl h_pair) pre (fun H1 e1 => k H1 e1)
set_option maxHeartbeats 4000000 in
theorem ok_toldX {f : Addr} {fd : FuncData} (F : Fun K "told" "told" s_told f fd) (T : Txt K mg CA CL CW CP CK CR CS CT) (G_asked_pairsX : CalX P w K mg base 3 "asked_pairs" ["pairs"] (Rf1 K (α := Th) BadS CS)) : FnOk P w K mg base (L2.CX P w) 4 f fd ["pairs"] (Rf1 K (α := Th) BadS CS) := by
  refine F.okX sc_told (fun vs H Q E h => h.len) (fun cdv A outer s H vs Q E hr h => ?_)
  obtain ⟨v_pairs, p_pairs, rfl, h_pairs, pre, k⟩ := h
  refine ⟨_, pss_cons (ps_expr (pe_calX G_asked_pairsX (hr.mono (by decide)) (by rfl) (takes_of rfl rfl rfl rfl) (pa_cons (pv 0) pa_nil))) pss_never, ?_⟩
  exact rx_call1 (evr_var rfl h_pairs) pre (fun H1 e1 => k H1 e1)
set_option maxHeartbeats 4000000 in
theorem ok_takenX {f : Addr} {fd : FuncData} (F : Fun K "taken" "taken" s_taken f fd) (T : Txt K mg CA CL CW CP CK CR CS CT) (G_asked_pairX : CalX P w K mg base 3 "asked_pair" ["pair"] (Rf1 K (α := Th) BadP CP)) : FnOk P w K mg base (L2.CX P w) 4 f fd ["pair", "times"] (Rf2 K (α := Th) (β := Int) (fun p _ => BadP p) CP) := by
  refine F.okX sc_taken (fun vs H Q E h => h.len) (fun cdv A outer s H vs Q E hr h => ?_)
  obtain ⟨v_pair, v_times, p_pair, p_times, rfl, h_pair, h_times, pre, k⟩ := h
  refine ⟨_, pss_cons (ps_expr (pe_calX G_asked_pairX (hr.mono (by decide)) (by rfl) (takes_of rfl rfl rfl rfl) (pa_cons (pv 0) pa_nil))) pss_never, ?_⟩
  exact rx_call1 (evr_var rfl h_pair) pre (fun H1 e1 => k H1 e1)
set_option maxHeartbeats 4000000 in
theorem ok_takenY {f : Addr} {fd : FuncData} (F : Fun K "taken" "taken" s_taken f fd) (T : Txt K mg CA CL CW CP CK CR CS CT) (G_asked_pair : Cal P w K mg base CX0 3 "asked_pair" ["pair"] (Fn1 K (α := (Int × Int)) (β := Unit) Pos (fun _ => ()))) (G_is_numberT : Cal P w K mg base CX0 1 "is_number" ["thing"] (Fn1 K (α := Th) (β := Bool) (fun _ => True) numT)) (G_most_of : Cal P w K mg base CX0 1 "most_of" ["pair"] (Fn1 K (α := (Int × Int)) (β := Int) Sm mostOf)) : FnOk P w K mg base (L2.CX P w) 4 f fd ["pair", "times"] (Rf2 K (α := Int × Int) (β := Th) (fun p t => Sm p ∧ takT p t = false) CK) := by
  refine F.okX sc_taken (fun vs H Q E h => h.len) (fun cdv A outer s H vs Q E hr h => ?_)
  obtain ⟨v_pair, v_times, p_pair, p_times, rfl, h_pair, h_times, pre, k⟩ := h
  refine ⟨_, pss_cons (ps_expr (pe_cal G_asked_pair (hr.mono (by decide)) (by rfl) (pa_cons (pv 0) pa_nil))) (pss_cons (ps_if (PW.pt (pw_or (pt_not (pt_val (pe_cal G_is_numberT (hr.mono (by decide)) (by rfl) (pa_cons (pv 1) pa_nil)))) (pw_or1 (pt_not (pt_chain op_le op_le pe_int (pv 1) (pe_cal G_most_of (hr.mono (by decide)) (by rfl) (pa_cons (pv 0) pa_nil))))))) (pss_one (ps_raise rfl (takes_of rfl rfl rfl rfl) (pmk_own PySem.F.excBase_ValueError T.eK.x T.eK.g T.eK.k (raises_own T.eK.b T.eK.t) (by exact rfl)))) pss_nil) pss_never), ?_⟩
  refine r_drop (K := K) (evr_call1 (evr_var rfl h_pair) pre.1.pos) (fun H1 e1 => ?_)
  have h_pair := rmono e1 h_pair
  have h_times := rmono e1 h_times
  refine q_when (et_or (et_not (evt_B (evr_call1 (evr_var rfl h_times) trivial))) (fun c => (et_not (evt_test (evr_chain (g := (fun i j => decide (i ≤ j))) (g' := (fun i j => decide (i ≤ j))) (evr_int 1) (evr_thV (evr_var rfl h_times) (num_of c)) (fun hch => (evr_call1 (evr_var rfl h_pair) pre.1))))))) (fun hb H2 e2 => ?_) (fun hb H2 e2 => ?_)
  · exact k H2 (e1.trans e2)
  · exfalso
    have hp := pre.2
    unfold takT at hp
    rw [Bool.or_eq_false_iff, Bool.not_eq_false', Bool.not_eq_false'] at hb
    rw [hb.1, hb.2] at hp
    cases hp
set_option maxHeartbeats 4000000 in
theorem ok_pair_ofX {f : Addr} {fd : FuncData} (F : Fun K "pair_of" "pair_of" s_pair_of f fd) (T : Txt K mg CA CL CW CP CK CR CS CT) (G_is_rowT : Cal P w K mg base CX0 2 "is_row" ["thing"] (Fn1 K (α := Th) (β := Bool) BadR (fun _ => false))) : FnOk P w K mg base (L2.CX P w) 3 f fd ["row", "common"] (Rf2 K (α := Th) (β := Int) (fun r _ => BadR r) CR) := by
  refine F.okX sc_pair_of (fun vs H Q E h => h.len) (fun cdv A outer s H vs Q E hr h => ?_)
  obtain ⟨v_row, v_common, p_row, p_common, rfl, h_row, h_common, pre, k⟩ := h
  refine ⟨_, pss_cons (ps_if (pt_not (pt_val (pe_cal G_is_rowT (hr.mono (by decide)) (by rfl) (pa_cons (pv 0) pa_nil)))) (pss_one (ps_raise rfl (takes_of rfl rfl rfl rfl) (pmk_own PySem.F.excBase_ValueError T.eR.x T.eR.g T.eR.k (raises_own T.eR.b T.eR.t) (by exact rfl)))) pss_nil) pss_never, ?_⟩
  refine q_when (et_not (evt_B (evr_call1 (evr_var rfl h_row) pre))) (fun hb H1 e1 => ?_) (fun hb H1 e1 => ?_)
  · exact k H1 e1
  · cases hb
set_option maxHeartbeats 4000000 in
theorem ok_pair_ofY {f : Addr} {fd : FuncData} (F : Fun K "pair_of" "pair_of" s_pair_of f fd) (T : Txt K mg CA CL CW CP CK CR CS CT) (G_is_row : Cal P w K mg base CX0 2 "is_row" ["thing"] (Fn1 K (α := (List Int)) (β := Bool) (fun r => r ≠ [] ∧ GoodRow r ∧ r.length ≤ 1000) (fun _ => true))) (G_is_numberT : Cal P w K mg base CX0 1 "is_number" ["thing"] (Fn1 K (α := Th) (β := Bool) (fun _ => True) numT)) : FnOk P w K mg base (L2.CX P w) 3 f fd ["row", "common"] (Rf2 K (α := List Int) (β := Th) (fun r c => (r ≠ [] ∧ GoodRow r ∧ r.length ≤ 1000) ∧ comT c = false) CR) := by
  refine F.okX sc_pair_of (fun vs H Q E h => h.len) (fun cdv A outer s H vs Q E hr h => ?_)
  obtain ⟨v_row, v_common, p_row, p_common, rfl, h_row, h_common, pre, k⟩ := h
  refine ⟨_, pss_cons (ps_if (pt_not (pt_val (pe_cal G_is_row (hr.mono (by decide)) (by rfl) (pa_cons (pv 0) pa_nil)))) pss_never pss_nil) (pss_cons (ps_if (PW.pt (pw_or (pt_not (pt_val (pe_cal G_is_numberT (hr.mono (by decide)) (by rfl) (pa_cons (pv 1) pa_nil)))) (pw_or1 (pt_cmpR op_lt (pv 1) pe_int (nomark _))))) (pss_one (ps_raise rfl (takes_of rfl rfl rfl rfl) (pmk_own PySem.F.excBase_ValueError T.eR.x T.eR.g T.eR.k (raises_own T.eR.b T.eR.t) (by exact rfl)))) pss_nil) pss_never), ?_⟩
  refine r_guard (et_not (evt_B (evr_call1 (evr_var rfl h_row) pre.1))) rfl (fun H1 e1 => ?_)
  have h_common := rmono e1 h_common
  refine q_when (et_or (et_not (evt_B (evr_call1 (evr_var rfl h_common) trivial))) (fun c => (evt_test (evr_lt (evr_thV (evr_var rfl h_common) (num_of c)) (evr_int 1))))) (fun hb H2 e2 => ?_) (fun hb H2 e2 => ?_)
  · exact k H2 (e1.trans e2)
  · exfalso
    have hp := pre.2
    unfold comT at hp
    rw [Bool.or_eq_false_iff, Bool.not_eq_false'] at hb
    rw [hb.1, hb.2] at hp
    cases hp
abbrev s_l_bad_pair : Stmt := top 35
theorem sc_l_bad_pair : FnScope ["_law_which", "_law_more", "_law_bad"] ["_law_which", "_law_more"] (defScope s_l_bad_pair) := ⟨rfl, rfl, rfl, by decide +kernel, rfl, by decide +kernel, by decide +kernel⟩
set_option maxHeartbeats 4000000 in
theorem ok_l_bad_pair {f : Addr} {fd : FuncData} (F : Fun K "_law_bad_pair" "_law_bad_pair" s_l_bad_pair f fd) (T : Txt K mg CA CL CW CP CK CR CS CT) : FnOk P w K mg base CX0 1 f fd ["_law_which", "_law_more"] (Fn2 K (α := Int) (β := Int) (γ := Th) (fun _ m => 0 ≤ m) badPair) := by
  refine F.ok sc_l_bad_pair (fun vs H Q E h => h.len) (fun cdv A outer s H vs Q E hr h => ?_)
  obtain ⟨v_which, v_more, p_which, p_more, rfl, h_which, h_more, pre, k⟩ := h
  have hu := hr.units
  have ex := Ex.refl H
  have hu1 := hu_of hr
  refine ⟨_, (pss_cons (ps_set (i := 2) sc_l_bad_pair.nd rfl (Or.inl rfl) (pe_lst (pa_cons pe_non (pa_cons (pe_tup pa_nil) (pa_cons (pe_tup (pa_cons pe_int pa_nil)) (pa_cons (pe_tup (pa_cons pe_int (pa_cons pe_int (pa_cons pe_int pa_nil)))) (pa_cons (pe_lst (pa_cons pe_int (pa_cons pe_int pa_nil))) (pa_cons pe_str (pa_cons pe_int (pa_cons pe_dnewK (pa_cons (pe_tup (pa_cons pe_int (pa_cons pe_int pa_nil))) (pa_cons (pe_tup (pa_cons pe_int (pa_cons pe_int pa_nil))) (pa_cons (pe_tup (pa_cons (pe_op op_sub (pe_un un_neg pe_int) (pv 1)) (pa_cons pe_int pa_nil))) (pa_cons (pe_tup (pa_cons pe_int (pa_cons (pe_op op_sub (pe_un un_neg pe_int) (pv 1)) pa_nil))) pa_nil)))))))))))))) (pss_cons (ps_set (i := 2) sc_l_bad_pair.nd rfl (Or.inl rfl) (pe_op op_cat (pv 2) (pe_lst (pa_cons (pe_tup (pa_cons pe_non (pa_cons pe_int pa_nil))) (pa_cons (pe_tup (pa_cons pe_int (pa_cons pe_str pa_nil))) (pa_cons (pe_tup (pa_cons pe_bl (pa_cons pe_int pa_nil))) (pa_cons (pe_tup (pa_cons pe_int (pa_cons pe_bl pa_nil))) (pa_cons (pe_tup (pa_cons pe_bl (pa_cons pe_int pa_nil))) (pa_cons (pe_tup (pa_cons (pe_lst (pa_cons pe_int pa_nil)) (pa_cons pe_int pa_nil))) (pa_cons (pe_tup (pa_cons pe_int (pa_cons (pe_tup (pa_cons pe_int pa_nil)) pa_nil))) (pa_cons (pe_tup (pa_cons (pv 1) (pa_cons pe_int pa_nil))) pa_nil))))))))))) (pss_one (ps_ret (pe_ix ix_list (pv 2) (pe_op op_mod (pv 0) pe_int) (fun _ _ => rfl)))))), ?_⟩
  refine r_asg (K := K) (evr_n (evn_list (els_cons (evr_thN evr_non) (els_cons (evr_thT els_nil (by show _ ≤ 100000; simp)) (els_cons (evr_thT (els_cons (evr_thI (evr_int 1)) els_nil) (by show _ ≤ 100000; simp)) (els_cons (evr_thT (els_cons (evr_thI (evr_int 1)) (els_cons (evr_thI (evr_int 2)) (els_cons (evr_thI (evr_int 3)) els_nil))) (by show _ ≤ 100000; simp)) (els_cons (evr_thL (els_cons (evr_thI (evr_int 1)) (els_cons (evr_thI (evr_int 2)) els_nil)) (by show _ ≤ 100000; simp)) (els_cons evr_thS (els_cons (evr_thI (evr_int 5)) (els_cons evr_thD (els_cons (evr_thT (els_cons (evr_thI (evr_int 0)) (els_cons (evr_thI (evr_int 1)) els_nil)) (by show _ ≤ 100000; simp)) (els_cons (evr_thT (els_cons (evr_thI (evr_int 1)) (els_cons (evr_thI (evr_int 0)) els_nil)) (by show _ ≤ 100000; simp)) (els_cons (evr_thT (els_cons (evr_thI (evr_sub (evr_neg (evr_int 1)) (evr_var rfl h_more))) (els_cons (evr_thI (evr_int 2)) els_nil)) (by show _ ≤ 100000; simp)) (els_cons (evr_thT (els_cons (evr_thI (evr_int 2)) (els_cons (evr_thI (evr_sub (evr_neg (evr_int 1)) (evr_var rfl h_more))) els_nil)) (by show _ ≤ 100000; simp)) els_nil)))))))))))) (by show _ ≤ 100000; simp))) (fun v_bad H1 e1 hh => ?_)
  have ex := ex.trans e1
  have h_which := rmono e1 h_which
  have h_more := rmono e1 h_more
  have h_bad := hh
  refine r_asg (K := K) (evr_n (evn_cat (evr_var rfl h_bad) (evr_n (evn_list (els_cons (evr_thT (els_cons (evr_thN evr_non) (els_cons (evr_thI (evr_int 1)) els_nil)) (by show _ ≤ 100000; simp)) (els_cons (evr_thT (els_cons (evr_thI (evr_int 1)) (els_cons evr_thS els_nil)) (by show _ ≤ 100000; simp)) (els_cons (evr_thT (els_cons (evr_thB (evr_bl true)) (els_cons (evr_thI (evr_int 2)) els_nil)) (by show _ ≤ 100000; simp)) (els_cons (evr_thT (els_cons (evr_thI (evr_int 1)) (els_cons (evr_thB (evr_bl true)) els_nil)) (by show _ ≤ 100000; simp)) (els_cons (evr_thT (els_cons (evr_thB (evr_bl false)) (els_cons (evr_thI (evr_int 3)) els_nil)) (by show _ ≤ 100000; simp)) (els_cons (evr_thT (els_cons (evr_thL (els_cons (evr_thI (evr_int 1)) els_nil) (by show _ ≤ 100000; simp)) (els_cons (evr_thI (evr_int 2)) els_nil)) (by show _ ≤ 100000; simp)) (els_cons (evr_thT (els_cons (evr_thI (evr_int 1)) (els_cons (evr_thT (els_cons (evr_thI (evr_int 2)) els_nil) (by show _ ≤ 100000; simp)) els_nil)) (by show _ ≤ 100000; simp)) (els_cons (evr_thT (els_cons (evr_thI (evr_var rfl h_more)) (els_cons (evr_thI (evr_int 0)) els_nil)) (by show _ ≤ 100000; simp)) els_nil)))))))) (by show _ ≤ 100000; simp))) (by show 12 + 8 ≤ 100000; decide))) (fun v_bad H1 e1 hh => ?_)
  have ex := ex.trans e1
  have h_which := rmono e1 h_which
  have h_more := rmono e1 h_more
  have h_bad := hh
  have h_bad : rep K H1 v_bad (badPairs p_more) := hh
  refine r_ret (K := K) (evr_ixL (evr_var rfl h_bad) (evr_mod (evr_var rfl h_which) (evr_int 20) (show (0 : Int) < 20 by decide)) (bp_rng p_which p_more).1 (bp_ix p_which p_more)) (fun v_ret H1 e1 hh => ?_)
  exact k _ _ (ex.trans e1) (hh)
abbrev s_l_with_pair : Stmt := top 36
theorem sc_l_with_pair : FnScope ["_law_door", "_law_pair"] ["_law_door", "_law_pair"] (defScope s_l_with_pair) := ⟨rfl, rfl, rfl, by decide +kernel, rfl, by decide +kernel, by decide +kernel⟩
set_option maxHeartbeats 4000000 in
theorem ok_l_with_pair {f : Addr} {fd : FuncData} (F : Fun K "_law_with_pair" "_law_with_pair" s_l_with_pair f fd) (T : Txt K mg CA CL CW CP CK CR CS CT) (G_mostX : CalX P w K mg base 4 "most" ["pair"] (Rf1 K (α := Th) BadP CP)) (G_worthX : CalX P w K mg base 4 "worth" ["pair"] (Rf1 K (α := Th) BadP CP)) (G_quotientsX : CalX P w K mg base 4 "quotients" ["pair"] (Rf1 K (α := Th) BadP CP)) (G_shortestX : CalX P w K mg base 4 "shortest" ["pair"] (Rf1 K (α := Th) BadP CP)) (G_longestX : CalX P w K mg base 4 "longest" ["pair"] (Rf1 K (α := Th) BadP CP)) (G_takenX : CalX P w K mg base 4 "taken" ["pair", "times"] (Rf2 K (α := Th) (β := Int) (fun p _ => BadP p) CP)) : FnOk P w K mg base (L2.CX P w) 5 f fd ["_law_door", "_law_pair"] (Rf2 K (α := Int) (β := Th) (fun _ p => BadP p) CP) := by
  refine F.okX sc_l_with_pair (fun vs H Q E h => h.len) (fun cdv A outer s H vs Q E hr h => ?_)
  obtain ⟨v_door, v_pair, p_door, p_pair, rfl, h_door, h_pair, pre, k⟩ := h
  refine ⟨_, pss_cons (ps_if (pt_cmpR op_lt (pv 0) pe_int (nomark _)) (pss_one (ps_ret (pe_ifExp (pt_cmpR op_eq (pv 0) pe_int (nomark _)) (pe_calX G_mostX (hr.mono (by decide)) (by rfl) (takes_of rfl rfl rfl rfl) (pa_cons (pv 1) pa_nil)) (pe_ifExp (pt_cmpR op_eq (pv 0) pe_int (nomark _)) (pe_calX G_worthX (hr.mono (by decide)) (by rfl) (takes_of rfl rfl rfl rfl) (pa_cons (pv 1) pa_nil)) (pe_calX G_takenX (hr.mono (by decide)) (by rfl) (takes_of rfl rfl rfl rfl) (pa_cons (pv 1) (pa_cons pe_int pa_nil))))))) pss_nil) (pss_one (ps_ret (pe_ifExp (pt_cmpR op_eq (pv 0) pe_int (nomark _)) (pe_calX G_quotientsX (hr.mono (by decide)) (by rfl) (takes_of rfl rfl rfl rfl) (pa_cons (pv 1) pa_nil)) (pe_ifExp (pt_cmpR op_eq (pv 0) pe_int (nomark _)) (pe_calX G_shortestX (hr.mono (by decide)) (by rfl) (takes_of rfl rfl rfl rfl) (pa_cons (pv 1) pa_nil)) (pe_calX G_longestX (hr.mono (by decide)) (by rfl) (takes_of rfl rfl rfl rfl) (pa_cons (pv 1) pa_nil)))))), ?_⟩
  refine q_when (evt_test (evr_lt (evr_var rfl h_door) (evr_int 3))) (fun hb H1 e1 => ?_) (fun hb H1 e1 => ?_)
  · have h_door := rmono e1 h_door
    refine x_if (evt_test (evr_eqI (evr_var rfl h_door) (evr_int 0))) (fun hb H2 e2 => rx_call1 (evr_var rfl (rmono (e1.trans e2) h_pair)) pre (fun H5 e5 => k H5 ((e1.trans e2).trans e5))) (fun hb H2 e2 => x_if (evt_test (evr_eqI (evr_var rfl (rmono e2 h_door)) (evr_int 1))) (fun hb H3 e3 => rx_call1 (evr_var rfl (rmono ((e1.trans e2).trans e3) h_pair)) pre (fun H5 e5 => k H5 (((e1.trans e2).trans e3).trans e5))) (fun hb H3 e3 => rx_call2 (evr_var rfl (rmono ((e1.trans e2).trans e3) h_pair)) (evr_int 0) pre (fun H5 e5 => k H5 (((e1.trans e2).trans e3).trans e5))))
  · have h_door := rmono e1 h_door
    refine x_if (evt_test (evr_eqI (evr_var rfl h_door) (evr_int 3))) (fun hb H2 e2 => rx_call1 (evr_var rfl (rmono (e1.trans e2) h_pair)) pre (fun H5 e5 => k H5 ((e1.trans e2).trans e5))) (fun hb H2 e2 => x_if (evt_test (evr_eqI (evr_var rfl (rmono e2 h_door)) (evr_int 4))) (fun hb H3 e3 => rx_call1 (evr_var rfl (rmono ((e1.trans e2).trans e3) h_pair)) pre (fun H5 e5 => k H5 (((e1.trans e2).trans e3).trans e5))) (fun hb H3 e3 => rx_call1 (evr_var rfl (rmono ((e1.trans e2).trans e3) h_pair)) pre (fun H5 e5 => k H5 (((e1.trans e2).trans e3).trans e5))))
abbrev s_l_bad_row : Stmt := top 37
theorem sc_l_bad_row : FnScope ["_law_which", "_law_more", "_law_bad"] ["_law_which", "_law_more"] (defScope s_l_bad_row) := ⟨rfl, rfl, rfl, by decide +kernel, rfl, by decide +kernel, by decide +kernel⟩
set_option maxHeartbeats 4000000 in
theorem ok_l_bad_row {f : Addr} {fd : FuncData} (F : Fun K "_law_bad_row" "_law_bad_row" s_l_bad_row f fd) (T : Txt K mg CA CL CW CP CK CR CS CT) : FnOk P w K mg base CX0 1 f fd ["_law_which", "_law_more"] (Fn2 K (α := Int) (β := Int) (γ := Th) (fun _ m => 0 ≤ m) badRow) := by
  refine F.ok sc_l_bad_row (fun vs H Q E h => h.len) (fun cdv A outer s H vs Q E hr h => ?_)
  obtain ⟨v_which, v_more, p_which, p_more, rfl, h_which, h_more, pre, k⟩ := h
  have hu := hr.units
  have ex := Ex.refl H
  have hu1 := hu_of hr
  refine ⟨_, (pss_cons (ps_set (i := 2) sc_l_bad_row.nd rfl (Or.inl rfl) (pe_lst (pa_cons pe_non (pa_cons (pe_tup (pa_cons pe_int (pa_cons pe_int pa_nil))) (pa_cons pe_str (pa_cons pe_dnewK (pa_cons pe_int (pa_cons (pe_lst pa_nil) (pa_cons (pe_lst (pa_cons pe_int (pa_cons pe_int pa_nil))) (pa_cons (pe_lst (pa_cons pe_int (pa_cons pe_int pa_nil))) (pa_cons (pe_lst (pa_cons pe_int pa_nil)) (pa_cons (pe_lst (pa_cons pe_int (pa_cons pe_int (pa_cons pe_int pa_nil)))) (pa_cons (pe_lst (pa_cons pe_int (pa_cons (pe_op op_sub (pe_un un_neg pe_int) (pv 1)) (pa_cons pe_int pa_nil)))) (pa_cons (pe_op op_cat (pe_op op_rep (pe_lst (pa_cons pe_int pa_nil)) pe_int) (pe_lst (pa_cons pe_int pa_nil))) pa_nil)))))))))))))) (pss_one (ps_ret (pe_ix ix_list (pe_op op_cat (pv 2) (pe_lst (pa_cons (pe_lst (pa_cons pe_non pa_nil)) (pa_cons (pe_lst (pa_cons pe_str pa_nil)) (pa_cons (pe_lst (pa_cons pe_bl pa_nil)) (pa_cons (pe_lst (pa_cons pe_int (pa_cons pe_bl (pa_cons pe_int pa_nil)))) (pa_cons (pe_lst (pa_cons (pe_lst (pa_cons pe_int pa_nil)) pa_nil)) pa_nil))))))) (pe_op op_mod (pv 0) pe_int) (fun _ _ => rfl))))), ?_⟩
  refine r_asg (K := K) (evr_n (evn_list (els_cons (evr_thN evr_non) (els_cons (evr_thT (els_cons (evr_thI (evr_int 1)) (els_cons (evr_thI (evr_int 2)) els_nil)) (by show _ ≤ 100000; simp)) (els_cons evr_thS (els_cons evr_thD (els_cons (evr_thI (evr_int 3)) (els_cons (evr_thL els_nil (by show _ ≤ 100000; simp)) (els_cons (evr_thL (els_cons (evr_thI (evr_int 1)) (els_cons (evr_thI (evr_int 1)) els_nil)) (by show _ ≤ 100000; simp)) (els_cons (evr_thL (els_cons (evr_thI (evr_int 2)) (els_cons (evr_thI (evr_int 1)) els_nil)) (by show _ ≤ 100000; simp)) (els_cons (evr_thL (els_cons (evr_thI (evr_int 0)) els_nil) (by show _ ≤ 100000; simp)) (els_cons (evr_thL (els_cons (evr_thI (evr_int 1)) (els_cons (evr_thI (evr_int 0)) (els_cons (evr_thI (evr_int 2)) els_nil))) (by show _ ≤ 100000; simp)) (els_cons (evr_thL (els_cons (evr_thI (evr_int 2)) (els_cons (evr_thI (evr_sub (evr_neg (evr_int 1)) (evr_var rfl h_more))) (els_cons (evr_thI (evr_int 2)) els_nil))) (by show _ ≤ 100000; simp)) (els_cons (evr_thLI (evr_n (evn_cat (evr_n (evn_rep (evr_n (evn_list (els_cons (evr_int 1) els_nil) (by show _ ≤ 100000; simp))) (evr_int 1000) (by decide) (by decide))) (evr_n (evn_list (els_cons (evr_int 2) els_nil) (by show _ ≤ 100000; simp))) (by rw [ones_len]; decide)))) els_nil)))))))))))) (by show _ ≤ 100000; simp))) (fun v_bad H1 e1 hh => ?_)
  have ex := ex.trans e1
  have h_which := rmono e1 h_which
  have h_more := rmono e1 h_more
  have h_bad := hh
  have h_bad : rep K H1 v_bad (badR0 p_more) := hh
  refine r_ret (K := K) (evr_ixL (evr_n (evn_cat (evr_var rfl h_bad) (evr_n (evn_list (els_cons (evr_thL (els_cons (evr_thN evr_non) els_nil) (by show _ ≤ 100000; simp)) (els_cons (evr_thL (els_cons evr_thS els_nil) (by show _ ≤ 100000; simp)) (els_cons (evr_thL (els_cons (evr_thB (evr_bl true)) els_nil) (by show _ ≤ 100000; simp)) (els_cons (evr_thL (els_cons (evr_thI (evr_int 2)) (els_cons (evr_thB (evr_bl true)) (els_cons (evr_thI (evr_int 2)) els_nil))) (by show _ ≤ 100000; simp)) (els_cons (evr_thL (els_cons (evr_thL (els_cons (evr_thI (evr_int 2)) els_nil) (by show _ ≤ 100000; simp)) els_nil) (by show _ ≤ 100000; simp)) els_nil))))) (by show _ ≤ 100000; simp))) (by show 12 + 5 ≤ 100000; decide))) (evr_mod (evr_var rfl h_which) (evr_int 17) (show (0 : Int) < 17 by decide)) (br_rng p_which p_more).1 (br_ix p_which p_more)) (fun v_ret H1 e1 hh => ?_)
  exact k _ _ (ex.trans e1) (hh)
abbrev s_l_told : Stmt := top 38
theorem sc_l_told : FnScope ["_law_kind", "_law_which", "_law_more", "_law_strange", "_law_pair", "_law_beyond", "_law_pairs", "error", "_law_found", "_law_at"] ["_law_kind", "_law_which", "_law_more"] (defScope s_l_told) := ⟨rfl, rfl, rfl, by decide +kernel, rfl, by decide +kernel, by decide +kernel⟩
set_option maxHeartbeats 4000000 in
theorem ok_l_told {f : Addr} {fd : FuncData} (F : Fun K "_law_told" "_law_told" s_l_told f fd) (T : Txt K mg CA CL CW CP CK CR CS CT) (G_l_bad_pair : Cal P w K mg base CX0 1 "_law_bad_pair" ["_law_which", "_law_more"] (Fn2 K (α := Int) (β := Int) (γ := Th) (fun _ m => 0 ≤ m) badPair)) (G_l_bad_row : Cal P w K mg base CX0 1 "_law_bad_row" ["_law_which", "_law_more"] (Fn2 K (α := Int) (β := Int) (γ := Th) (fun _ m => 0 ≤ m) badRow)) (G_l_with_pair : CalX P w K mg base 5 "_law_with_pair" ["_law_door", "_law_pair"] (Rf2 K (α := Int) (β := Th) (fun _ p => BadP p) CP)) (G_takenY : CalX P w K mg base 4 "taken" ["pair", "times"] (Rf2 K (α := Int × Int) (β := Th) (fun p t => Sm p ∧ takT p t = false) CK)) (G_pair_ofX : CalX P w K mg base 3 "pair_of" ["row", "common"] (Rf2 K (α := Th) (β := Int) (fun r _ => BadR r) CR)) (G_pair_ofY : CalX P w K mg base 3 "pair_of" ["row", "common"] (Rf2 K (α := List Int) (β := Th) (fun r c => (r ≠ [] ∧ GoodRow r ∧ r.length ≤ 1000) ∧ comT c = false) CR)) (G_toldX : CalX P w K mg base 4 "told" ["pairs"] (Rf1 K (α := Th) BadS CS)) : FnOk P w K mg base CX0 6 f fd ["_law_kind", "_law_which", "_law_more"] (Fn3 K (α := Int) (β := Int) (γ := Int) (δ := (List Bool)) (fun k w m => (0 ≤ k ∧ k < 4) ∧ 0 ≤ w ∧ 0 ≤ m ∧ m < 1000) (fun k _ _ => toldT k)) := by
  refine F.ok sc_l_told (fun vs H Q E h => h.len) (fun cdv A outer s H vs Q E hr h => ?_)
  obtain ⟨v_kind, v_which, v_more, p_kind, p_which, p_more, rfl, h_kind, h_which, h_more, pre, k⟩ := h
  have hu := hr.units
  have ex := Ex.refl H
  have hu1 := hu_of hr
  refine ⟨_, (pss_cons (ps_set (i := 3) sc_l_told.nd rfl (Or.inl rfl) (pe_lst (pa_cons pe_non (pa_cons pe_str (pa_cons pe_bl (pa_cons pe_bl (pa_cons (pe_lst (pa_cons pe_int pa_nil)) (pa_cons (pe_tup (pa_cons pe_int pa_nil)) (pa_cons pe_dnewK (pa_cons pe_int (pa_cons (pe_op op_sub (pe_un un_neg pe_int) (pv 2)) pa_nil))))))))))) (pss_cons (ps_try_as (i := 7) (Wout := fun _ _ _ _ => False) rfl rfl sc_l_told.nd rfl rfl ⟨rfl, by decide, Or.inl T.gT⟩ takes0 (fun W pn xe tk _ => (pss_one (ps_if (pt_cmpR op_eq (pv 0) pe_int (nomark _)) (pss_one (ps_expr (pe_calX G_l_with_pair (hr.mono (by decide)) (by rfl) tk (pa_cons (pe_op op_mod (pe_op op_fdivX (pv 1) pe_int) pe_int) (pa_cons (pe_cal G_l_bad_pair (hr.mono (by decide)) (by rfl) (pa_cons (pv 1) (pa_cons (pv 2) pa_nil))) pa_nil))))) (pss_one (ps_if (pt_cmpR op_eq (pv 0) pe_int (nomark _)) (pss_cons (ps_set (i := 4) sc_l_told.nd rfl (Or.inl rfl) (pe_ix (show IxR _ (rIxL K) from ix_list) (pe_lst (pa_cons (pe_tup (pa_cons pe_int (pa_cons pe_int pa_nil))) (pa_cons (pe_tup (pa_cons pe_int (pa_cons pe_int pa_nil))) (pa_cons (pe_tup (pa_cons pe_int (pa_cons pe_int pa_nil))) (pa_cons (pe_tup (pa_cons pe_int (pa_cons (pe_op op_add pe_int (pv 2)) pa_nil))) (pa_cons (pe_tup (pa_cons pe_int (pa_cons pe_int pa_nil))) pa_nil)))))) (pe_op op_mod (pe_op op_fdivX (pv 1) pe_int) pe_int) (fun _ _ => rfl))) (pss_cons (ps_set (i := 5) sc_l_told.nd rfl (Or.inl rfl) (pe_op op_add (pe_op op_add (pe_ix (show IxR _ (rIxT K) from ix_tup) (pe_tup (pa_cons pe_int (pa_cons pe_int (pa_cons pe_int (pa_cons (pe_op op_add pe_int (pv 2)) (pa_cons pe_int pa_nil)))))) (pe_op op_mod (pe_op op_fdivX (pv 1) pe_int) pe_int) (fun _ _ => rfl)) pe_int) (pe_op op_mulX (pe_op op_mod (pe_op op_fdivX (pv 1) pe_int) pe_int) (pv 2)))) (pss_one (ps_expr (pe_calX G_takenY (hr.mono (by decide)) (by rfl) tk (pa_cons (pv 4) (pa_cons (pe_ix (show IxR _ (rIxL K) from ix_list) (pe_op op_cat (pv 3) (pe_lst (pa_cons (pv 5) pa_nil))) (pe_op op_mod (pv 1) pe_int) (fun _ _ => rfl)) pa_nil))))))) (pss_one (ps_if (PW.pt (pw_and (pt_cmpR op_eq (pv 0) pe_int (nomark _)) (pw_and1 (pt_cmpR op_gt (pe_op op_mod (pv 1) pe_int) pe_int (nomark _))))) (pss_one (ps_expr (pe_calX G_pair_ofX (hr.mono (by decide)) (by rfl) tk (pa_cons (pe_cal G_l_bad_row (hr.mono (by decide)) (by rfl) (pa_cons (pe_op op_fdivX (pv 1) pe_int) (pa_cons (pv 2) pa_nil))) (pa_cons (pe_op op_add pe_int (pv 2)) pa_nil))))) (pss_one (ps_if (pt_cmpR op_eq (pv 0) pe_int (nomark _)) (pss_one (ps_expr (pe_calX G_pair_ofY (hr.mono (by decide)) (by rfl) tk (pa_cons (pe_lst (pa_cons (pe_op op_add pe_int (pv 2)) (pa_cons pe_int pa_nil))) (pa_cons (pe_ix (show IxR _ (rIxL K) from ix_list) (pv 3) (pe_op op_mod (pe_op op_fdivX (pv 1) pe_int) pe_int) (fun _ _ => rfl)) pa_nil))))) (pss_one (ps_if (pt_cmpR op_eq (pe_op op_mod (pv 1) pe_int) pe_int (nomark _)) (pss_one (ps_expr (pe_calX G_toldX (hr.mono (by decide)) (by rfl) tk (pa_cons (pe_ix (show IxR _ (rIxL K) from ix_list) (pe_lst (pa_cons pe_non (pa_cons (pe_tup (pa_cons (pe_tup (pa_cons pe_int (pa_cons pe_int pa_nil))) pa_nil)) (pa_cons pe_str (pa_cons pe_dnewK (pa_cons pe_int (pa_cons (pe_tup (pa_cons pe_int (pa_cons pe_int pa_nil))) (pa_cons (pe_lst (pa_cons pe_int (pa_cons pe_int pa_nil))) (pa_cons (pe_op op_rep (pe_lst (pa_cons (pe_tup (pa_cons pe_int (pa_cons pe_int pa_nil))) pa_nil)) pe_int) (pa_cons (pe_lst (pa_cons (pe_tup (pa_cons pe_int (pa_cons pe_int pa_nil))) (pa_cons (pe_lst (pa_cons pe_int (pa_cons pe_int pa_nil))) pa_nil))) pa_nil)))))))))) (pe_op op_mod (pe_op op_fdivX (pv 1) pe_int) pe_int) (fun _ _ => rfl)) pa_nil)))) (pss_cons (ps_setLc (i := 6) (own := [("_law_at", 9)]) (g := gName 9) (tt := tYes) rfl sc_l_told.nd rfl rfl (sw_true rfl rfl rfl (by decide +kernel)) (pi_range1 rfl T.z_range (pa_cons (pe_op op_add pe_int (pe_op op_mod (pv 2) pe_int)) pa_nil)) (blkOk_by (own := [("_law_at", 9)]) (N := ["_law_kind", "_law_which", "_law_more", "_law_strange", "_law_pair", "_law_beyond", "_law_pairs", "error", "_law_found", "_law_at"]) (sc := defScope s_l_told) (by decide +kernel)) (fun _ _ _ _ _ => pg_name (i := 9) sc_l_told.nd rfl (Or.inl rfl)) (fun _ _ _ _ _ => pts_nil) (fun _ _ _ _ _ => (pe_tup (pa_cons (pe_op op_add pe_int (pv 9)) (pa_cons (pe_op op_add pe_int (pv 2)) pa_nil))))) (pss_cons (ps_asg (pe_cal G_l_bad_pair (hr.mono (by decide)) (by rfl) (pa_cons (pe_op op_fdivX (pv 1) pe_int) (pa_cons (pv 2) pa_nil))) (pg_sub (pv 6) (pe_op op_mod (pe_op op_fdivX (pv 1) pe_int) (pe_callB (show CallR _ (.builtin "len") (rLenS K) from call_len_seq) (by rfl) T.z_len (by decide +kernel) (pa_cons (pv 6) pa_nil))) set_list)) (pss_one (ps_expr (pe_calX G_toldX (hr.mono (by decide)) (by rfl) tk (pa_cons (pv 6) pa_nil))))))))))))))))) (fun a oe cls d pn hz hf => (pss_cons (ps_set (i := 8) sc_l_told.nd rfl (Or.inl rfl) (pe_lst (pa_cons (pe_callB (call_isX hz hf) (by rfl) T.z_isinstance (by decide +kernel) (pa_cons (pv 7) (pa_cons (pe_glob (v := .ref CP) (by rfl) T.eP.g rfl) pa_nil))) (pa_cons (pe_callB (call_isX hz hf) (by rfl) T.z_isinstance (by decide +kernel) (pa_cons (pv 7) (pa_cons (pe_glob (v := .ref CK) (by rfl) T.eK.g rfl) pa_nil))) (pa_cons (pe_callB (call_isX hz hf) (by rfl) T.z_isinstance (by decide +kernel) (pa_cons (pv 7) (pa_cons (pe_glob (v := .ref CR) (by rfl) T.eR.g rfl) pa_nil))) pa_nil))))) (pss_one (ps_ret (pe_op op_cat (pv 8) (pe_lst (pa_cons (pe_callB (call_isX hz hf) (by rfl) T.z_isinstance (by decide +kernel) (pa_cons (pv 7) (pa_cons (pe_glob (v := .ref CS) (by rfl) T.eS.g rfl) pa_nil))) (pa_cons (pe_callB (call_isX hz hf) (by rfl) T.z_isinstance (by decide +kernel) (pa_cons (pv 7) (pa_cons (pe_bltn (v := .ty "ValueError") (by rfl) T.z_ValueError (by decide +kernel) rfl) pa_nil))) pa_nil))))))))) (pss_one (ps_ret (pe_lst pa_nil))))), ?_⟩
  refine r_asg (K := K) (evr_n (evn_list (els_cons (evr_thN evr_non) (els_cons evr_thS (els_cons (evr_thB (evr_bl true)) (els_cons (evr_thB (evr_bl false)) (els_cons (evr_thL (els_cons (evr_thI (evr_int 1)) els_nil) (by show _ ≤ 100000; simp)) (els_cons (evr_thT (els_cons (evr_thI (evr_int 1)) els_nil) (by show _ ≤ 100000; simp)) (els_cons evr_thD (els_cons (evr_thI (evr_int 0)) (els_cons (evr_thI (evr_sub (evr_neg (evr_int 1)) (evr_var rfl h_more))) els_nil))))))))) (by show _ ≤ 100000; simp))) (fun v_strange H1 e1 hh => ?_)
  have ex := ex.trans e1
  have h_kind := rmono e1 h_kind
  have h_which := rmono e1 h_which
  have h_more := rmono e1 h_more
  have h_strange := hh
  have h_strange : rep K H1 v_strange (strange p_more) := hh
  refine s_if (evt_test (evr_eqI (evr_var rfl h_kind) (evr_int 0))) (fun hb1 H1 e1 => ?_) (fun hb1 H1 e1 => ?_)
  · have ex := ex.trans e1
    have h_kind := rmono e1 h_kind
    have h_which := rmono e1 h_which
    have h_more := rmono e1 h_more
    have h_strange := rmono e1 h_strange
    have hk0 := of_decide_eq_true hb1
    refine rx_call2 (evr_mod (evr_div (evr_var rfl h_which) (evr_int 20) (div_small (by decide) (by decide))) (evr_int 6) (show (0 : Int) < 6 by decide)) (evr_call2 (evr_var rfl h_which) (evr_var rfl h_more) pre.2.2.1) (bp_ok _ pre.2.2.1).1 (fun H7 e7 => ?_)
    refine was_ok T.eP.e (fun a_err ha_err => ?_)
    refine r_asg (K := K) (evr_list (els_cons (evr_isX rfl T.eP.c T.kPP) (els_cons (evr_isX rfl T.eP.c T.kPK) (els_cons (evr_isX rfl T.eP.c T.kPR) els_nil))) (by show _ ≤ 100000; simp)) (fun v_found H8 e8 h_found => ?_)
    refine r_ret (K := K) (evr_n (evn_cat (evr_var rfl h_found) (evr_n (evn_list (els_cons (evr_isX rfl T.eP.c T.kPS) (els_cons (evr_isV rfl T.eP.c T.eP.v) els_nil)) (by show _ ≤ 100000; simp))) (by decide))) (fun v_ret H9 e9 hh => ?_)
    exact k _ _ (ex.trans (e7.trans (e8.trans e9))) (rep_eq hh (told_0 hk0))
  · have ex := ex.trans e1
    have h_kind := rmono e1 h_kind
    have h_which := rmono e1 h_which
    have h_more := rmono e1 h_more
    have h_strange := rmono e1 h_strange
    have hk0 := of_decide_eq_false hb1
    refine s_if (evt_test (evr_eqI (evr_var rfl h_kind) (evr_int 1))) (fun hb2 H1 e1 => ?_) (fun hb2 H1 e1 => ?_)
    · have ex := ex.trans e1
      have h_kind := rmono e1 h_kind
      have h_which := rmono e1 h_which
      have h_more := rmono e1 h_more
      have h_strange := rmono e1 h_strange
      have hk1 := of_decide_eq_true hb2
      refine r_asg (K := K) (evr_ixL (evr_n (evn_list (els_cons (evr_tup (evr_int 5) (evr_int 18)) (els_cons (evr_tup (evr_int 18) (evr_int 5)) (els_cons (evr_tup (evr_int 7) (evr_int 7)) (els_cons (evr_tup (evr_int 1) (evr_add (evr_int 4) (evr_var rfl h_more))) (els_cons (evr_tup (evr_int 15) (evr_int 5)) els_nil))))) (by show _ ≤ 100000; simp))) (evr_mod (evr_div (evr_var rfl h_which) (evr_int 10) (div_small (by decide) (by decide))) (evr_int 5) (show (0 : Int) < 5 by decide)) (k6_r5 p_which).1 (k6_pix p_which p_more)) (fun v_pair H1 e1 hh => ?_)
      have ex := ex.trans e1
      have h_kind := rmono e1 h_kind
      have h_which := rmono e1 h_which
      have h_more := rmono e1 h_more
      have h_strange := rmono e1 h_strange
      have h_pair := hh
      refine r_asg (K := K) (evr_add (evr_add (evr_ixU (evr_tu (els_cons (evr_int 3) (els_cons (evr_int 3) (els_cons (evr_int 0) (els_cons (evr_add (evr_int 3) (evr_var rfl h_more)) (els_cons (evr_int 2) els_nil))))) (by show _ ≤ 100000; simp)) (evr_mod (evr_div (evr_var rfl h_which) (evr_int 10) (div_small (by decide) (by decide))) (evr_int 5) (show (0 : Int) < 5 by decide)) (k6_r5 p_which).1 (k6_bix p_which p_more)) (evr_int 1)) (evr_mul (evr_mod (evr_div (evr_var rfl h_which) (evr_int 50) (div_small (by decide) (by decide))) (evr_int 2) (show (0 : Int) < 2 by decide)) (evr_var rfl h_more) (k6_mul pre.2.2.1 pre.2.2.2))) (fun v_beyond H1 e1 hh => ?_)
      have ex := ex.trans e1
      have h_kind := rmono e1 h_kind
      have h_which := rmono e1 h_which
      have h_more := rmono e1 h_more
      have h_strange := rmono e1 h_strange
      have h_pair := rmono e1 h_pair
      have h_beyond := hh
      have h_beyond : rep K H1 v_beyond (k6Beyond p_which p_more) := hh
      refine rx_call2 (evr_var rfl h_pair) (evr_ixL (evr_n (evn_cat (evr_var rfl h_strange) (evr_n (evn_list (els_cons (evr_thI (evr_var rfl h_beyond)) els_nil) (by show _ ≤ 100000; simp))) (by show 9 + 1 ≤ 100000; decide))) (evr_mod (evr_var rfl h_which) (evr_int 10) (show (0 : Int) < 10 by decide)) (k6_r10 p_which).1 (k6_tix p_which p_more)) ⟨(k6_most pre.2.2.1 pre.2.2.2).1, k6_tak pre.2.2.1 pre.2.2.2⟩ (fun H7 e7 => ?_)
      refine was_ok T.eK.e (fun a_err ha_err => ?_)
      refine r_asg (K := K) (evr_list (els_cons (evr_isX rfl T.eK.c T.kKP) (els_cons (evr_isX rfl T.eK.c T.kKK) (els_cons (evr_isX rfl T.eK.c T.kKR) els_nil))) (by show _ ≤ 100000; simp)) (fun v_found H8 e8 h_found => ?_)
      refine r_ret (K := K) (evr_n (evn_cat (evr_var rfl h_found) (evr_n (evn_list (els_cons (evr_isX rfl T.eK.c T.kKS) (els_cons (evr_isV rfl T.eK.c T.eK.v) els_nil)) (by show _ ≤ 100000; simp))) (by decide))) (fun v_ret H9 e9 hh => ?_)
      exact k _ _ (ex.trans (e7.trans (e8.trans e9))) (rep_eq hh (told_1 hk1))
    · have ex := ex.trans e1
      have h_kind := rmono e1 h_kind
      have h_which := rmono e1 h_which
      have h_more := rmono e1 h_more
      have h_strange := rmono e1 h_strange
      have hk1 := of_decide_eq_false hb2
      refine s_if (et_and (evt_test (evr_eqI (evr_var rfl h_kind) (evr_int 2))) (fun hbo => (evt_test (evr_gt (evr_mod (evr_var rfl h_which) (evr_int 3) (show (0 : Int) < 3 by decide)) (evr_int 0))))) (fun hb3 H1 e1 => ?_) (fun hb3 H1 e1 => ?_)
      · have ex := ex.trans e1
        have h_kind := rmono e1 h_kind
        have h_which := rmono e1 h_which
        have h_more := rmono e1 h_more
        have h_strange := rmono e1 h_strange
        have hk2 := (and_of hb3).1
        refine rx_call2 (evr_call2 (evr_div (evr_var rfl h_which) (evr_int 3) (div_small (by decide) (by decide))) (evr_var rfl h_more) pre.2.2.1) (evr_add (evr_int 1) (evr_var rfl h_more)) (br_ok _ pre.2.2.1) (fun H7 e7 => ?_)
        refine was_ok T.eR.e (fun a_err ha_err => ?_)
        refine r_asg (K := K) (evr_list (els_cons (evr_isX rfl T.eR.c T.kRP) (els_cons (evr_isX rfl T.eR.c T.kRK) (els_cons (evr_isX rfl T.eR.c T.kRR) els_nil))) (by show _ ≤ 100000; simp)) (fun v_found H8 e8 h_found => ?_)
        refine r_ret (K := K) (evr_n (evn_cat (evr_var rfl h_found) (evr_n (evn_list (els_cons (evr_isX rfl T.eR.c T.kRS) (els_cons (evr_isV rfl T.eR.c T.eR.v) els_nil)) (by show _ ≤ 100000; simp))) (by decide))) (fun v_ret H9 e9 hh => ?_)
        exact k _ _ (ex.trans (e7.trans (e8.trans e9))) (rep_eq hh (told_2 hk2))
      · have ex := ex.trans e1
        have h_kind := rmono e1 h_kind
        have h_which := rmono e1 h_which
        have h_more := rmono e1 h_more
        have h_strange := rmono e1 h_strange
        refine s_if (evt_test (evr_eqI (evr_var rfl h_kind) (evr_int 2))) (fun hb4 H1 e1 => ?_) (fun hb4 H1 e1 => ?_)
        · have ex := ex.trans e1
          have h_kind := rmono e1 h_kind
          have h_which := rmono e1 h_which
          have h_more := rmono e1 h_more
          have h_strange := rmono e1 h_strange
          have hk2 := of_decide_eq_true hb4
          refine rx_call2 (evr_n (evn_list (els_cons (evr_add (evr_int 1) (evr_var rfl h_more)) (els_cons (evr_int 2) els_nil)) (by show _ ≤ 100000; simp))) (evr_ixL (evr_var rfl h_strange) (evr_mod (evr_div (evr_var rfl h_which) (evr_int 3) (div_small (by decide) (by decide))) (evr_int 9) (show (0 : Int) < 9 by decide)) (Int.emod_nonneg _ (by decide)) (k6_cix p_which p_more)) ⟨k6_good pre.2.2.1, k6_com pre.2.2.1⟩ (fun H7 e7 => ?_)
          refine was_ok T.eR.e (fun a_err ha_err => ?_)
          refine r_asg (K := K) (evr_list (els_cons (evr_isX rfl T.eR.c T.kRP) (els_cons (evr_isX rfl T.eR.c T.kRK) (els_cons (evr_isX rfl T.eR.c T.kRR) els_nil))) (by show _ ≤ 100000; simp)) (fun v_found H8 e8 h_found => ?_)
          refine r_ret (K := K) (evr_n (evn_cat (evr_var rfl h_found) (evr_n (evn_list (els_cons (evr_isX rfl T.eR.c T.kRS) (els_cons (evr_isV rfl T.eR.c T.eR.v) els_nil)) (by show _ ≤ 100000; simp))) (by decide))) (fun v_ret H9 e9 hh => ?_)
          exact k _ _ (ex.trans (e7.trans (e8.trans e9))) (rep_eq hh (told_2 hk2))
        · have ex := ex.trans e1
          have h_kind := rmono e1 h_kind
          have h_which := rmono e1 h_which
          have h_more := rmono e1 h_more
          have h_strange := rmono e1 h_strange
          have hk2 := of_decide_eq_false hb4
          have hk3 : p_kind = 3 := by have := pre.1; omega
          refine s_if (evt_test (evr_eqI (evr_mod (evr_var rfl h_which) (evr_int 2) (show (0 : Int) < 2 by decide)) (evr_int 0))) (fun hb5 H1 e1 => ?_) (fun hb5 H1 e1 => ?_)
          · have ex := ex.trans e1
            have h_kind := rmono e1 h_kind
            have h_which := rmono e1 h_which
            have h_more := rmono e1 h_more
            have h_strange := rmono e1 h_strange
            refine rx_call1 (evr_ixL (evr_n (evn_list (els_cons (evr_thN evr_non) (els_cons (evr_thT (els_cons (evr_thT (els_cons (evr_thI (evr_int 1)) (els_cons (evr_thI (evr_int 2)) els_nil)) (by show _ ≤ 100000; simp)) els_nil) (by show _ ≤ 100000; simp)) (els_cons evr_thS (els_cons evr_thD (els_cons (evr_thI (evr_int 5)) (els_cons (evr_thT (els_cons (evr_thI (evr_int 1)) (els_cons (evr_thI (evr_int 2)) els_nil)) (by show _ ≤ 100000; simp)) (els_cons (evr_thL (els_cons (evr_thI (evr_int 1)) (els_cons (evr_thI (evr_int 2)) els_nil)) (by show _ ≤ 100000; simp)) (els_cons (evr_thLP (evr_n (evn_rep (evr_n (evn_list (els_cons (evr_tup (evr_int 1) (evr_int 1)) els_nil) (by show _ ≤ 100000; simp))) (evr_int 101) (by decide) (by decide)))) (els_cons (evr_thL (els_cons (evr_thT (els_cons (evr_thI (evr_int 1)) (els_cons (evr_thI (evr_int 2)) els_nil)) (by show _ ≤ 100000; simp)) (els_cons (evr_thL (els_cons (evr_thI (evr_int 1)) (els_cons (evr_thI (evr_int 2)) els_nil)) (by show _ ≤ 100000; simp)) els_nil)) (by show _ ≤ 100000; simp)) els_nil))))))))) (by show _ ≤ 100000; simp))) (evr_mod (evr_div (evr_var rfl h_which) (evr_int 2) (div_small (by decide) (by decide))) (evr_int 9) (show (0 : Int) < 9 by decide)) (Int.emod_nonneg _ (by decide)) (bt_ix p_which)) (bt_ok p_which) (fun H7 e7 => ?_)
            refine was_ok T.eS.e (fun a_err ha_err => ?_)
            refine r_asg (K := K) (evr_list (els_cons (evr_isX rfl T.eS.c T.kSP) (els_cons (evr_isX rfl T.eS.c T.kSK) (els_cons (evr_isX rfl T.eS.c T.kSR) els_nil))) (by show _ ≤ 100000; simp)) (fun v_found H8 e8 h_found => ?_)
            refine r_ret (K := K) (evr_n (evn_cat (evr_var rfl h_found) (evr_n (evn_list (els_cons (evr_isX rfl T.eS.c T.kSS) (els_cons (evr_isV rfl T.eS.c T.eS.v) els_nil)) (by show _ ≤ 100000; simp))) (by decide))) (fun v_ret H9 e9 hh => ?_)
            exact k _ _ (ex.trans (e7.trans (e8.trans e9))) (rep_eq hh (told_3 hk3))
          · have ex := ex.trans e1
            have h_kind := rmono e1 h_kind
            have h_which := rmono e1 h_which
            have h_more := rmono e1 h_more
            have h_strange := rmono e1 h_strange
            have Bex_pairs := ex
            have Ah_kind_pairs := h_kind
            have Ah_which_pairs := h_which
            have Ah_more_pairs := h_more
            have Ah_strange_pairs := h_strange
            obtain ⟨HA_pairs, hHA_⟩ : ∃ HA : Hp, HA = H1 := ⟨_, rfl⟩
            subst hHA_
            refine r_asgN (K := K) (evn_lcR1 (f := fun xc : Int => ((1 + xc), (2 + p_more))) (evr_add (evr_int 1) (evr_mod (evr_var rfl h_more) (evr_int 90) (show (0 : Int) < 90 by decide))) (by have := k6_lrng p_more; omega) (fun _ => rfl) (fun xc Hcx ecx hlo hhi => (evr_tup (evr_add (evr_int 1) (evr_var rfl (rfl : rep K _ (V.int xc) xc))) (evr_add (evr_int 2) (evr_var rfl (rmono ecx h_more)))))) (fun l_pairs us_pairs H1 hn_pairs e1 hl_pairs hs_pairs => ?_)
            have exA_pairs := e1
            have ex := ex.trans e1
            have h_kind := rmono e1 h_kind
            have h_which := rmono e1 h_which
            have h_more := rmono e1 h_more
            have h_strange := rmono e1 h_strange
            refine r_setTh (K := K) hn_pairs exA_pairs hl_pairs hs_pairs (k6_ne p_more) (evr_call2 (evr_div (evr_var rfl h_which) (evr_int 2) (div_small (by decide) (by decide))) (evr_var rfl h_more) pre.2.2.1) (bp_ok _ pre.2.2.1).2 (ev_var rfl) (evr_mod (evr_div (evr_var rfl h_which) (evr_int 40) (div_small (by decide) (by decide))) (evr_lenL (evr_var (a := ((rangeI 0 (1 + (p_more % 90))).map fun xc => ((1 + xc), (2 + p_more)))) rfl ⟨l_pairs, _, rfl, hl_pairs, hs_pairs⟩)) (by have := k6_llen p_more; have := k6_lrng p_more; show 0 < ((k6List p_more).length : Int); omega)) (k6_iok p_more p_which).1 (k6_iok p_more p_which).2 (fun us_pairs H1 exA_pairs hl_pairs hs_pairs => ?_)
            have ex := Bex_pairs.trans exA_pairs
            have h_kind : rep K H1 v_kind (p_kind : Int) := h_kind
            have h_which : rep K H1 v_which (p_which : Int) := h_which
            have h_more : rep K H1 v_more (p_more : Int) := h_more
            have h_strange := rmono exA_pairs Ah_strange_pairs
            have h_pairs : rep K H1 (V.ref l_pairs) (k6Mixed p_more (p_which / 40 % ((k6List p_more).length : Int)).toNat (badPair (p_which / 2) p_more)) := li_th ⟨l_pairs, us_pairs, rfl, hl_pairs, hs_pairs⟩
            refine rx_call1 (evr_var rfl h_pairs) (k6_mok pre.2.2.1) (fun H7 e7 => ?_)
            refine was_ok T.eS.e (fun a_err ha_err => ?_)
            refine r_asg (K := K) (evr_list (els_cons (evr_isX rfl T.eS.c T.kSP) (els_cons (evr_isX rfl T.eS.c T.kSK) (els_cons (evr_isX rfl T.eS.c T.kSR) els_nil))) (by show _ ≤ 100000; simp)) (fun v_found H8 e8 h_found => ?_)
            refine r_ret (K := K) (evr_n (evn_cat (evr_var rfl h_found) (evr_n (evn_list (els_cons (evr_isX rfl T.eS.c T.kSS) (els_cons (evr_isV rfl T.eS.c T.eS.v) els_nil)) (by show _ ≤ 100000; simp))) (by decide))) (fun v_ret H9 e9 hh => ?_)
            exact k _ _ (ex.trans (e7.trans (e8.trans e9))) (rep_eq hh (told_3 hk3))
abbrev s_law : Stmt := top 39
theorem sc_law : FnScope ["_law_script", "_law_cell", "_law_kind", "_law_due", "_law_at"] ["_law_script"] (defScope s_law) := ⟨rfl, rfl, rfl, by decide +kernel, rfl, by decide +kernel, by decide +kernel⟩
set_option maxHeartbeats 4000000 in
theorem ok_law {f : Addr} {fd : FuncData} (F : Fun K "law" "law" s_law f fd) (T : Txt K mg CA CL CW CP CK CR CS CT) (G_l_told : Cal P w K mg base CX0 6 "_law_told" ["_law_kind", "_law_which", "_law_more"] (Fn3 K (α := Int) (β := Int) (γ := Int) (δ := (List Bool)) (fun k w m => (0 ≤ k ∧ k < 4) ∧ 0 ≤ w ∧ 0 ≤ m ∧ m < 1000) (fun k _ _ => toldT k))) (G_most : Cal P w K mg base CX0 4 "most" ["pair"] (Fn1 K (α := (Int × Int)) (β := Int) Sm mostOf)) (G_pair_of : Cal P w K mg base CX0 3 "pair_of" ["row", "common"] (Fn2 K (α := (List Int)) (β := Int) (γ := (Int × Int)) (fun r c => r ≠ [] ∧ GoodRow r ∧ r.length ≤ 1000 ∧ 1 ≤ c ∧ RowB 1000000 r c) backR)) (G_told : Cal P w K mg base CX0 4 "told" ["pairs"] (Fn1 K (α := (List (Int × Int))) (β := Ans) (fun ps => AllSm ps ∧ ps.length ≤ 100) toldOf)) (GL_shows : CalM P w K mg base 3 CL "shows" ["self", "pairs"] (Fn2 K preL showsOf)) (GW_shows : CalM P w K mg base 3 CW "shows" ["self", "pairs"] (Fn2 K preW showsOf)) : FnOk P w K mg base CX0 7 f fd ["_law_script"] (Fn1 K (α := Scr) (β := Bool) (fun s => (∀ z ∈ s.l, Bt 1048576 z) ∧ s.l.length ≤ 63) (fun _ => true)) := by
  refine F.ok sc_law (fun vs H Q E h => h.len) (fun cdv A outer s H vs Q E hr h => ?_)
  obtain ⟨v_script, p_script, rfl, h_script, pre, k⟩ := h
  have hu := hr.units
  have ex := Ex.refl H
  have hu1 := hu_of hr
  refine ⟨_, (pss_cons (ps_for PassesOwn.never rfl (pi_list (pv 0)) (pg_name (i := 1) sc_law.nd rfl (Or.inl rfl)) (pss_cons (ps_set (i := 2) sc_law.nd rfl (Or.inr rfl) (pe_op op_mod (pv 1) pe_int)) (pss_cons (ps_set (i := 3) sc_law.nd rfl (Or.inl rfl) (pe_op op_cat (pe_lc (own := [("_law_at", 4)]) (g := gName 4) (tt := tYes) rfl sc_law.nd (pi_range1 rfl T.z_range (pa_cons pe_int pa_nil)) (blkOk_by (own := [("_law_at", 4)]) (N := ["_law_script", "_law_cell", "_law_kind", "_law_due", "_law_at"]) (sc := defScope s_law) (by decide +kernel)) (fun _ _ _ _ _ => pg_name (i := 4) sc_law.nd rfl (Or.inl rfl)) (fun _ _ _ _ _ => pts_nil) (fun _ _ _ _ _ => (pe_cmpR op_eq (pv 2) (pv 4) (nomark _)))) (pe_lst (pa_cons pe_bl pa_nil)))) (pss_one (ps_if (pt_cmpR (op_neD hu) (pe_cal G_l_told (hr.mono (by decide)) (by rfl) (pa_cons (pv 2) (pa_cons (pe_op op_mod (pe_op op_fdivX (pv 1) pe_int) pe_int) (pa_cons (pe_op op_mod (pe_op op_fdivX (pv 1) pe_int) pe_int) pa_nil)))) (pv 3) (nomark _)) (pss_one (ps_ret pe_bl)) pss_nil))))) (pss_one (ps_ret (pe_and (pe_cmpR op_eq (pe_cal G_most (hr.mono (by decide)) (by rfl) (pa_cons (pe_tup (pa_cons pe_int (pa_cons pe_int pa_nil))) pa_nil)) pe_int (nomark _)) (pe_and (pe_cmpR op_gt (pe_ix ix_tup (pe_cal G_pair_of (hr.mono (by decide)) (by rfl) (pa_cons (pe_op op_cat (pe_op op_rep (pe_lst (pa_cons pe_int pa_nil)) pe_int) (pe_lst (pa_cons pe_int pa_nil))) (pa_cons pe_int pa_nil))) pe_int (fun _ _ => rfl)) (pe_op op_shl pe_int pe_int) (nomark _)) (pe_one (pe_cmpR op_isBl (pe_alt (pe_methM (pe_cal G_told (hr.mono (by decide)) (by rfl) (pa_cons (pe_op op_rep (pe_lst (pa_cons (pe_tup (pa_cons pe_int (pa_cons pe_int pa_nil))) pa_nil)) pe_int) pa_nil)) GL_shows (hr.mono (by decide)) (pa_cons (pe_lst pa_nil) pa_nil)) (pe_methM (pe_cal G_told (hr.mono (by decide)) (by rfl) (pa_cons (pe_op op_rep (pe_lst (pa_cons (pe_tup (pa_cons pe_int (pa_cons pe_int pa_nil))) pa_nil)) pe_int) pa_nil)) GW_shows (hr.mono (by decide)) (pa_cons (pe_lst pa_nil) pa_nil))) pe_bl (nomark _)))))))), ?_⟩
  refine r_forS (K := K) (evr_var rfl h_script) (fun H1 e1 => ?_)
  have ex := ex.trans e1
  have h_script := rmono e1 h_script
  refine ⟨fun (n : Nat) (σ' : L2.St) (H' : Hp) => Ex H1 H' ∧ ∃ (o_1 o_2 o_3 o_4 : Option V), σ' = [some v_script, o_1, o_2, o_3, o_4], ?_, ?_, ?_, ?_⟩
  · refine ⟨Ex.refl _, _, _, _, _, rfl⟩
  · rintro n σ' H' ⟨exn, _⟩
    exact exn
  · rintro n v_cell x_cell σ' H' hx h_cell ⟨exn, o_1, o_2, o_3, o_4, rfl⟩
    have ex := ex.trans exn
    have h_script := rmono exn h_script
    have exb1 := exn
    refine r_asg (K := K) (evr_mod (evr_var rfl h_cell) (evr_int 4) (show (0 : Int) < 4 by decide)) (fun v_kind H1 e1 hh => ?_)
    have ex := ex.trans e1
    have exb1 := exb1.trans e1
    have h_script := rmono e1 h_script
    have h_cell := rmono e1 h_cell
    have h_kind := hh
    refine r_asg (K := K) (evr_n (evn_cat (evr_n (evn_lcR1 (f := fun xc : Int => (decide ((x_cell % 4) = xc))) (evr_int 4) (by decide) (fun _ => rfl) (fun xc Hcx ecx hlo hhi => (evr_eqI (evr_var rfl (rmono ecx h_kind)) (evr_var rfl (rfl : rep K _ (V.int xc) xc)))))) (evr_n (evn_list (els_cons (evr_bl true) els_nil) (by show _ ≤ 100000; simp))) (by rw [List.length_map]; decide))) (fun v_due H1 e1 hh => ?_)
    have ex := ex.trans e1
    have exb1 := exb1.trans e1
    have h_script := rmono e1 h_script
    have h_cell := rmono e1 h_cell
    have h_kind := rmono e1 h_kind
    have h_due := hh
    refine s_when (evt_test (evr_neD (K := K) (evr_call3 (evr_var rfl h_kind) (evr_mod (evr_div (evr_var rfl h_cell) (evr_int 4) (div_small (by decide) (by decide))) (evr_int 100000) (show (0 : Int) < 100000 by decide)) (evr_mod (evr_div (evr_var rfl h_cell) (evr_int 400000) (div_small (by decide) (by decide))) (evr_int 1000) (show (0 : Int) < 1000 by decide)) ⟨by omega, by omega, by omega, by omega⟩) (evr_var rfl h_due))) (fun hb1 H1 e1 => ?_) (fun hb1 H1 e1 => ?_)
    · exact absurd hb1 (by simp [toldT])
    · have ex := ex.trans e1
      have exb1 := exb1.trans e1
      have h_script := rmono e1 h_script
      have h_cell := rmono e1 h_cell
      have h_kind := rmono e1 h_kind
      have h_due := rmono e1 h_due
      refine ⟨?_, _, _, _, _, rfl⟩
      · exact exb1
  · rintro σ' H' ⟨exn, o_1, o_2, o_3, o_4, rfl⟩
    have ex := ex.trans exn
    have h_script := rmono exn h_script
    refine r_ret (K := K) (evr_andV (evr_eqI (evr_call1 (evr_tup (evr_int 1) (evr_int 1)) (smc (by decide +kernel))) (evr_int 0)) (fun hbo => (evr_andV (evr_gt (evr_snd (evr_call2 (evr_n (evn_cat (evr_n (evn_rep (evr_n (evn_list (els_cons (evr_int 1) els_nil) (by show _ ≤ 100000; simp))) (evr_int 999) (by decide) (by decide))) (evr_n (evn_list (els_cons (evr_int 2) els_nil) (by show _ ≤ 100000; simp))) (by rw [ones_len]; decide))) (evr_int 1) (row_c (by decide +kernel)))) (evr_shl (evr_int 1) (evr_int 600) pow_ok)) (fun hbo => (evr_isB (evr_shows T.ans (evr_call1 (evr_n (evn_rep (evr_n (evn_list (els_cons (evr_tup (evr_int 1) (evr_int 1)) els_nil) (by show _ ≤ 100000; simp))) (evr_int 100) (by decide) (by decide))) ⟨smcs (by decide +kernel), by decide⟩) (evr_n (evn_list (α := Int × Int) els_nil (Nat.zero_le _))) (smcs (by decide +kernel))) (evr_bl true)))))) (fun v_ret H1 e1 hh => ?_)
    exact k _ _ (ex.trans e1) (rep_eq hh (by show _ = true; decide +kernel))
end
end Mt

namespace Mt
open PySem PySem.Spec L2 Evl PyProof.Rows
/-- a def of the text stands behind the top -/
structure FunIn (K : PySem.W.Frag) (x : Str) (st : Stmt) : Prop where
  ex : ∃ (f : Addr) (oc : Value) (od an : Option Addr) (sl : Array (Option Value)) (kV dc pm cd ct : Value), PySem.W.nsIn K mainGlobals x = some (some (.ref f)) ∧
    K.lookup f = some ⟨oc, od, .func (PySem.W.fnOf x x (defArgs st) (defBody st) (defScope st) .none kV dc pm an cd ct), sl⟩ ∧ PySem.W.codeIn K cd x = true ∧ PySem.W.keepIn K (.ref f) = true
theorem funIn_mk {K : PySem.W.Frag} {x : Str} {st : Stmt} {f : Addr} {oc : Value} {od an : Option Addr} {sl : Array (Option Value)} {kV dc pm cd ct : Value} (a : PySem.W.nsIn K mainGlobals x = some (some (.ref f)))
    (l : K.lookup f = some ⟨oc, od, .func (PySem.W.fnOf x x (defArgs st) (defBody st) (defScope st) .none kV dc pm an cd ct), sl⟩) (c : PySem.W.codeIn K cd x = true) (k : PySem.W.keepIn K (.ref f) = true) : FunIn K x st := ⟨⟨f, oc, od, an, sl, kV, dc, pm, cd, ct, a, l, c, k⟩⟩
structure MethIn (K : PySem.W.Frag) (C : Addr) (m q : Str) (st : Stmt) : Prop where
  ex : ∃ (f : Addr) (oc : Value) (od an : Option Addr) (sl : Array (Option Value)) (kV dc pm cd ct : Value), PySem.W.findIn K (.ref C) m = some (some (.ref f)) ∧ PySem.W.isFn K (.ref f) = true ∧
    K.lookup f = some ⟨oc, od, .func (PySem.W.fnOf m q (defArgs st) (defBody st) (defScope st) .none kV dc pm an cd ct), sl⟩ ∧ PySem.W.codeIn K cd q = true ∧ PySem.W.keepIn K (.ref f) = true
theorem methIn_mk {K : PySem.W.Frag} {C : Addr} {m q : Str} {st : Stmt} {f : Addr} {oc : Value} {od an : Option Addr} {sl : Array (Option Value)} {kV dc pm cd ct : Value} (a : PySem.W.findIn K (.ref C) m = some (some (.ref f))) (i : PySem.W.isFn K (.ref f) = true)
    (l : K.lookup f = some ⟨oc, od, .func (PySem.W.fnOf m q (defArgs st) (defBody st) (defScope st) .none kV dc pm an cd ct), sl⟩) (c : PySem.W.codeIn K cd q = true) (k : PySem.W.keepIn K (.ref f) = true) : MethIn K C m q st := ⟨⟨f, oc, od, an, sl, kV, dc, pm, cd, ct, a, i, l, c, k⟩⟩
set_option maxHeartbeats 4000000 in
theorem all_mk {l : PySem.W.OpenLaw} {w : World} {K : PySem.W.Frag} {h : Heap} {mg : Str → Option Value} {fa : Addr} {t_LONGEST : Tok} {t_MOST : Tok} {CA CL CW CP CK CR CS CT : Addr} (X : K.In h) (G : h.Ns mainGlobals mg) (hfa : mg "law" = some (.ref fa))
    (C_is_number : FunIn K "is_number" s_is_number)
    (C_is_pair : FunIn K "is_pair" s_is_pair)
    (C_asked_pair : FunIn K "asked_pair" s_asked_pair)
    (C_most_of : FunIn K "most_of" s_most_of)
    (C_most : FunIn K "most" s_most)
    (C_taken_of : FunIn K "taken_of" s_taken_of)
    (C_taken : FunIn K "taken" s_taken)
    (C_worth_of : FunIn K "worth_of" s_worth_of)
    (C_worth : FunIn K "worth" s_worth)
    (C_asked_pairs : FunIn K "asked_pairs" s_asked_pairs)
    (C_sum_of : FunIn K "sum_of" s_sum_of)
    (C_times_to : FunIn K "times_to" s_times_to)
    (C_told : FunIn K "told" s_told)
    (C_row_of : FunIn K "row_of" s_row_of)
    (C_quotients : FunIn K "quotients" s_quotients)
    (C_is_row : FunIn K "is_row" s_is_row)
    (C_pair_of : FunIn K "pair_of" s_pair_of)
    (C_shortest : FunIn K "shortest" s_shortest)
    (C_longest : FunIn K "longest" s_longest)
    (C_l_bad_pair : FunIn K "_law_bad_pair" s_l_bad_pair)
    (C_l_with_pair : FunIn K "_law_with_pair" s_l_with_pair)
    (C_l_bad_row : FunIn K "_law_bad_row" s_l_bad_row)
    (C_l_told : FunIn K "_law_told" s_l_told)
    (C_law : FunIn K "law" s_law)
    (z_ValueError : PySem.W.nsIn K mainGlobals "ValueError" = some none)
    (z_all : PySem.W.nsIn K mainGlobals "all" = some none)
    (z_bool : PySem.W.nsIn K mainGlobals "bool" = some none)
    (z_enumerate : PySem.W.nsIn K mainGlobals "enumerate" = some none)
    (z_int : PySem.W.nsIn K mainGlobals "int" = some none)
    (z_isinstance : PySem.W.nsIn K mainGlobals "isinstance" = some none)
    (z_len : PySem.W.nsIn K mainGlobals "len" = some none)
    (z_list : PySem.W.nsIn K mainGlobals "list" = some none)
    (z_max : PySem.W.nsIn K mainGlobals "max" = some none)
    (z_min : PySem.W.nsIn K mainGlobals "min" = some none)
    (z_range : PySem.W.nsIn K mainGlobals "range" = some none)
    (z_sum : PySem.W.nsIn K mainGlobals "sum" = some none)
    (z_tuple : PySem.W.nsIn K mainGlobals "tuple" = some none)
    (g_LONGEST : PySem.W.nsIn K mainGlobals "LONGEST" = some (some (.int 1000 t_LONGEST)))
    (g_MOST : PySem.W.nsIn K mainGlobals "MOST" = some (some (.int 100 t_MOST)))
    (aA : PySem.W.nsIn K mainGlobals "Answer" = some (some (.ref CA)))
    (aL : PySem.W.nsIn K mainGlobals "Lost" = some (some (.ref CL)))
    (aW : PySem.W.nsIn K mainGlobals "Won" = some (some (.ref CW)))
    (pL1 : PySem.W.plainGet K CL Str.empty = true)
    (pL2 : PySem.W.hasDictIn K CL = true)
    (pL3 : PySem.W.plainOver K CL = true)
    (pL4 : PySem.W.findIn K (.ref CL) "__setattr__" = some (some (.builtin "object.__setattr__")))
    (pL5 : PySem.W.findIn K (.ref CL) "__class__" = some (some (.builtin "object.__class__")))
    (pL6 : PySem.W.mroIn K CL (.type "object") = some true)
    (pW1 : PySem.W.plainGet K CW Str.empty = true)
    (pW2 : PySem.W.hasDictIn K CW = true)
    (pW3 : PySem.W.plainOver K CW = true)
    (pW4 : PySem.W.findIn K (.ref CW) "__setattr__" = some (some (.builtin "object.__setattr__")))
    (pW5 : PySem.W.findIn K (.ref CW) "__class__" = some (some (.builtin "object.__class__")))
    (pW6 : PySem.W.mroIn K CW (.type "object") = some true)
    (pC1 : PySem.W.specialIn K (.builtin "object.__class__") "__get__" = some (some (.builtin "getset_descriptor.__get__")))
    (pC2 : PySem.W.takesIn K (.builtin "object.__class__") = some true)
    (mL1 : PySem.W.makesIn K CL = true)
    (mL2 : PySem.W.findIn K (.ref CL) "__init__" = some (some (.builtin "object.__init__")))
    (mL3 : PySem.W.keepIn K (.ref CL) = true)
    (mW1 : PySem.W.makesIn K CW = true)
    (mW3 : PySem.W.keepIn K (.ref CW) = true)
    (nA : PySem.W.findIn K (.ref CW) "at" = some none)
    (nT : PySem.W.findIn K (.ref CW) "times" = some none)
    (kLA : PySem.W.kitOne K (.ref CL) (.ref CA) = some true)
    (kLL : PySem.W.kitOne K (.ref CL) (.ref CL) = some true)
    (kLW : PySem.W.kitOne K (.ref CL) (.ref CW) = some false)
    (kWA : PySem.W.kitOne K (.ref CW) (.ref CA) = some true)
    (kWL : PySem.W.kitOne K (.ref CW) (.ref CL) = some false)
    (kWW : PySem.W.kitOne K (.ref CW) (.ref CW) = some true)
    (M_Lost_shows : MethIn K CL "shows" "Lost.shows" s_Lost_shows)
    (M_W_init : MethIn K CW "__init__" "Won.__init__" s_W_init)
    (M_Won_shows : MethIn K CW "shows" "Won.shows" s_Won_shows)
    (eT1 : PySem.W.nsIn K mainGlobals "TimesError" = some (some (.ref CT)))
    (eP1 : PySem.W.nsIn K mainGlobals "BadPair" = some (some (.ref CP)))
    (eP2 : PySem.W.excIn K CP [.type "ValueError", .type "Exception", .type "BaseException", .type "object"] "ValueError.__new__" = true)
    (eP3 : PySem.W.keepIn K (.ref CP) = true)
    (eP4 : PySem.W.subIn K (.ref CP) (.type "BaseException") = some true)
    (eP5 : PySem.W.typeIn K (.ref CP) = some (.type "type"))
    (eP6 : PySem.W.subIn K (.ref CP) (.ref CT) = some true)
    (eP7 : PySem.W.findIn K (.ref CP) "__getattribute__" = some (some (.builtin "BaseException.__getattribute__")))
    (eP8 : PySem.W.findIn K (.ref CP) "__getattr__" = some none)
    (eP9 : PySem.W.hasDictIn K CP = true)
    (eP10 : PySem.W.findIn K (.ref CP) "__class__" = some (some (.builtin "object.__class__")))
    (eP11 : PySem.W.mroIn K CP (.type "object") = some true)
    (eP12 : PySem.W.kitOne K (.ref CP) (.type "ValueError") = some true)
    (eK1 : PySem.W.nsIn K mainGlobals "BadTaking" = some (some (.ref CK)))
    (eK2 : PySem.W.excIn K CK [.type "ValueError", .type "Exception", .type "BaseException", .type "object"] "ValueError.__new__" = true)
    (eK3 : PySem.W.keepIn K (.ref CK) = true)
    (eK4 : PySem.W.subIn K (.ref CK) (.type "BaseException") = some true)
    (eK5 : PySem.W.typeIn K (.ref CK) = some (.type "type"))
    (eK6 : PySem.W.subIn K (.ref CK) (.ref CT) = some true)
    (eK7 : PySem.W.findIn K (.ref CK) "__getattribute__" = some (some (.builtin "BaseException.__getattribute__")))
    (eK8 : PySem.W.findIn K (.ref CK) "__getattr__" = some none)
    (eK9 : PySem.W.hasDictIn K CK = true)
    (eK10 : PySem.W.findIn K (.ref CK) "__class__" = some (some (.builtin "object.__class__")))
    (eK11 : PySem.W.mroIn K CK (.type "object") = some true)
    (eK12 : PySem.W.kitOne K (.ref CK) (.type "ValueError") = some true)
    (eR1 : PySem.W.nsIn K mainGlobals "BadRow" = some (some (.ref CR)))
    (eR2 : PySem.W.excIn K CR [.type "ValueError", .type "Exception", .type "BaseException", .type "object"] "ValueError.__new__" = true)
    (eR3 : PySem.W.keepIn K (.ref CR) = true)
    (eR4 : PySem.W.subIn K (.ref CR) (.type "BaseException") = some true)
    (eR5 : PySem.W.typeIn K (.ref CR) = some (.type "type"))
    (eR6 : PySem.W.subIn K (.ref CR) (.ref CT) = some true)
    (eR7 : PySem.W.findIn K (.ref CR) "__getattribute__" = some (some (.builtin "BaseException.__getattribute__")))
    (eR8 : PySem.W.findIn K (.ref CR) "__getattr__" = some none)
    (eR9 : PySem.W.hasDictIn K CR = true)
    (eR10 : PySem.W.findIn K (.ref CR) "__class__" = some (some (.builtin "object.__class__")))
    (eR11 : PySem.W.mroIn K CR (.type "object") = some true)
    (eR12 : PySem.W.kitOne K (.ref CR) (.type "ValueError") = some true)
    (eS1 : PySem.W.nsIn K mainGlobals "BadPairs" = some (some (.ref CS)))
    (eS2 : PySem.W.excIn K CS [.type "ValueError", .type "Exception", .type "BaseException", .type "object"] "ValueError.__new__" = true)
    (eS3 : PySem.W.keepIn K (.ref CS) = true)
    (eS4 : PySem.W.subIn K (.ref CS) (.type "BaseException") = some true)
    (eS5 : PySem.W.typeIn K (.ref CS) = some (.type "type"))
    (eS6 : PySem.W.subIn K (.ref CS) (.ref CT) = some true)
    (eS7 : PySem.W.findIn K (.ref CS) "__getattribute__" = some (some (.builtin "BaseException.__getattribute__")))
    (eS8 : PySem.W.findIn K (.ref CS) "__getattr__" = some none)
    (eS9 : PySem.W.hasDictIn K CS = true)
    (eS10 : PySem.W.findIn K (.ref CS) "__class__" = some (some (.builtin "object.__class__")))
    (eS11 : PySem.W.mroIn K CS (.type "object") = some true)
    (eS12 : PySem.W.kitOne K (.ref CS) (.type "ValueError") = some true)
    (eT4 : PySem.W.subIn K (.ref CT) (.type "BaseException") = some true)
    (eT5 : PySem.W.typeIn K (.ref CT) = some (.type "type"))
    (eT9 : PySem.W.hasDictIn K CT = true)
    (kkPP : PySem.W.kitOne K (.ref CP) (.ref CP) = some true)
    (kkPK : PySem.W.kitOne K (.ref CP) (.ref CK) = some false)
    (kkPR : PySem.W.kitOne K (.ref CP) (.ref CR) = some false)
    (kkPS : PySem.W.kitOne K (.ref CP) (.ref CS) = some false)
    (kkKP : PySem.W.kitOne K (.ref CK) (.ref CP) = some false)
    (kkKK : PySem.W.kitOne K (.ref CK) (.ref CK) = some true)
    (kkKR : PySem.W.kitOne K (.ref CK) (.ref CR) = some false)
    (kkKS : PySem.W.kitOne K (.ref CK) (.ref CS) = some false)
    (kkRP : PySem.W.kitOne K (.ref CR) (.ref CP) = some false)
    (kkRK : PySem.W.kitOne K (.ref CR) (.ref CK) = some false)
    (kkRR : PySem.W.kitOne K (.ref CR) (.ref CR) = some true)
    (kkRS : PySem.W.kitOne K (.ref CR) (.ref CS) = some false)
    (kkSP : PySem.W.kitOne K (.ref CS) (.ref CP) = some false)
    (kkSK : PySem.W.kitOne K (.ref CS) (.ref CK) = some false)
    (kkSR : PySem.W.kitOne K (.ref CS) (.ref CR) = some false)
    (kkSS : PySem.W.kitOne K (.ref CS) (.ref CS) = some true)
    : ∃ fd : FuncData, (∀ (s : Shared) (v : Value), BindsTo s fd ⟨[v], []⟩ [("_law_script", v)]) ∧ ∀ base : Heap, K.In base → base.Ns mainGlobals mg → FnOk l.prog w K mg base CX0 7 fa fd ["_law_script"] (Fn1 K (α := Scr) (β := Bool) (fun s => (∀ z ∈ s.l, Bt 1048576 z) ∧ s.l.length ≤ 63) (fun _ => true)) := by
  have ans : AnsTxt K mg CA CL CW := ⟨⟨aL, ⟨pL1, pL2, pL3, pL4⟩, pL5, pC1, pC2, pL6⟩, ⟨aW, ⟨pW1, pW2, pW3, pW4⟩, pW5, pC1, pC2, pW6⟩, PySem.W.mg_of X G aA, PySem.W.mg_of X G aL, PySem.W.mg_of X G aW, nA, nT, ⟨mL1, mL2, mL3⟩, kLA, kLL, kLW, kWA, kWL, kWW⟩
  have T : Txt K mg CA CL CW CP CK CR CS CT := ⟨PySem.W.mg_none_of X G z_ValueError, PySem.W.mg_none_of X G z_all, PySem.W.mg_none_of X G z_bool, PySem.W.mg_none_of X G z_enumerate, PySem.W.mg_none_of X G z_int, PySem.W.mg_none_of X G z_isinstance, PySem.W.mg_none_of X G z_len, PySem.W.mg_none_of X G z_list, PySem.W.mg_none_of X G z_max, PySem.W.mg_none_of X G z_min, PySem.W.mg_none_of X G z_range, PySem.W.mg_none_of X G z_sum, PySem.W.mg_none_of X G z_tuple, ⟨_, PySem.W.mg_of X G g_LONGEST⟩, ⟨_, PySem.W.mg_of X G g_MOST⟩, ans, ⟨PySem.W.mg_of X G eP1, eP2, eP3, eP4, eP5, PySem.W.exm_ref eT4 eT9 eT5 eP6, ⟨eP7, eP8, eP4, eP9, eP10, pC1, pC2, eP11⟩, eP12⟩, ⟨PySem.W.mg_of X G eK1, eK2, eK3, eK4, eK5, PySem.W.exm_ref eT4 eT9 eT5 eK6, ⟨eK7, eK8, eK4, eK9, eK10, pC1, pC2, eK11⟩, eK12⟩, ⟨PySem.W.mg_of X G eR1, eR2, eR3, eR4, eR5, PySem.W.exm_ref eT4 eT9 eT5 eR6, ⟨eR7, eR8, eR4, eR9, eR10, pC1, pC2, eR11⟩, eR12⟩, ⟨PySem.W.mg_of X G eS1, eS2, eS3, eS4, eS5, PySem.W.exm_ref eT4 eT9 eT5 eS6, ⟨eS7, eS8, eS4, eS9, eS10, pC1, pC2, eS11⟩, eS12⟩, PySem.W.mg_of X G eT1, kkPP, kkPK, kkPR, kkPS, kkKP, kkKK, kkKR, kkKS, kkRP, kkRK, kkRR, kkRS, kkSP, kkSK, kkSR, kkSS⟩
  obtain ⟨f_Lost_shows, oc, od, an, sl, kV, dc, pm, cd, ct, a_Lost_shows, i_Lost_shows, l_Lost_shows, c_Lost_shows, k_Lost_shows⟩ := M_Lost_shows.ex
  have F_Lost_shows := fun_mk (st := s_Lost_shows) l_Lost_shows c_Lost_shows k_Lost_shows
  have b_Lost_shows := F_Lost_shows.binds (ps := ["self", "pairs"]) fun _ _ _ _ _ _ us hl => match us, hl with | [_, _], _ => rfl
  obtain ⟨f_W_init, oc, od, an, sl, kV, dc, pm, cd, ct, a_W_init, i_W_init, l_W_init, c_W_init, k_W_init⟩ := M_W_init.ex
  have F_W_init := fun_mk (st := s_W_init) l_W_init c_W_init k_W_init
  have b_W_init := F_W_init.binds (ps := ["self", "at", "times"]) fun _ _ _ _ _ _ us hl => match us, hl with | [_, _, _], _ => rfl
  obtain ⟨f_Won_shows, oc, od, an, sl, kV, dc, pm, cd, ct, a_Won_shows, i_Won_shows, l_Won_shows, c_Won_shows, k_Won_shows⟩ := M_Won_shows.ex
  have F_Won_shows := fun_mk (st := s_Won_shows) l_Won_shows c_Won_shows k_Won_shows
  have b_Won_shows := F_Won_shows.binds (ps := ["self", "pairs"]) fun _ _ _ _ _ _ us hl => match us, hl with | [_, _], _ => rfl
  obtain ⟨f_is_number, oc, od, an, sl, kV, dc, pm, cd, ct, a_is_number, l_is_number, c_is_number, k_is_number⟩ := C_is_number.ex
  have F_is_number := fun_mk (st := s_is_number) l_is_number c_is_number k_is_number
  have b_is_number := F_is_number.binds (ps := ["thing"]) fun _ _ _ _ _ _ us hl => match us, hl with | [_], _ => rfl
  obtain ⟨f_is_pair, oc, od, an, sl, kV, dc, pm, cd, ct, a_is_pair, l_is_pair, c_is_pair, k_is_pair⟩ := C_is_pair.ex
  have F_is_pair := fun_mk (st := s_is_pair) l_is_pair c_is_pair k_is_pair
  have b_is_pair := F_is_pair.binds (ps := ["thing"]) fun _ _ _ _ _ _ us hl => match us, hl with | [_], _ => rfl
  obtain ⟨f_asked_pair, oc, od, an, sl, kV, dc, pm, cd, ct, a_asked_pair, l_asked_pair, c_asked_pair, k_asked_pair⟩ := C_asked_pair.ex
  have F_asked_pair := fun_mk (st := s_asked_pair) l_asked_pair c_asked_pair k_asked_pair
  have b_asked_pair := F_asked_pair.binds (ps := ["pair"]) fun _ _ _ _ _ _ us hl => match us, hl with | [_], _ => rfl
  obtain ⟨f_most_of, oc, od, an, sl, kV, dc, pm, cd, ct, a_most_of, l_most_of, c_most_of, k_most_of⟩ := C_most_of.ex
  have F_most_of := fun_mk (st := s_most_of) l_most_of c_most_of k_most_of
  have b_most_of := F_most_of.binds (ps := ["pair"]) fun _ _ _ _ _ _ us hl => match us, hl with | [_], _ => rfl
  obtain ⟨f_most, oc, od, an, sl, kV, dc, pm, cd, ct, a_most, l_most, c_most, k_most⟩ := C_most.ex
  have F_most := fun_mk (st := s_most) l_most c_most k_most
  have b_most := F_most.binds (ps := ["pair"]) fun _ _ _ _ _ _ us hl => match us, hl with | [_], _ => rfl
  obtain ⟨f_taken_of, oc, od, an, sl, kV, dc, pm, cd, ct, a_taken_of, l_taken_of, c_taken_of, k_taken_of⟩ := C_taken_of.ex
  have F_taken_of := fun_mk (st := s_taken_of) l_taken_of c_taken_of k_taken_of
  have b_taken_of := F_taken_of.binds (ps := ["pair", "times"]) fun _ _ _ _ _ _ us hl => match us, hl with | [_, _], _ => rfl
  obtain ⟨f_taken, oc, od, an, sl, kV, dc, pm, cd, ct, a_taken, l_taken, c_taken, k_taken⟩ := C_taken.ex
  have F_taken := fun_mk (st := s_taken) l_taken c_taken k_taken
  have b_taken := F_taken.binds (ps := ["pair", "times"]) fun _ _ _ _ _ _ us hl => match us, hl with | [_, _], _ => rfl
  obtain ⟨f_worth_of, oc, od, an, sl, kV, dc, pm, cd, ct, a_worth_of, l_worth_of, c_worth_of, k_worth_of⟩ := C_worth_of.ex
  have F_worth_of := fun_mk (st := s_worth_of) l_worth_of c_worth_of k_worth_of
  have b_worth_of := F_worth_of.binds (ps := ["pair"]) fun _ _ _ _ _ _ us hl => match us, hl with | [_], _ => rfl
  obtain ⟨f_worth, oc, od, an, sl, kV, dc, pm, cd, ct, a_worth, l_worth, c_worth, k_worth⟩ := C_worth.ex
  have F_worth := fun_mk (st := s_worth) l_worth c_worth k_worth
  have b_worth := F_worth.binds (ps := ["pair"]) fun _ _ _ _ _ _ us hl => match us, hl with | [_], _ => rfl
  obtain ⟨f_asked_pairs, oc, od, an, sl, kV, dc, pm, cd, ct, a_asked_pairs, l_asked_pairs, c_asked_pairs, k_asked_pairs⟩ := C_asked_pairs.ex
  have F_asked_pairs := fun_mk (st := s_asked_pairs) l_asked_pairs c_asked_pairs k_asked_pairs
  have b_asked_pairs := F_asked_pairs.binds (ps := ["pairs"]) fun _ _ _ _ _ _ us hl => match us, hl with | [_], _ => rfl
  obtain ⟨f_sum_of, oc, od, an, sl, kV, dc, pm, cd, ct, a_sum_of, l_sum_of, c_sum_of, k_sum_of⟩ := C_sum_of.ex
  have F_sum_of := fun_mk (st := s_sum_of) l_sum_of c_sum_of k_sum_of
  have b_sum_of := F_sum_of.binds (ps := ["pairs"]) fun _ _ _ _ _ _ us hl => match us, hl with | [_], _ => rfl
  obtain ⟨f_times_to, oc, od, an, sl, kV, dc, pm, cd, ct, a_times_to, l_times_to, c_times_to, k_times_to⟩ := C_times_to.ex
  have F_times_to := fun_mk (st := s_times_to) l_times_to c_times_to k_times_to
  have b_times_to := F_times_to.binds (ps := ["pair", "worth"]) fun _ _ _ _ _ _ us hl => match us, hl with | [_, _], _ => rfl
  obtain ⟨f_told, oc, od, an, sl, kV, dc, pm, cd, ct, a_told, l_told, c_told, k_told⟩ := C_told.ex
  have F_told := fun_mk (st := s_told) l_told c_told k_told
  have b_told := F_told.binds (ps := ["pairs"]) fun _ _ _ _ _ _ us hl => match us, hl with | [_], _ => rfl
  obtain ⟨f_row_of, oc, od, an, sl, kV, dc, pm, cd, ct, a_row_of, l_row_of, c_row_of, k_row_of⟩ := C_row_of.ex
  have F_row_of := fun_mk (st := s_row_of) l_row_of c_row_of k_row_of
  have b_row_of := F_row_of.binds (ps := ["pair"]) fun _ _ _ _ _ _ us hl => match us, hl with | [_], _ => rfl
  obtain ⟨f_quotients, oc, od, an, sl, kV, dc, pm, cd, ct, a_quotients, l_quotients, c_quotients, k_quotients⟩ := C_quotients.ex
  have F_quotients := fun_mk (st := s_quotients) l_quotients c_quotients k_quotients
  have b_quotients := F_quotients.binds (ps := ["pair"]) fun _ _ _ _ _ _ us hl => match us, hl with | [_], _ => rfl
  obtain ⟨f_is_row, oc, od, an, sl, kV, dc, pm, cd, ct, a_is_row, l_is_row, c_is_row, k_is_row⟩ := C_is_row.ex
  have F_is_row := fun_mk (st := s_is_row) l_is_row c_is_row k_is_row
  have b_is_row := F_is_row.binds (ps := ["thing"]) fun _ _ _ _ _ _ us hl => match us, hl with | [_], _ => rfl
  obtain ⟨f_pair_of, oc, od, an, sl, kV, dc, pm, cd, ct, a_pair_of, l_pair_of, c_pair_of, k_pair_of⟩ := C_pair_of.ex
  have F_pair_of := fun_mk (st := s_pair_of) l_pair_of c_pair_of k_pair_of
  have b_pair_of := F_pair_of.binds (ps := ["row", "common"]) fun _ _ _ _ _ _ us hl => match us, hl with | [_, _], _ => rfl
  obtain ⟨f_shortest, oc, od, an, sl, kV, dc, pm, cd, ct, a_shortest, l_shortest, c_shortest, k_shortest⟩ := C_shortest.ex
  have F_shortest := fun_mk (st := s_shortest) l_shortest c_shortest k_shortest
  have b_shortest := F_shortest.binds (ps := ["pair"]) fun _ _ _ _ _ _ us hl => match us, hl with | [_], _ => rfl
  obtain ⟨f_longest, oc, od, an, sl, kV, dc, pm, cd, ct, a_longest, l_longest, c_longest, k_longest⟩ := C_longest.ex
  have F_longest := fun_mk (st := s_longest) l_longest c_longest k_longest
  have b_longest := F_longest.binds (ps := ["pair"]) fun _ _ _ _ _ _ us hl => match us, hl with | [_], _ => rfl
  obtain ⟨f_l_bad_pair, oc, od, an, sl, kV, dc, pm, cd, ct, a_l_bad_pair, l_l_bad_pair, c_l_bad_pair, k_l_bad_pair⟩ := C_l_bad_pair.ex
  have F_l_bad_pair := fun_mk (st := s_l_bad_pair) l_l_bad_pair c_l_bad_pair k_l_bad_pair
  have b_l_bad_pair := F_l_bad_pair.binds (ps := ["_law_which", "_law_more"]) fun _ _ _ _ _ _ us hl => match us, hl with | [_, _], _ => rfl
  obtain ⟨f_l_with_pair, oc, od, an, sl, kV, dc, pm, cd, ct, a_l_with_pair, l_l_with_pair, c_l_with_pair, k_l_with_pair⟩ := C_l_with_pair.ex
  have F_l_with_pair := fun_mk (st := s_l_with_pair) l_l_with_pair c_l_with_pair k_l_with_pair
  have b_l_with_pair := F_l_with_pair.binds (ps := ["_law_door", "_law_pair"]) fun _ _ _ _ _ _ us hl => match us, hl with | [_, _], _ => rfl
  obtain ⟨f_l_bad_row, oc, od, an, sl, kV, dc, pm, cd, ct, a_l_bad_row, l_l_bad_row, c_l_bad_row, k_l_bad_row⟩ := C_l_bad_row.ex
  have F_l_bad_row := fun_mk (st := s_l_bad_row) l_l_bad_row c_l_bad_row k_l_bad_row
  have b_l_bad_row := F_l_bad_row.binds (ps := ["_law_which", "_law_more"]) fun _ _ _ _ _ _ us hl => match us, hl with | [_, _], _ => rfl
  obtain ⟨f_l_told, oc, od, an, sl, kV, dc, pm, cd, ct, a_l_told, l_l_told, c_l_told, k_l_told⟩ := C_l_told.ex
  have F_l_told := fun_mk (st := s_l_told) l_l_told c_l_told k_l_told
  have b_l_told := F_l_told.binds (ps := ["_law_kind", "_law_which", "_law_more"]) fun _ _ _ _ _ _ us hl => match us, hl with | [_, _, _], _ => rfl
  obtain ⟨f_law, oc, od, an, sl, kV, dc, pm, cd, ct, a_law, l_law, c_law, k_law⟩ := C_law.ex
  have F_law := fun_mk (st := s_law) l_law c_law k_law
  have b_law := F_law.binds (ps := ["_law_script"]) fun _ _ _ _ _ _ us hl => match us, hl with | [_], _ => rfl
  have e := hfa.symm.trans (PySem.W.mg_of X G a_law)
  cases e
  refine ⟨PySem.W.fnOf "law" "law" (defArgs s_law) (defBody s_law) (defScope s_law) .none kV dc pm an cd ct, fun s v => .of_eq rfl, fun base hKb hnb => ?_⟩
  have G_is_number : Cal l.prog w K mg base CX0 1 "is_number" ["thing"] (Fn1 K (α := Int) (β := Bool) (fun _ => True) (fun _ => true)) := ⟨⟨_, _, ok_is_number F_is_number T , PySem.W.mg_of X G a_is_number, k_is_number, b_is_number⟩⟩
  have G_is_pair : Cal l.prog w K mg base CX0 2 "is_pair" ["thing"] (Fn1 K (α := (Int × Int)) (β := Bool) Pos (fun _ => true)) := ⟨⟨_, _, ok_is_pair F_is_pair T G_is_number, PySem.W.mg_of X G a_is_pair, k_is_pair, b_is_pair⟩⟩
  have G_asked_pair : Cal l.prog w K mg base CX0 3 "asked_pair" ["pair"] (Fn1 K (α := (Int × Int)) (β := Unit) Pos (fun _ => ())) := ⟨⟨_, _, ok_asked_pair F_asked_pair T G_is_pair, PySem.W.mg_of X G a_asked_pair, k_asked_pair, b_asked_pair⟩⟩
  have G_most_of : Cal l.prog w K mg base CX0 1 "most_of" ["pair"] (Fn1 K (α := (Int × Int)) (β := Int) Sm mostOf) := ⟨⟨_, _, ok_most_of F_most_of T , PySem.W.mg_of X G a_most_of, k_most_of, b_most_of⟩⟩
  have G_most : Cal l.prog w K mg base CX0 4 "most" ["pair"] (Fn1 K (α := (Int × Int)) (β := Int) Sm mostOf) := ⟨⟨_, _, ok_most F_most T G_asked_pair G_most_of, PySem.W.mg_of X G a_most, k_most, b_most⟩⟩
  have G_taken_of : Cal l.prog w K mg base CX0 1 "taken_of" ["pair", "times"] (Fn2 K (α := (Int × Int)) (β := Int) (γ := (Int × Int)) (fun p t => Sm p ∧ 1 ≤ t ∧ t ≤ mostOf p) takenOf) := ⟨⟨_, _, ok_taken_of F_taken_of T , PySem.W.mg_of X G a_taken_of, k_taken_of, b_taken_of⟩⟩
  have G_taken : Cal l.prog w K mg base CX0 4 "taken" ["pair", "times"] (Fn2 K (α := (Int × Int)) (β := Int) (γ := (Int × Int)) (fun p t => Sm p ∧ 1 ≤ t ∧ t ≤ mostOf p) takenOf) := ⟨⟨_, _, ok_taken F_taken T G_asked_pair G_taken_of G_is_number G_most_of, PySem.W.mg_of X G a_taken, k_taken, b_taken⟩⟩
  have G_worth_of : Cal l.prog w K mg base CX0 1 "worth_of" ["pair"] (Fn1 K (α := (Int × Int)) (β := Int) Sm worthOf) := ⟨⟨_, _, ok_worth_of F_worth_of T , PySem.W.mg_of X G a_worth_of, k_worth_of, b_worth_of⟩⟩
  have G_worth : Cal l.prog w K mg base CX0 4 "worth" ["pair"] (Fn1 K (α := (Int × Int)) (β := Int) Sm worthOf) := ⟨⟨_, _, ok_worth F_worth T G_asked_pair G_worth_of, PySem.W.mg_of X G a_worth, k_worth, b_worth⟩⟩
  have G_asked_pairs : Cal l.prog w K mg base CX0 3 "asked_pairs" ["pairs"] (Fn1 K (α := (List (Int × Int))) (β := Unit) (fun ps => AllSm ps ∧ ps.length ≤ 100) (fun _ => ())) := ⟨⟨_, _, ok_asked_pairs F_asked_pairs T G_is_pair, PySem.W.mg_of X G a_asked_pairs, k_asked_pairs, b_asked_pairs⟩⟩
  have G_sum_of : Cal l.prog w K mg base CX0 2 "sum_of" ["pairs"] (Fn1 K (α := (List (Int × Int))) (β := Int) AllSm sumOf) := ⟨⟨_, _, ok_sum_of F_sum_of T G_worth_of, PySem.W.mg_of X G a_sum_of, k_sum_of, b_sum_of⟩⟩
  have GL_shows : CalM l.prog w K mg base 3 CL "shows" ["self", "pairs"] (Fn2 K preL showsOf) := ⟨⟨f_Lost_shows, _, T.ans.cL.cl, ⟨a_Lost_shows, i_Lost_shows, k_Lost_shows⟩, ok_Lost_shows F_Lost_shows T G_sum_of, b_Lost_shows⟩⟩
  have GW_init : CalW l.prog w K mg base CW := ⟨⟨f_W_init, _, ⟨mW1, a_W_init, i_W_init, mW3⟩, ok_W_init F_W_init T , b_W_init, PySem.W.mg_of X G aW⟩⟩
  have GW_shows : CalM l.prog w K mg base 3 CW "shows" ["self", "pairs"] (Fn2 K preW showsOf) := ⟨⟨f_Won_shows, _, T.ans.cW.cl, ⟨a_Won_shows, i_Won_shows, k_Won_shows⟩, ok_Won_shows F_Won_shows T G_taken_of G_sum_of G_most_of, b_Won_shows⟩⟩
  have G_times_to : Cal l.prog w K mg base CX0 2 "times_to" ["pair", "worth"] (Fn2 K (α := (Int × Int)) (β := Int) (γ := Int) (fun p w => Sm p ∧ 0 ≤ w ∧ w < worthOf p) timesTo) := ⟨⟨_, _, ok_times_to F_times_to T G_most_of G_worth_of G_taken_of, PySem.W.mg_of X G a_times_to, k_times_to, b_times_to⟩⟩
  have G_told : Cal l.prog w K mg base CX0 4 "told" ["pairs"] (Fn1 K (α := (List (Int × Int))) (β := Ans) (fun ps => AllSm ps ∧ ps.length ≤ 100) toldOf) := ⟨⟨_, _, ok_told F_told T G_asked_pairs G_sum_of G_worth_of G_times_to GW_init, PySem.W.mg_of X G a_told, k_told, b_told⟩⟩
  have G_row_of : Cal l.prog w K mg base CX0 1 "row_of" ["pair"] (Fn1N K (α := Int × Int) (β := Int) Sq rowOf) := ⟨⟨_, _, ok_row_of F_row_of T , PySem.W.mg_of X G a_row_of, k_row_of, b_row_of⟩⟩
  have G_quotients : Cal l.prog w K mg base CX0 4 "quotients" ["pair"] (spQ K) := ⟨⟨_, _, ok_quotients F_quotients T G_asked_pair G_row_of, PySem.W.mg_of X G a_quotients, k_quotients, b_quotients⟩⟩
  have G_is_row : Cal l.prog w K mg base CX0 2 "is_row" ["thing"] (Fn1 K (α := (List Int)) (β := Bool) (fun r => r ≠ [] ∧ GoodRow r ∧ r.length ≤ 1000) (fun _ => true)) := ⟨⟨_, _, ok_is_row F_is_row T G_is_number, PySem.W.mg_of X G a_is_row, k_is_row, b_is_row⟩⟩
  have G_pair_of : Cal l.prog w K mg base CX0 3 "pair_of" ["row", "common"] (Fn2 K (α := (List Int)) (β := Int) (γ := (Int × Int)) (fun r c => r ≠ [] ∧ GoodRow r ∧ r.length ≤ 1000 ∧ 1 ≤ c ∧ RowB 1000000 r c) backR) := ⟨⟨_, _, ok_pair_of F_pair_of T G_is_row G_is_number, PySem.W.mg_of X G a_pair_of, k_pair_of, b_pair_of⟩⟩
  have G_shortest : Cal l.prog w K mg base CX0 4 "shortest" ["pair"] (Fn1 K (α := (Int × Int)) (β := Int) Sq shortOf) := ⟨⟨_, _, ok_shortest F_shortest T G_asked_pair G_row_of, PySem.W.mg_of X G a_shortest, k_shortest, b_shortest⟩⟩
  have G_longest : Cal l.prog w K mg base CX0 4 "longest" ["pair"] (Fn1 K (α := (Int × Int)) (β := Int) Sq longOf) := ⟨⟨_, _, ok_longest F_longest T G_asked_pair G_row_of, PySem.W.mg_of X G a_longest, k_longest, b_longest⟩⟩
  have G_is_numberT : Cal l.prog w K mg base CX0 1 "is_number" ["thing"] (Fn1 K (α := Th) (β := Bool) (fun _ => True) numT) := ⟨⟨_, _, ok_is_numberT F_is_number T , PySem.W.mg_of X G a_is_number, k_is_number, b_is_number⟩⟩
  have G_is_pairT : Cal l.prog w K mg base CX0 2 "is_pair" ["thing"] (Fn1 K (α := Th) (β := Bool) Short pairT) := ⟨⟨_, _, ok_is_pairT F_is_pair T G_is_numberT, PySem.W.mg_of X G a_is_pair, k_is_pair, b_is_pair⟩⟩
  have G_is_rowT : Cal l.prog w K mg base CX0 2 "is_row" ["thing"] (Fn1 K (α := Th) (β := Bool) BadR (fun _ => false)) := ⟨⟨_, _, ok_is_rowT F_is_row T G_is_numberT, PySem.W.mg_of X G a_is_row, k_is_row, b_is_row⟩⟩
  have G_asked_pairX : CalX l.prog w K mg base 3 "asked_pair" ["pair"] (Rf1 K (α := Th) BadP CP) := ⟨⟨_, _, ok_asked_pairX F_asked_pair T G_is_pairT, PySem.W.mg_of X G a_asked_pair, k_asked_pair, b_asked_pair⟩⟩
  have G_asked_pairsX : CalX l.prog w K mg base 3 "asked_pairs" ["pairs"] (Rf1 K (α := Th) BadS CS) := ⟨⟨_, _, ok_asked_pairsX F_asked_pairs T G_is_pairT, PySem.W.mg_of X G a_asked_pairs, k_asked_pairs, b_asked_pairs⟩⟩
  have G_mostX : CalX l.prog w K mg base 4 "most" ["pair"] (Rf1 K (α := Th) BadP CP) := ⟨⟨_, _, ok_mostX F_most T G_asked_pairX, PySem.W.mg_of X G a_most, k_most, b_most⟩⟩
  have G_worthX : CalX l.prog w K mg base 4 "worth" ["pair"] (Rf1 K (α := Th) BadP CP) := ⟨⟨_, _, ok_worthX F_worth T G_asked_pairX, PySem.W.mg_of X G a_worth, k_worth, b_worth⟩⟩
  have G_quotientsX : CalX l.prog w K mg base 4 "quotients" ["pair"] (Rf1 K (α := Th) BadP CP) := ⟨⟨_, _, ok_quotientsX F_quotients T G_asked_pairX, PySem.W.mg_of X G a_quotients, k_quotients, b_quotients⟩⟩
  have G_shortestX : CalX l.prog w K mg base 4 "shortest" ["pair"] (Rf1 K (α := Th) BadP CP) := ⟨⟨_, _, ok_shortestX F_shortest T G_asked_pairX, PySem.W.mg_of X G a_shortest, k_shortest, b_shortest⟩⟩
  have G_longestX : CalX l.prog w K mg base 4 "longest" ["pair"] (Rf1 K (α := Th) BadP CP) := ⟨⟨_, _, ok_longestX F_longest T G_asked_pairX, PySem.W.mg_of X G a_longest, k_longest, b_longest⟩⟩
  have G_toldX : CalX l.prog w K mg base 4 "told" ["pairs"] (Rf1 K (α := Th) BadS CS) := ⟨⟨_, _, ok_toldX F_told T G_asked_pairsX, PySem.W.mg_of X G a_told, k_told, b_told⟩⟩
  have G_takenX : CalX l.prog w K mg base 4 "taken" ["pair", "times"] (Rf2 K (α := Th) (β := Int) (fun p _ => BadP p) CP) := ⟨⟨_, _, ok_takenX F_taken T G_asked_pairX, PySem.W.mg_of X G a_taken, k_taken, b_taken⟩⟩
  have G_takenY : CalX l.prog w K mg base 4 "taken" ["pair", "times"] (Rf2 K (α := Int × Int) (β := Th) (fun p t => Sm p ∧ takT p t = false) CK) := ⟨⟨_, _, ok_takenY F_taken T G_asked_pair G_is_numberT G_most_of, PySem.W.mg_of X G a_taken, k_taken, b_taken⟩⟩
  have G_pair_ofX : CalX l.prog w K mg base 3 "pair_of" ["row", "common"] (Rf2 K (α := Th) (β := Int) (fun r _ => BadR r) CR) := ⟨⟨_, _, ok_pair_ofX F_pair_of T G_is_rowT, PySem.W.mg_of X G a_pair_of, k_pair_of, b_pair_of⟩⟩
  have G_pair_ofY : CalX l.prog w K mg base 3 "pair_of" ["row", "common"] (Rf2 K (α := List Int) (β := Th) (fun r c => (r ≠ [] ∧ GoodRow r ∧ r.length ≤ 1000) ∧ comT c = false) CR) := ⟨⟨_, _, ok_pair_ofY F_pair_of T G_is_row G_is_numberT, PySem.W.mg_of X G a_pair_of, k_pair_of, b_pair_of⟩⟩
  have G_l_bad_pair : Cal l.prog w K mg base CX0 1 "_law_bad_pair" ["_law_which", "_law_more"] (Fn2 K (α := Int) (β := Int) (γ := Th) (fun _ m => 0 ≤ m) badPair) := ⟨⟨_, _, ok_l_bad_pair F_l_bad_pair T , PySem.W.mg_of X G a_l_bad_pair, k_l_bad_pair, b_l_bad_pair⟩⟩
  have G_l_with_pair : CalX l.prog w K mg base 5 "_law_with_pair" ["_law_door", "_law_pair"] (Rf2 K (α := Int) (β := Th) (fun _ p => BadP p) CP) := ⟨⟨_, _, ok_l_with_pair F_l_with_pair T G_mostX G_worthX G_quotientsX G_shortestX G_longestX G_takenX, PySem.W.mg_of X G a_l_with_pair, k_l_with_pair, b_l_with_pair⟩⟩
  have G_l_bad_row : Cal l.prog w K mg base CX0 1 "_law_bad_row" ["_law_which", "_law_more"] (Fn2 K (α := Int) (β := Int) (γ := Th) (fun _ m => 0 ≤ m) badRow) := ⟨⟨_, _, ok_l_bad_row F_l_bad_row T , PySem.W.mg_of X G a_l_bad_row, k_l_bad_row, b_l_bad_row⟩⟩
  have G_l_told : Cal l.prog w K mg base CX0 6 "_law_told" ["_law_kind", "_law_which", "_law_more"] (Fn3 K (α := Int) (β := Int) (γ := Int) (δ := (List Bool)) (fun k w m => (0 ≤ k ∧ k < 4) ∧ 0 ≤ w ∧ 0 ≤ m ∧ m < 1000) (fun k _ _ => toldT k)) := ⟨⟨_, _, ok_l_told F_l_told T G_l_bad_pair G_l_bad_row G_l_with_pair G_takenY G_pair_ofX G_pair_ofY G_toldX, PySem.W.mg_of X G a_l_told, k_l_told, b_l_told⟩⟩
  exact ok_law F_law T G_l_told G_most G_pair_of G_told GL_shows GW_shows
theorem walk {l : PySem.W.OpenLaw} {q : Program} {loose : List Str} {XP : (Str → Option Value) → Heap → Prop} {YP : World → Heap → Prop} {d : DefRec} {K : Params → PySem.W.Frag} (hn : l.most = some 63) (hdf : d.params.defaults = [])
    (hY : ∀ (w : World) (h : Heap), YP w h → (K w.params).In h)
    (F : ∀ (w : World) (mg : Str → Option Value) (fa : Addr) (h : Heap), (K w.params).In h → h.Ns mainGlobals mg → mg d.name = some (.ref fa) →
      ∃ fd : FuncData, (∀ (s : Shared) (u : Value), BindsTo s fd ⟨[u], []⟩ [("_law_script", u)]) ∧ ∀ base : Heap, (K w.params).In base → base.Ns mainGlobals mg → FnOk l.prog w (K w.params) mg base CX0 7 fa fd ["_law_script"] (Fn1 (K w.params) (α := Scr) (β := Bool) (fun s => (∀ z ∈ s.l, Bt 1048576 z) ∧ s.l.length ≤ 63) (fun _ => true))) :
    PySem.W.WalkO q loose XP YP l.row.toRowW d [] (fun f vs => PySem.call f vs) :=
  L2.walk_ofB (n := 63) (k := 7) (x := "_law_script") (CX := fun _ => CX0) (sp := fun w => (Fn1 (K w.params) (α := Scr) (β := Bool) (fun s => (∀ z ∈ s.l, Bt 1048576 z) ∧ s.l.length ≤ 63) (fun _ => true))) hn (by decide) hdf ⟨rfl, by decide, by decide⟩ hY F (fun w H a ns hl hb _ hS => ⟨.ref a, ⟨ns⟩, rfl, ⟨a, rfl, hS⟩, ⟨fun z hz => Bt.of_bits (hb z hz), hl⟩, fun u H' _ r => r⟩) fun _ _ _ _ _ z => z
end Mt
open PySem PySem.W PyProof.Rows
set_option maxRecDepth 100000 in
set_option maxHeartbeats 0 in
theorem PySem.Challenge.cw_manytimes_k06_refused_holds : PySem.Challenge.rw_manytimes_k06_refused.Holds := by
  w_on; o_law; k_head; (case hw => w_witness2)
  k_fill
  refine Mt.walk (l := PySem.Challenge.rw_manytimes_k06_refused) rfl rfl (fun w h Y => PySem.W.kIn_of Y) ?F
  case F =>
    intro w mg fa h KX G hmg
    refine' Mt.all_mk KX G hmg ?C_is_number ?C_is_pair ?C_asked_pair ?C_most_of ?C_most ?C_taken_of ?C_taken ?C_worth_of ?C_worth ?C_asked_pairs ?C_sum_of ?C_times_to ?C_told ?C_row_of ?C_quotients ?C_is_row ?C_pair_of ?C_shortest ?C_longest ?C_l_bad_pair ?C_l_with_pair ?C_l_bad_row ?C_l_told ?C_law ?z_ValueError ?z_all ?z_bool ?z_enumerate ?z_int ?z_isinstance ?z_len ?z_list ?z_max ?z_min ?z_range ?z_sum ?z_tuple ?g_LONGEST ?g_MOST ?aA ?aL ?aW ?pL1 ?pL2 ?pL3 ?pL4 ?pL5 ?pL6 ?pW1 ?pW2 ?pW3 ?pW4 ?pW5 ?pW6 ?pC1 ?pC2 ?mL1 ?mL2 ?mL3 ?mW1 ?mW3 ?nA ?nT ?kLA ?kLL ?kLW ?kWA ?kWL ?kWW ?M_Lost_shows ?M_W_init ?M_Won_shows ?eT1 ?eP1 ?eP2 ?eP3 ?eP4 ?eP5 ?eP6 ?eP7 ?eP8 ?eP9 ?eP10 ?eP11 ?eP12 ?eK1 ?eK2 ?eK3 ?eK4 ?eK5 ?eK6 ?eK7 ?eK8 ?eK9 ?eK10 ?eK11 ?eK12 ?eR1 ?eR2 ?eR3 ?eR4 ?eR5 ?eR6 ?eR7 ?eR8 ?eR9 ?eR10 ?eR11 ?eR12 ?eS1 ?eS2 ?eS3 ?eS4 ?eS5 ?eS6 ?eS7 ?eS8 ?eS9 ?eS10 ?eS11 ?eS12 ?eT4 ?eT5 ?eT9 ?kkPP ?kkPK ?kkPR ?kkPS ?kkKP ?kkKK ?kkKR ?kkKS ?kkRP ?kkRK ?kkRR ?kkRS ?kkSP ?kkSK ?kkSR ?kkSS
    (case C_is_number => (refine' Mt.funIn_mk ?a ?l ?c ?k; (case a => k_is); (case l => k_is); (case c => k_is); (case k => k_is)))
    (case C_is_pair => (refine' Mt.funIn_mk ?a ?l ?c ?k; (case a => k_is); (case l => k_is); (case c => k_is); (case k => k_is)))
    (case C_asked_pair => (refine' Mt.funIn_mk ?a ?l ?c ?k; (case a => k_is); (case l => k_is); (case c => k_is); (case k => k_is)))
    (case C_most_of => (refine' Mt.funIn_mk ?a ?l ?c ?k; (case a => k_is); (case l => k_is); (case c => k_is); (case k => k_is)))
    (case C_most => (refine' Mt.funIn_mk ?a ?l ?c ?k; (case a => k_is); (case l => k_is); (case c => k_is); (case k => k_is)))
    (case C_taken_of => (refine' Mt.funIn_mk ?a ?l ?c ?k; (case a => k_is); (case l => k_is); (case c => k_is); (case k => k_is)))
    (case C_taken => (refine' Mt.funIn_mk ?a ?l ?c ?k; (case a => k_is); (case l => k_is); (case c => k_is); (case k => k_is)))
    (case C_worth_of => (refine' Mt.funIn_mk ?a ?l ?c ?k; (case a => k_is); (case l => k_is); (case c => k_is); (case k => k_is)))
    (case C_worth => (refine' Mt.funIn_mk ?a ?l ?c ?k; (case a => k_is); (case l => k_is); (case c => k_is); (case k => k_is)))
    (case C_asked_pairs => (refine' Mt.funIn_mk ?a ?l ?c ?k; (case a => k_is); (case l => k_is); (case c => k_is); (case k => k_is)))
    (case C_sum_of => (refine' Mt.funIn_mk ?a ?l ?c ?k; (case a => k_is); (case l => k_is); (case c => k_is); (case k => k_is)))
    (case C_times_to => (refine' Mt.funIn_mk ?a ?l ?c ?k; (case a => k_is); (case l => k_is); (case c => k_is); (case k => k_is)))
    (case C_told => (refine' Mt.funIn_mk ?a ?l ?c ?k; (case a => k_is); (case l => k_is); (case c => k_is); (case k => k_is)))
    (case C_row_of => (refine' Mt.funIn_mk ?a ?l ?c ?k; (case a => k_is); (case l => k_is); (case c => k_is); (case k => k_is)))
    (case C_quotients => (refine' Mt.funIn_mk ?a ?l ?c ?k; (case a => k_is); (case l => k_is); (case c => k_is); (case k => k_is)))
    (case C_is_row => (refine' Mt.funIn_mk ?a ?l ?c ?k; (case a => k_is); (case l => k_is); (case c => k_is); (case k => k_is)))
    (case C_pair_of => (refine' Mt.funIn_mk ?a ?l ?c ?k; (case a => k_is); (case l => k_is); (case c => k_is); (case k => k_is)))
    (case C_shortest => (refine' Mt.funIn_mk ?a ?l ?c ?k; (case a => k_is); (case l => k_is); (case c => k_is); (case k => k_is)))
    (case C_longest => (refine' Mt.funIn_mk ?a ?l ?c ?k; (case a => k_is); (case l => k_is); (case c => k_is); (case k => k_is)))
    (case C_l_bad_pair => (refine' Mt.funIn_mk ?a ?l ?c ?k; (case a => k_is); (case l => k_is); (case c => k_is); (case k => k_is)))
    (case C_l_with_pair => (refine' Mt.funIn_mk ?a ?l ?c ?k; (case a => k_is); (case l => k_is); (case c => k_is); (case k => k_is)))
    (case C_l_bad_row => (refine' Mt.funIn_mk ?a ?l ?c ?k; (case a => k_is); (case l => k_is); (case c => k_is); (case k => k_is)))
    (case C_l_told => (refine' Mt.funIn_mk ?a ?l ?c ?k; (case a => k_is); (case l => k_is); (case c => k_is); (case k => k_is)))
    (case C_law => (refine' Mt.funIn_mk ?a ?l ?c ?k; (case a => k_is); (case l => k_is); (case c => k_is); (case k => k_is)))
    (case z_ValueError => k_is)
    (case z_all => k_is)
    (case z_bool => k_is)
    (case z_enumerate => k_is)
    (case z_int => k_is)
    (case z_isinstance => k_is)
    (case z_len => k_is)
    (case z_list => k_is)
    (case z_max => k_is)
    (case z_min => k_is)
    (case z_range => k_is)
    (case z_sum => k_is)
    (case z_tuple => k_is)
    (case g_LONGEST => k_is)
    (case g_MOST => k_is)
    (case aA => k_is)
    (case aL => k_is)
    (case aW => k_is)
    (case pL1 => k_is)
    (case pL2 => k_is)
    (case pL3 => k_is)
    (case pL4 => k_is)
    (case pL5 => k_is)
    (case pL6 => k_is)
    (case pW1 => k_is)
    (case pW2 => k_is)
    (case pW3 => k_is)
    (case pW4 => k_is)
    (case pW5 => k_is)
    (case pW6 => k_is)
    (case pC1 => k_is)
    (case pC2 => k_is)
    (case mL1 => k_is)
    (case mL2 => k_is)
    (case mL3 => k_is)
    (case mW1 => k_is)
    (case mW3 => k_is)
    (case nA => k_is)
    (case nT => k_is)
    (case kLA => kit_is)
    (case kLL => kit_is)
    (case kLW => kit_is)
    (case kWA => kit_is)
    (case kWL => kit_is)
    (case kWW => kit_is)
    (case M_Lost_shows => (refine' Mt.methIn_mk ?a ?i ?l ?c ?k; (case a => k_is); (case i => k_is); (case l => k_is); (case c => k_is); (case k => k_is)))
    (case M_W_init => (refine' Mt.methIn_mk ?a ?i ?l ?c ?k; (case a => k_is); (case i => k_is); (case l => k_is); (case c => k_is); (case k => k_is)))
    (case M_Won_shows => (refine' Mt.methIn_mk ?a ?i ?l ?c ?k; (case a => k_is); (case i => k_is); (case l => k_is); (case c => k_is); (case k => k_is)))
    (case eT1 => k_is)
    (case eP1 => k_is)
    (case eP2 => k_exc)
    (case eP3 => k_is)
    (case eP4 => k_is)
    (case eP5 => k_is)
    (case eP6 => first | k_is | rfl)
    (case eP7 => k_is)
    (case eP8 => k_is)
    (case eP9 => k_is)
    (case eP10 => k_is)
    (case eP11 => k_is)
    (case eP12 => kit_is)
    (case eK1 => k_is)
    (case eK2 => k_exc)
    (case eK3 => k_is)
    (case eK4 => k_is)
    (case eK5 => k_is)
    (case eK6 => first | k_is | rfl)
    (case eK7 => k_is)
    (case eK8 => k_is)
    (case eK9 => k_is)
    (case eK10 => k_is)
    (case eK11 => k_is)
    (case eK12 => kit_is)
    (case eR1 => k_is)
    (case eR2 => k_exc)
    (case eR3 => k_is)
    (case eR4 => k_is)
    (case eR5 => k_is)
    (case eR6 => first | k_is | rfl)
    (case eR7 => k_is)
    (case eR8 => k_is)
    (case eR9 => k_is)
    (case eR10 => k_is)
    (case eR11 => k_is)
    (case eR12 => kit_is)
    (case eS1 => k_is)
    (case eS2 => k_exc)
    (case eS3 => k_is)
    (case eS4 => k_is)
    (case eS5 => k_is)
    (case eS6 => first | k_is | rfl)
    (case eS7 => k_is)
    (case eS8 => k_is)
    (case eS9 => k_is)
    (case eS10 => k_is)
    (case eS11 => k_is)
    (case eS12 => kit_is)
    (case eT4 => k_is)
    (case eT5 => k_is)
    (case eT9 => k_is)
    (case kkPP => kit_is)
    (case kkPK => kit_is)
    (case kkPR => kit_is)
    (case kkPS => kit_is)
    (case kkKP => kit_is)
    (case kkKK => kit_is)
    (case kkKR => kit_is)
    (case kkKS => kit_is)
    (case kkRP => kit_is)
    (case kkRK => kit_is)
    (case kkRR => kit_is)
    (case kkRS => kit_is)
    (case kkSP => kit_is)
    (case kkSK => kit_is)
    (case kkSR => kit_is)
    (case kkSS => kit_is)
#print axioms PySem.Challenge.cw_manytimes_k06_refused_holds
