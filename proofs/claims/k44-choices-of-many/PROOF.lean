import PyProof.Rows.All
import Wide.All
import OpenK.AllK
import Wide.FinOn
import HandS.ForMost
import HandS.ForExc
import HandS.IsInst
import HandS.ExcIs
import HandS.TupAny
import HandS.Evl
import HandS.Walk
import HandS.Zip
import HandS.Wide
import HandS.CallSlots
import PySem.Challenge.RW_digitroots_k44_whole_choices_of_many
set_option Elab.async false
set_option linter.all false
set_option maxRecDepth 100000
set_option maxHeartbeats 4000000
/-! Readings by what they represent: Er (a value), El (a new list), Et (a test); the bag of a law. -/
namespace Dg
open PySem PySem.Spec PyProof.Rows L2 Evl

/-! ### steps of the heap -/
/-- at most what stands at p is changed -/
def C1 (p : Addr) (H H' : Hp) : Prop := ∀ a o, a ≠ p → H a = some o → H' a = some o
theorem C1.ex {p : Addr} {H H' : Hp} (e : Ex H H') : C1 p H H' := fun a o _ h => e a o h
theorem C1.refl (p : Addr) (H : Hp) : C1 p H H := fun _ _ _ h => h
theorem C1.trans {p : Addr} {H H1 H2 : Hp} (a : C1 p H H1) (b : C1 p H1 H2) : C1 p H H2 := fun x o n h => b x o n (a x o n h)
theorem C1.up {p : Addr} {H H' : Hp} {o : HO} (a : C1 p H H') : C1 p H (upd H' p o) := fun x u n h => by rw [upd_ne n]; exact a x u n h
theorem C1.upn {p q : Addr} {H H' : Hp} {o : HO} (a : C1 p H H') (hq : H q = none) : C1 p H (upd H' q o) := fun x u n h => by rw [upd_ne (ne_of_none h hq)]; exact a x u n h
/-- a step that turns p alone, p new to H -/
theorem C1.ofNew {p : Addr} {H H1 H2 : Hp} (e : Ex H H1) (hp : H p = none) (c : C1 p H1 H2) : Ex H H2 := fun a o h => c a o (ne_of_none h hp) (e a o h)
theorem C1.ofNew2 {b p : Addr} {H H1 H2 : Hp} (e : C1 b H H1) (hp : H p = none) (c : C1 p H1 H2) : C1 b H H2 := fun a o n h => c a o (ne_of_none h hp) (e a o n h)

/-- what is read as a tuple stays so -/
def Kt (K : PySem.W.Frag) (H H' : Hp) : Prop := ∀ a xs, SqT K H a xs → SqT K H' a xs
theorem Kt.refl {K : PySem.W.Frag} (H : Hp) : Kt K H H := fun _ _ h => h
theorem Kt.trans {K : PySem.W.Frag} {H H1 H2 : Hp} (a : Kt K H H1) (b : Kt K H1 H2) : Kt K H H2 := fun x o h => b x o (a x o h)
theorem Kt.ex {K : PySem.W.Frag} {H H' : Hp} (e : Ex H H') : Kt K H H' := fun _ _ h => ex_t e h
theorem Kt.c1 {K : PySem.W.Frag} {p : Addr} {xs : List V} {H H' : Hp} (hp : H p = some (.lst xs)) (c : C1 p H H') : Kt K H H' := fun a ys h => by
  rcases h with (h | ⟨o, h⟩) | h
  · exact .inl (.inl (c a _ (ne_of h hp (by intro z; cases z)) h))
  · exact .inl (.inr ⟨o, c a _ (ne_of h hp (by intro z; cases z)) h⟩)
  · exact .inr h

/-! ### what a value stands for -/
abbrev Rp (α : Type) := Hp → α → V → Prop
def rI : Rp Int := fun _ i v => v = .int i
def rB : Rp Bool := fun _ b v => v = .bl b
def rS : Rp Str := fun _ s v => v = .str s
def rN : Rp Unit := fun _ _ v => v = .non
/-- a tuple, a list of such -/
def rT {α : Type} (K : PySem.W.Frag) (R : Rp α) : Rp (List α) := fun H xs v => ∃ a vs, v = .ref a ∧ SqT K H a vs ∧ Paired (R H) xs vs
def rL {α : Type} (K : PySem.W.Frag) (R : Rp α) : Rp (List α) := fun H xs v => ∃ a vs, v = .ref a ∧ SqL K H a vs ∧ Paired (R H) xs vs
def r2 {α β : Type} (K : PySem.W.Frag) (R : Rp α) (S : Rp β) : Rp (α × β) := fun H x v => ∃ a u w, v = .ref a ∧ SqT K H a [u, w] ∧ R H x.1 u ∧ S H x.2 w
/-- stays while tuples stay -/
class Mkt {α : Type} (K : PySem.W.Frag) (R : Rp α) : Prop where
  kt : ∀ {H H' : Hp} {x : α} {v : V}, Kt K H H' → R H x v → R H' x v
/-- stays while all stays -/
class Me {α : Type} (R : Rp α) : Prop where
  ex : ∀ {H H' : Hp} {x : α} {v : V}, Ex H H' → R H x v → R H' x v
theorem pm {α β : Type} {F G : α → β → Prop} {l : List α} {m : List β} (h : Paired F l m) (f : ∀ a b, F a b → G a b) : Paired G l m := Paired.mapP h f

section
variable {α β γ : Type} {K : PySem.W.Frag} {H H' : Hp}
instance : Me rI := ⟨fun _ h => h⟩
instance : Me rB := ⟨fun _ h => h⟩
instance : Me rS := ⟨fun _ h => h⟩
instance : Me rN := ⟨fun _ h => h⟩
instance {R : Rp α} [r : Me R] : Me (rT K R) := ⟨fun e ⟨a, vs, h1, h2, h3⟩ => ⟨a, vs, h1, ex_t e h2, pm h3 fun _ _ z => r.ex e z⟩⟩
instance {R : Rp α} [r : Me R] : Me (rL K R) := ⟨fun e ⟨a, vs, h1, h2, h3⟩ => ⟨a, vs, h1, ex_l e h2, pm h3 fun _ _ z => r.ex e z⟩⟩
instance {R : Rp α} {S : Rp β} [r : Me R] [s : Me S] : Me (r2 K R S) := ⟨fun e ⟨a, u, w, h1, h2, h3, h4⟩ => ⟨a, u, w, h1, ex_t e h2, r.ex e h3, s.ex e h4⟩⟩
instance : Mkt K rI := ⟨fun _ h => h⟩
instance : Mkt K rB := ⟨fun _ h => h⟩
instance : Mkt K rS := ⟨fun _ h => h⟩
instance : Mkt K rN := ⟨fun _ h => h⟩
instance {R : Rp α} [r : Mkt K R] : Mkt K (rT K R) := ⟨fun e ⟨a, vs, h1, h2, h3⟩ => ⟨a, vs, h1, e _ _ h2, pm h3 fun _ _ z => r.kt e z⟩⟩
instance {R : Rp α} {S : Rp β} [r : Mkt K R] [s : Mkt K S] : Mkt K (r2 K R S) := ⟨fun e ⟨a, u, w, h1, h2, h3, h4⟩ => ⟨a, u, w, h1, e _ _ h2, r.kt e h3, s.kt e h4⟩⟩
/-- a list of this def's own, at p -/
def Lt (R : Rp α) (H : Hp) (p : Addr) (xs : List α) : Prop := ∃ vs, H p = some (.lst vs) ∧ Paired (R H) xs vs
theorem Lt.rl {R : Rp α} {p : Addr} {xs : List α} (h : Lt R H p xs) : rL K R H xs (.ref p) := let ⟨vs, h1, h2⟩ := h; ⟨p, vs, rfl, SqL.of h1, h2⟩
theorem Lt.ex {R : Rp α} [Me R] {p : Addr} {xs : List α} (h : Lt R H p xs) (e : Ex H H') : Lt R H' p xs := let ⟨vs, h1, h2⟩ := h; ⟨vs, e _ _ h1, pm h2 fun _ _ z => Me.ex e z⟩
theorem Lt.c1 {R : Rp α} [Mkt K R] {p q : Addr} {xs : List α} {ys : List V} (h : Lt R H p xs) (hq : H q = some (.lst ys)) (c : C1 q H H') (n : p ≠ q) : Lt R H' p xs := let ⟨vs, h1, h2⟩ := h; ⟨vs, c _ _ n h1, pm h2 fun _ _ z => Mkt.kt (Kt.c1 (K := K) hq c) z⟩

/-! ### ints by map -/
theorem pI : ∀ {xs : List Int} {vs : List V}, Paired (rI H) xs vs → vs = xs.map V.int
  | [], _, .nil => rfl
  | x :: xs, _, .cons r t => by
    have e : _ = V.int x := r
    rw [e, pI t]
    rfl
theorem pI' : ∀ (xs : List Int), Paired (rI H) xs (xs.map V.int)
  | [] => .nil
  | _ :: xs => .cons rfl (pI' xs)
theorem paired_len {F : α → β → Prop} : ∀ {l : List α} {m : List β}, Paired F l m → l.length = m.length
  | _, _, .nil => rfl
  | _, _, .cons _ t => by rw [List.length_cons, List.length_cons, paired_len t]
theorem paired_get {F : α → β → Prop} : ∀ {l : List α} {m : List β} {i : Nat} {x : α}, Paired F l m → l[i]? = some x → ∃ y, m[i]? = some y ∧ F x y
  | _, _, i, _, .nil, h => by simp at h
  | _, _, 0, _, .cons r _, h => by
    simp only [List.getElem?_cons_zero, Option.some.injEq] at h
    subst h
    exact ⟨_, rfl, r⟩
  | _, _, i + 1, _, .cons _ t, h => by
    simp only [List.getElem?_cons_succ] at h
    exact paired_get (i := i) t h
theorem paired_get' {F : α → β → Prop} : ∀ {l : List α} {m : List β} {i : Nat} {y : β}, Paired F l m → m[i]? = some y → ∃ x, l[i]? = some x ∧ F x y
  | _, _, i, _, .nil, h => by simp at h
  | _, _, 0, _, .cons r _, h => by
    simp only [List.getElem?_cons_zero, Option.some.injEq] at h
    subst h
    exact ⟨_, rfl, r⟩
  | _, _, i + 1, _, .cons _ t, h => by
    simp only [List.getElem?_cons_succ] at h
    exact paired_get' (i := i) t h
theorem paired_append {F : α → β → Prop} : ∀ {l l' : List α} {m m' : List β}, Paired F l m → Paired F l' m' → Paired F (l ++ l') (m ++ m')
  | _, _, _, _, .nil, h => h
  | _, _, _, _, .cons r t, h => .cons r (paired_append t h)
theorem paired_set {F : α → β → Prop} : ∀ {l : List α} {m : List β} (i : Nat) {x : α} {y : β}, Paired F l m → F x y → Paired F (l.set i x) (m.set i y)
  | _, _, _, _, _, .nil, _ => .nil
  | _, _, 0, _, _, .cons _ t, h => .cons h t
  | _, _, i + 1, _, _, .cons r t, h => .cons r (paired_set i t h)
theorem paired_take {F : α → β → Prop} : ∀ {l : List α} {m : List β} (n : Nat), Paired F l m → Paired F (l.take n) (m.take n)
  | _, _, 0, _ => .nil
  | _, _, _ + 1, .nil => .nil
  | _, _, n + 1, .cons r t => .cons r (paired_take n t)
theorem paired_drop {F : α → β → Prop} : ∀ {l : List α} {m : List β} (n : Nat), Paired F l m → Paired F (l.drop n) (m.drop n)
  | _, _, 0, h => h
  | _, _, _ + 1, .nil => .nil
  | _, _, n + 1, .cons _ t => paired_drop n t
theorem paired_rep {F : α → β → Prop} {x : α} {y : β} (h : F x y) : ∀ n : Nat, Paired F (List.replicate n x) (List.replicate n y)
  | 0 => .nil
  | n + 1 => .cons h (paired_rep h n)
theorem paired_reverse {F : α → β → Prop} : ∀ {l : List α} {m : List β}, Paired F l m → Paired F l.reverse m.reverse
  | _, _, .nil => .nil
  | _, _, .cons r t => by
    rw [List.reverse_cons, List.reverse_cons]
    exact paired_append (paired_reverse t) (.cons r .nil)

/-! ### a reading's value by what it stands for -/
def Er (R : Rp α) (t : TE) (σ : L2.St) (H : Hp) (x : α) : Prop := ∀ H1, Ex H H1 → ∀ Q : VK, (∀ v H2, Ex H1 H2 → R H2 x v → Q v H2) → t σ H1 Q
/-- a new list -/
def El (R : Rp α) (t : TE) (σ : L2.St) (H : Hp) (xs : List α) : Prop := ∀ H1, Ex H H1 → ∀ Q : VK, (∀ p H2, H1 p = none → Ex H1 H2 → Lt R H2 p xs → Q (.ref p) H2) → t σ H1 Q
abbrev Et := EvT
/-- arguments -/
def Ea (t : TA) (σ : L2.St) (H : Hp) (P : List V → Hp → Prop) : Prop := ∀ H1, Ex H H1 → ∀ Q : List V → Hp → Prop, (∀ vs H2, Ex H1 H2 → P vs H2 → Q vs H2) → t σ H1 Q

variable {σ : L2.St} {ta tb te : TE} {t u : TT} {R : Rp α} {S : Rp β} {x y z : α}
theorem Er.mono (h : Er R te σ H x) (e : Ex H H') : Er R te σ H' x := fun H1 a Q q => h H1 (e.trans a) Q q
theorem El.er {xs : List α} (h : El R te σ H xs) : Er (rL K R) te σ H xs := fun H1 e Q q => h H1 e Q fun p H2 _ e2 l => q _ H2 e2 l.rl
theorem er_is (h : Er R te σ H x) (e : x = y) : Er R te σ H y := e ▸ h
theorem er_var [Me R] {i : Nat} {v : V} (h : σ[i]? = some (some v)) (r : R H x v) : Er R (tVar i) σ H x := fun H1 e _ q => ⟨v, h, q v H1 (Ex.refl H1) (Me.ex e r)⟩
theorem er_iv {i : Nat} {k : Int} (h : σ[i]? = some (some (.int k)) := by rfl) : Er rI (tVar i) σ H k := fun H1 e _ q => ⟨_, h, q _ H1 (Ex.refl H1) rfl⟩
theorem er_bv {i : Nat} {k : Bool} (h : σ[i]? = some (some (.bl k)) := by rfl) : Er rB (tVar i) σ H k := fun H1 e _ q => ⟨_, h, q _ H1 (Ex.refl H1) rfl⟩
theorem er_int {k : Int} : Er rI (tC (.int k)) σ H k := fun H1 e _ q => q _ H1 (Ex.refl H1) rfl
theorem er_bl {k : Bool} : Er rB (tC (.bl k)) σ H k := fun H1 e _ q => q _ H1 (Ex.refl H1) rfl
theorem er_str {k : Str} : Er rS (tC (.str k)) σ H k := fun H1 e _ q => q _ H1 (Ex.refl H1) rfl
/-- ints: operators -/
theorem er_op0 {g : Int → Int → Int} {i j : Int} (ha : Er rI ta σ H i) (hb : Er rI tb σ H j) : Er rI (tOp (rI0 fun i j => V.int (g i j)) ta tb) σ H (g i j) := fun H1 e Q q =>
  ha H1 e _ fun v H2 e2 r1 => hb H2 (e.trans e2) _ fun w H3 e3 r2 => ⟨i, j, r1, r2, q _ H3 (e2.trans e3) rfl⟩
theorem er_op {C : Int → Int → Prop} {g : Int → Int → Int} {i j : Int} (ha : Er rI ta σ H i) (hb : Er rI tb σ H j) (hc : C i j) : Er rI (tOp (L2.rI C fun i j => V.int (g i j)) ta tb) σ H (g i j) := fun H1 e Q q =>
  ha H1 e _ fun v H2 e2 r1 => hb H2 (e.trans e2) _ fun w H3 e3 r2 => ⟨i, j, r1, r2, hc, q _ H3 (e2.trans e3) rfl⟩
theorem er_cmp {g : Int → Int → Bool} {i j : Int} (ha : Er rI ta σ H i) (hb : Er rI tb σ H j) : Er rB (tOp (rI0 fun i j => V.bl (g i j)) ta tb) σ H (g i j) := fun H1 e Q q =>
  ha H1 e _ fun v H2 e2 r1 => hb H2 (e.trans e2) _ fun w H3 e3 r2 => ⟨i, j, r1, r2, q _ H3 (e2.trans e3) rfl⟩
theorem er_neg {i : Int} (ha : Er rI ta σ H i) : Er rI (tUn (rU fun i => V.int (-i)) ta) σ H (-i) := fun H1 e Q q => ha H1 e _ fun v H2 e2 r1 => ⟨i, r1, q _ H2 e2 rfl⟩
theorem er_eqI {i j : Int} (ha : Er rI ta σ H i) (hb : Er rI tb σ H j) : Er rB (tOp rEq ta tb) σ H (decide (i = j)) := fun H1 e Q q =>
  ha H1 e _ fun v H2 e2 r1 => hb H2 (e.trans e2) _ fun w H3 e3 r2 => by
    cases r1; cases r2
    exact ⟨rfl, q _ H3 (e2.trans e3) (by show V.bl _ = V.bl _; congr 1; exact decide_eq_decide.mpr ⟨fun z => V.int.inj z, fun z => congrArg V.int z⟩)⟩
theorem er_neI {i j : Int} (ha : Er rI ta σ H i) (hb : Er rI tb σ H j) : Er rB (tOp rNe ta tb) σ H (!decide (i = j)) := fun H1 e Q q =>
  ha H1 e _ fun v H2 e2 r1 => hb H2 (e.trans e2) _ fun w H3 e3 r2 => by
    cases r1; cases r2
    exact ⟨rfl, q _ H3 (e2.trans e3) (by show V.bl _ = V.bl _; congr 2; exact decide_eq_decide.mpr ⟨fun z => V.int.inj z, fun z => congrArg V.int z⟩)⟩
/-- tests -/
theorem et_t {b : Bool} (h : Er rB te σ H b) : Et (tTest te) σ H b := fun H1 e _ q => h H1 e _ fun v H2 e2 r => ⟨b, r, q H2 e2⟩
theorem et_b {b : Bool} (h : Er rB te σ H b) : Et (tB te) σ H b := fun H1 e _ q => h H1 e _ fun v H2 e2 r => ⟨b, r, q H2 e2⟩
theorem er_andV {a b : Bool} (h1 : Er rB ta σ H a) (h2 : a = true → Er rB tb σ H b) : Er rB (tAndV ta tb) σ H (a && b) := fun H1 e Q q => h1 H1 e _ fun v H2 e2 r => ⟨a, r, by
  cases a with
  | true =>
    show tb σ H2 Q
    exact h2 rfl H2 (e.trans e2) Q fun w H3 e3 r3 => q w H3 (e2.trans e3) r3
  | false =>
    show Q (.bl false) H2
    exact q _ H2 e2 rfl⟩
theorem er_orV {a b : Bool} (h1 : Er rB ta σ H a) (h2 : a = false → Er rB tb σ H b) : Er rB (tOrV ta tb) σ H (a || b) := fun H1 e Q q => h1 H1 e _ fun v H2 e2 r => ⟨a, r, by
  cases a with
  | true =>
    show Q (.bl true) H2
    exact q _ H2 e2 rfl
  | false =>
    show tb σ H2 Q
    exact h2 rfl H2 (e.trans e2) Q fun w H3 e3 r3 => q w H3 (e2.trans e3) r3⟩
theorem er_notV {a : Bool} (h1 : Er rB ta σ H a) : Er rB (tNotV ta) σ H (!a) := fun H1 e Q q => h1 H1 e _ fun v H2 e2 r => ⟨a, r, q _ H2 e2 rfl⟩
theorem er_if {b : Bool} (h : Et t σ H b) (h1 : b = true → Er R ta σ H x) (h2 : b = false → Er R tb σ H y) : Er R (tIf t ta tb) σ H (if b = true then x else y) := fun H1 e Q q => h H1 e _ fun H2 e2 => by
  cases b with
  | true =>
    show ta σ H2 Q
    exact h1 rfl H2 (e.trans e2) Q fun w H3 e3 r3 => q w H3 (e2.trans e3) r3
  | false =>
    show tb σ H2 Q
    exact h2 rfl H2 (e.trans e2) Q fun w H3 e3 r3 => q w H3 (e2.trans e3) r3
/-- argument lists -/
def A0 : List V → Hp → Prop := fun vs _ => vs = []
def Ac (R : Rp α) (x : α) (P : List V → Hp → Prop) : List V → Hp → Prop := fun vs H => ∃ v r, vs = v :: r ∧ R H x v ∧ P r H
theorem ea0 : Ea tNil σ H A0 := fun H1 e Q q => q [] H1 (Ex.refl H1) rfl
theorem eac [Me R] {tr : TA} {P : List V → Hp → Prop} (h : Er R ta σ H x) (hr : Ea tr σ H P) : Ea (tCons ta tr) σ H (Ac R x P) := fun H1 e Q q =>
  h H1 e _ fun v H2 e2 r2 => hr H2 (e.trans e2) _ fun vs H3 e3 p => q (v :: vs) H3 (e2.trans e3) ⟨v, vs, rfl, Me.ex e3 r2, p⟩
/-- a def's promise: from P of its arguments to the value x -/
def Gv (sp : Sp) (P : List V → Hp → Prop) (R : Rp α) (x : α) : Prop := ∀ vs H1, P vs H1 → ∀ (Q : VK) (E : XK), (∀ v H2, Ex H1 H2 → R H2 x v → Q v H2) → sp vs H1 Q E
theorem er_call {sp : Sp} {E : XK} {tr : TA} {P : List V → Hp → Prop} (h : Ea tr σ H P) (g : Gv sp P R x) : Er R (tCall sp [] E tr) σ H x := fun H1 e Q q =>
  h H1 e _ fun vs H2 e2 p => by
    show sp (vs ++ []) H2 Q E
    rw [List.append_nil]
    exact g vs H2 p Q E fun v H3 e3 r => q v H3 (e2.trans e3) r
/-- a built-in's rule -/
def Gb (r : List V → Hp → VK → Prop) (P : List V → Hp → Prop) (R : Rp α) (x : α) : Prop := ∀ vs H1, P vs H1 → ∀ (Q : VK), (∀ v H2, Ex H1 H2 → R H2 x v → Q v H2) → r vs H1 Q
theorem er_cb {r : List V → Hp → VK → Prop} {tr : TA} {P : List V → Hp → Prop} (h : Ea tr σ H P) (g : Gb r P R x) : Er R (tCB r tr) σ H x := fun H1 e Q q =>
  h H1 e _ fun vs H2 e2 p => g vs H2 p Q fun v H3 e3 r => q v H3 (e2.trans e3) r

/-! ### statements -/
variable {D : Ends} {tu tw tz : TS} {j : Nat}
theorem s_asgI {i : Int} (h : Er rI te σ H i) (k : ∀ H1, Ex H H1 → D.nx (σ.set j (some (.int i))) H1) : tAsg te (gName j) D σ H := h H (Ex.refl H) _ fun v H1 e r => by
  cases r
  exact k H1 e
theorem s_asgB {i : Bool} (h : Er rB te σ H i) (k : ∀ H1, Ex H H1 → D.nx (σ.set j (some (.bl i))) H1) : tAsg te (gName j) D σ H := h H (Ex.refl H) _ fun v H1 e r => by
  cases r
  exact k H1 e
theorem s_asgS {i : Str} (h : Er rS te σ H i) (k : ∀ H1, Ex H H1 → D.nx (σ.set j (some (.str i))) H1) : tAsg te (gName j) D σ H := h H (Ex.refl H) _ fun v H1 e r => by
  cases r
  exact k H1 e
theorem s_asg (h : Er R te σ H x) (k : ∀ v H1, Ex H H1 → R H1 x v → D.nx (σ.set j (some v)) H1) : tAsg te (gName j) D σ H := h H (Ex.refl H) _ fun v H1 e r => k v H1 e r
theorem s_asgL {xs : List α} (h : El R te σ H xs) (k : ∀ p H1, H p = none → Ex H H1 → Lt R H1 p xs → D.nx (σ.set j (some (.ref p))) H1) : tAsg te (gName j) D σ H := h H (Ex.refl H) _ k
theorem s_ret (h : Er R te σ H x) (k : ∀ v H1, Ex H H1 → R H1 x v → D.rt v H1) : tRet te D σ H := h H (Ex.refl H) _ k
theorem s_drop (h : Er R te σ H x) (k : ∀ H1, Ex H H1 → D.nx σ H1) : tDrop te D σ H := h H (Ex.refl H) _ fun _ H1 e _ => k H1 e
theorem s_if {b : Bool} (h : Et t σ H b) (h1 : b = true → ∀ H1, Ex H H1 → tu D σ H1) (h2 : b = false → ∀ H1, Ex H H1 → tw D σ H1) : tIfS t tu tw D σ H := Evl.s_if h h1 h2
theorem s_when {b : Bool} (h : Et t σ H b) (h1 : b = true → ∀ H1, Ex H H1 → tu D σ H1) (h2 : b = false → ∀ H1, Ex H H1 → D.nx σ H1) : tIfS t tu tNext D σ H := Evl.s_if h h1 h2
theorem sz0 {n : Nat} (h : n < 1000000) : n < sizeLine := Nat.lt_of_lt_of_le h (by decide)
theorem sz1 {n : Nat} (h : n ≤ 1000000) : n ≤ sizeLine := Nat.le_trans h (by decide)
/-- xs.append(e): an own list -/
theorem s_app [Mkt K R] {l : Addr} {xs : List α} (hl : Lt R H l xs) (hi : σ[j]? = some (some (.ref l))) (h : Er R te σ H x) (hz : xs.length < 1000000) (k : ∀ H1, C1 l H H1 → Lt R H1 l (xs ++ [x]) → D.nx σ H1) :
    tDrop (tBM K "list" rAppend (tVar j) (tCons te tNil)) D σ H := by
  obtain ⟨vs, h1, h2⟩ := hl
  refine ⟨_, hi, .inl ⟨rfl, vs, SqL.of h1⟩, ?_⟩
  refine h H (Ex.refl H) _ fun v H1 e r => ⟨l, vs, v, rfl, rfl, e _ _ h1, ?_, ?_⟩
  · rw [← paired_len h2]
    exact sz0 hz
  · have kt1 : Kt K H1 (upd H1 l (.lst (vs ++ [v]))) := Kt.c1 (e _ _ h1) (C1.up (C1.refl l H1))
    exact k _ (C1.up (C1.ex e)) ⟨_, upd_same, paired_append (pm h2 fun _ _ z => Mkt.kt ((Kt.ex (K := K) e).trans kt1) z) (.cons (Mkt.kt kt1 r) .nil)⟩
theorem s_while (W : Nat → L2.St → Hp → Prop) (m0 : Nat) (h0 : W m0 σ H)
    (hs : ∀ m σ' H', W m σ' H' → ∃ b, Et t σ' H' b ∧ (b = true → ∀ H1, Ex H' H1 → ∃ N : L2.St → Hp → Prop, (∀ σ2 H2, N σ2 H2 → ∃ m', m' < m ∧ W m' σ2 H2) ∧ tu { D with nx := N, ct := N, bk := D.nx } σ' H1) ∧ (b = false → ∀ H1, Ex H' H1 → D.nx σ' H1)) : tWhile t tu D σ H := Evl.s_while W m0 h0 hs

/-! ### more values: lists and tuples read -/
theorem er_sv {i : Nat} {k : Str} (h : σ[i]? = some (some (.str k)) := by rfl) : Er rS (tVar i) σ H k := fun H1 e _ q => ⟨_, h, q _ H1 (Ex.refl H1) rfl⟩
theorem er_nv {i : Nat} (h : σ[i]? = some (some .non) := by rfl) : Er rN (tVar i) σ H () := fun H1 e _ q => ⟨_, h, q _ H1 (Ex.refl H1) rfl⟩
theorem er_non : Er rN (tC .non) σ H () := fun H1 e _ q => q _ H1 (Ex.refl H1) rfl
/-- go on with an int at hand -/
theorem go_I {Q : VK} {i : Int} (h : Er rI te σ H i) (k : ∀ H1, Ex H H1 → Q (.int i) H1) : te σ H Q := h H (Ex.refl H) _ fun v H1 e r => by cases r; exact k H1 e
theorem go_R {Q : VK} (h : Er R te σ H x) (k : ∀ v H1, Ex H H1 → R H1 x v → Q v H1) : te σ H Q := h H (Ex.refl H) _ k
theorem go_L {Q : VK} {xs : List α} (h : El R te σ H xs) (k : ∀ p H1, H p = none → Ex H H1 → Lt R H1 p xs → Q (.ref p) H1) : te σ H Q := h H (Ex.refl H) _ k
/-- the place of an index -/
def ixs (n : Nat) (i : Int) : Nat := if 0 ≤ i then i.toNat else (i + n).toNat
theorem ixN_ixs {n : Nat} {i : Int} (h1 : -(n : Int) ≤ i) (h2 : i < n) : ixN n i = some (ixs n i) ∧ ixs n i < n := by
  unfold ixN ixs
  by_cases h : 0 ≤ i
  · rw [if_pos h, if_pos h2, if_pos h]
    exact ⟨rfl, by omega⟩
  · rw [if_neg h, if_pos h1, if_neg h]
    exact ⟨rfl, by omega⟩
theorem atI_ixs {xs : List V} {i : Int} {v : V} (h1 : -(xs.length : Int) ≤ i) (h2 : i < xs.length) (h : xs[ixs xs.length i]? = some v) : atI xs i = some v := by
  unfold atI
  rw [(ixN_ixs h1 h2).1]
  exact h
theorem er_ixL [Me R] {xs : List α} {i : Int} (ha : Er (rL K R) ta σ H xs) (hb : Er rI tb σ H i) (h1 : -(xs.length : Int) ≤ i) (h2 : i < xs.length) (hx : xs[ixs xs.length i]? = some x) : Er R (tOp (rIxL K) ta tb) σ H x := fun H1 e Q q =>
  ha H1 e _ fun v H2 e2 r1 => hb H2 (e.trans e2) _ fun w H3 e3 r2 => by
    cases r2
    obtain ⟨a, vs, rfl, hs, hp⟩ := r1
    obtain ⟨u, hu, ru⟩ := paired_get hp hx
    have hl := paired_len hp
    rw [hl] at h1 h2 hu
    exact ⟨a, vs, i, u, rfl, rfl, ex_l e3 hs, atI_ixs h1 h2 hu, q u H3 (e2.trans e3) (Me.ex e3 ru)⟩
theorem er_ixT [Me R] {xs : List α} {i : Int} (ha : Er (rT K R) ta σ H xs) (hb : Er rI tb σ H i) (h1 : -(xs.length : Int) ≤ i) (h2 : i < xs.length) (hx : xs[ixs xs.length i]? = some x) : Er R (tOp (rIxT K) ta tb) σ H x := fun H1 e Q q =>
  ha H1 e _ fun v H2 e2 r1 => hb H2 (e.trans e2) _ fun w H3 e3 r2 => by
    cases r2
    obtain ⟨a, vs, rfl, hs, hp⟩ := r1
    obtain ⟨u, hu, ru⟩ := paired_get hp hx
    have hl := paired_len hp
    rw [hl] at h1 h2 hu
    exact ⟨a, vs, i, u, rfl, rfl, ex_t e3 hs, atI_ixs h1 h2 hu, q u H3 (e2.trans e3) (Me.ex e3 ru)⟩
/-- by a place from 0 on -/
def gt0 (d : α) (xs : List α) (i : Int) : α := (xs[ixs xs.length i]?).getD d
theorem gt0_nat (d : α) (xs : List α) (i : Nat) : gt0 d xs (i : Int) = (xs[i]?).getD d := by unfold gt0 ixs; rw [if_pos (by omega)]; rfl
theorem gt0_some {d : α} {xs : List α} {i : Int} (h1 : -(xs.length : Int) ≤ i) (h2 : i < xs.length) : xs[ixs xs.length i]? = some (gt0 d xs i) := by
  have h := (ixN_ixs h1 h2).2
  unfold gt0
  rw [List.getElem?_eq_getElem h]
  rfl
theorem er_ixL0 [Me R] (d : α) {xs : List α} {i : Int} (ha : Er (rL K R) ta σ H xs) (hb : Er rI tb σ H i) (h1 : -(xs.length : Int) ≤ i) (h2 : i < xs.length) : Er R (tOp (rIxL K) ta tb) σ H (gt0 d xs i) := er_ixL ha hb h1 h2 (gt0_some h1 h2)
theorem er_ixT0 [Me R] (d : α) {xs : List α} {i : Int} (ha : Er (rT K R) ta σ H xs) (hb : Er rI tb σ H i) (h1 : -(xs.length : Int) ≤ i) (h2 : i < xs.length) : Er R (tOp (rIxT K) ta tb) σ H (gt0 d xs i) := er_ixT ha hb h1 h2 (gt0_some h1 h2)
/-- len -/
def rLenQ (K : PySem.W.Frag) : List V → Hp → VK → Prop := fun xs H Q => ∃ p ys, xs = [.ref p] ∧ (SqL K H p ys ∨ SqT K H p ys) ∧ Q (.int ys.length) H
theorem er_lenL {xs : List α} (ha : Er (rL K R) ta σ H xs) : Er rI (tCB (rLenQ K) (tCons ta tNil)) σ H (xs.length : Int) := fun H1 e Q q =>
  ha H1 e _ fun v H2 e2 ⟨a, vs, h1, hs, hp⟩ => ⟨a, vs, by rw [h1], .inl hs, q _ H2 e2 (by show V.int _ = V.int _; rw [paired_len hp])⟩
theorem er_lenT {xs : List α} (ha : Er (rT K R) ta σ H xs) : Er rI (tCB (rLenQ K) (tCons ta tNil)) σ H (xs.length : Int) := fun H1 e Q q =>
  ha H1 e _ fun v H2 e2 ⟨a, vs, h1, hs, hp⟩ => ⟨a, vs, by rw [h1], .inr hs, q _ H2 e2 (by show V.int _ = V.int _; rw [paired_len hp])⟩
theorem er_lenS {z : Str} (ha : Er rS ta σ H z) (hz : z.length ≤ 1000000) : Er rI (tCB (fun xs H Q => ∃ z, xs = [.str z] ∧ z.length ≤ sizeLine ∧ Q (.int z.length) H) (tCons ta tNil)) σ H (z.length : Int) := fun H1 e Q q =>
  ha H1 e _ fun v H2 e2 h => ⟨z, by rw [h], sz1 hz, q _ H2 e2 rfl⟩
theorem er_abs {i : Int} (ha : Er rI ta σ H i) : Er rI (tCB (fun xs H Q => ∃ i, xs = [.int i] ∧ Q (.int (if i < 0 then -i else i)) H) (tCons ta tNil)) σ H (if i < 0 then -i else i) := fun H1 e Q q =>
  ha H1 e _ fun v H2 e2 h => ⟨i, by rw [h], q _ H2 e2 rfl⟩
theorem er_max2 {i j : Int} (ha : Er rI ta σ H i) (hb : Er rI tb σ H j) : Er rI (tCB (fun xs H Q => ∃ i j, xs = [.int i, .int j] ∧ Q (.int (if j > i then j else i)) H) (tCons ta (tCons tb tNil))) σ H (if j > i then j else i) := fun H1 e Q q =>
  ha H1 e _ fun v H2 e2 h => hb H2 (e.trans e2) _ fun w H3 e3 h' => ⟨i, j, by rw [h, h'], q _ H3 (e2.trans e3) rfl⟩
theorem er_min2 {i j : Int} (ha : Er rI ta σ H i) (hb : Er rI tb σ H j) : Er rI (tCB (fun xs H Q => ∃ i j, xs = [.int i, .int j] ∧ Q (.int (if j < i then j else i)) H) (tCons ta (tCons tb tNil))) σ H (if j < i then j else i) := fun H1 e Q q =>
  ha H1 e _ fun v H2 e2 h => hb H2 (e.trans e2) _ fun w H3 e3 h' => ⟨i, j, by rw [h, h'], q _ H3 (e2.trans e3) rfl⟩
theorem er_intB {b : Bool} (ha : Er rB ta σ H b) : Er rI (tCB (fun xs H Q => (∃ i, xs = [.int i] ∧ Q (.int i) H) ∨ ∃ k, xs = [.bl k] ∧ Q (.int (if k then 1 else 0)) H) (tCons ta tNil)) σ H (if b then 1 else 0) := fun H1 e Q q =>
  ha H1 e _ fun v H2 e2 h => .inr ⟨b, by rw [h], q _ H2 e2 rfl⟩
/-- displays: the items one by one -/
def As (R : Rp α) (xs : List α) : List V → Hp → Prop := fun vs H => Paired (R H) xs vs
theorem eas0 : Ea tNil σ H (As R []) := fun H1 e Q q => q [] H1 (Ex.refl H1) .nil
theorem eas [Me R] {tr : TA} {xs : List α} (h : Er R ta σ H x) (hr : Ea tr σ H (As R xs)) : Ea (tCons ta tr) σ H (As R (x :: xs)) := fun H1 e Q q =>
  h H1 e _ fun v H2 e2 r2 => hr H2 (e.trans e2) _ fun vs H3 e3 p => q (v :: vs) H3 (e2.trans e3) (.cons (Me.ex e3 r2) p)
theorem el_lst [Me R] {tr : TA} {xs : List α} (h : Ea tr σ H (As R xs)) (hl : xs.length ≤ 1000000) : El R (tLst tr) σ H xs := fun H1 e Q q =>
  h H1 e _ fun vs H2 e2 p => ⟨by rw [← paired_len p]; exact sz1 hl, fun a ha => q a _ (fresh_back e2 ha) (e2.trans (Ex.new ha)) ⟨vs, upd_same, pm p fun _ _ z => Me.ex (Ex.new ha) z⟩⟩
theorem er_tup [Me R] {tr : TA} {xs : List α} (h : Ea tr σ H (As R xs)) (hl : xs.length ≤ 1000000) : Er (rT K R) (tTup tr) σ H xs := fun H1 e Q q =>
  h H1 e _ fun vs H2 e2 p => ⟨by rw [← paired_len p]; exact sz1 hl, fun a ha => q _ _ (e2.trans (Ex.new ha)) ⟨a, vs, rfl, SqT.of upd_same, pm p fun _ _ z => Me.ex (Ex.new ha) z⟩⟩
theorem s_retL {D : Ends} {σ : L2.St} {H : Hp} {p : Addr} {i : Nat} (hi : σ[i]? = some (some (.ref p))) (k : D.rt (.ref p) H) : tRet (tVar i) D σ H := ⟨_, hi, k⟩

/-! ### for -/
def Fl (J : It) (g : TG) (tb : TS) (D : Ends) (σ : L2.St) (H : Hp) : Prop := ∃ W : Nat → Nat → L2.St → Hp → Prop, (∃ m, W 0 m σ H) ∧ ∀ i m σ H, W i m σ H →
  (J.stop i H ∧ D.nx σ H) ∨ (J.go i H ∧ ∃ N : L2.St → Hp → Prop, (∀ σ' H', N σ' H' → ∃ m', m' < m ∧ W (i + 1) m' σ' H') ∧ ∀ x H', J.yld i H x H' → g x σ H' fun σ2 H2 => tb { D with nx := N, ct := N, bk := D.nx } σ2 H2)
/-- so many numbers from lo on -/
def rng (lo hi : Int) : List Int := (List.range (hi - lo).toNat).map fun (k : Nat) => lo + (k : Int)
theorem rng_len (lo hi : Int) : (rng lo hi).length = (hi - lo).toNat := by unfold rng; rw [List.length_map, List.length_range]
theorem rng_get {lo hi : Int} {i : Nat} (h : i < (hi - lo).toNat) : (rng lo hi)[i]? = some (lo + (i : Int)) := by
  unfold rng
  rw [List.getElem?_map, List.getElem?_range h]
  rfl
theorem rng_at {lo hi x : Int} {i : Nat} (h : (rng lo hi)[i]? = some x) : x = lo + (i : Int) ∧ lo ≤ x ∧ x < hi := by
  have hl := (List.getElem?_eq_some_iff.mp h).1
  rw [rng_len] at hl
  rw [rng_get hl] at h
  have := Option.some.inj h
  omega
theorem take_all {xs : List α} : xs.take xs.length = xs := List.take_length
theorem fold_snoc {σ' ι : Type} {f : σ' → ι → σ'} {b s : σ'} {xs : List ι} {i : Nat} {x : ι} (h : s = List.foldl f b (List.take i xs)) (hx : xs[i]? = some x) : f s x = List.foldl f b (List.take (i + 1) xs) := by
  rw [List.take_add_one, hx, List.foldl_append, h]
  rfl
/-- a list's items by their places -/
def enm (xs : List α) : List (Int × α) := xs.zipIdx.map fun p => ((p.2 : Int), p.1)
theorem enm_len (xs : List α) : (enm xs).length = xs.length := by unfold enm; rw [List.length_map, List.length_zipIdx]
theorem enm_get {xs : List α} {i : Nat} {x : α} (h : xs[i]? = some x) : (enm xs)[i]? = some ((i : Int), x) := by
  unfold enm
  rw [List.getElem?_map, List.getElem?_zipIdx, h]
  simp
theorem enm_at {xs : List α} {i : Nat} {x : Int × α} (h : (enm xs)[i]? = some x) : x.1 = (i : Int) ∧ xs[i]? = some x.2 := by
  have hl := (List.getElem?_eq_some_iff.mp h).1
  rw [enm_len] at hl
  have e := enm_get (List.getElem?_eq_getElem hl)
  rw [e] at h
  have := Option.some.inj h
  rw [← this]
  exact ⟨rfl, List.getElem?_eq_getElem hl⟩
theorem s_forT {tl : TE} {g : TG} {xs : List α} (h : Er (rT K R) tl σ H xs) (k : ∀ v H1, Ex H H1 → rT K R H1 xs v → ∀ a, v = .ref a → Fl (Itt K a) g tu D σ H1) : tFor (iTup K tl) g tu D σ H :=
  h H (Ex.refl H) _ fun v H1 e r => by
    obtain ⟨a, vs, h1, h2, h3⟩ := id r
    exact ⟨a, h1, ⟨vs, h2⟩, k v H1 e r a h1⟩
theorem s_forL {tl : TE} {g : TG} {xs : List α} (h : Er (rL K R) tl σ H xs) (k : ∀ v H1, Ex H H1 → rL K R H1 xs v → ∀ a, v = .ref a → Fl (Itl K a) g tu D σ H1) : tFor (iList K tl) g tu D σ H :=
  h H (Ex.refl H) _ fun v H1 e r => by
    obtain ⟨a, vs, h1, h2, h3⟩ := id r
    exact ⟨a, h1, ⟨vs, h2⟩, k v H1 e r a h1⟩
theorem s_forR1 {ta : TE} {g : TG} {hi : Int} (h : Er rI ta σ H hi) (hb : -(2 ^ 62) ≤ hi ∧ hi < 2 ^ 62) (k : ∀ H1, Ex H H1 → Fl (Itr 0 hi.toNat) g tu D σ H1) : tFor (iRng1 (tCons ta tNil)) g tu D σ H :=
  h H (Ex.refl H) _ fun v H1 e r => by
    cases r
    exact ⟨hi, rfl, hb.1, hb.2, k H1 e⟩
theorem s_forR2 {ta tb : TE} {g : TG} {lo hi : Int} (h : Er rI ta σ H lo) (h' : Er rI tb σ H hi) (hb : -(2 ^ 62) ≤ lo ∧ lo < 2 ^ 62 ∧ -(2 ^ 62) ≤ hi ∧ hi < 2 ^ 62) (k : ∀ H1, Ex H H1 → Fl (Itr lo (hi - lo).toNat) g tu D σ H1) : tFor (iRng2 (tCons ta (tCons tb tNil))) g tu D σ H :=
  h H (Ex.refl H) _ fun v H1 e r => h' H1 e _ fun v' H2 e2 r' => by
    cases r
    cases r'
    exact ⟨lo, hi, rfl, hb, k H2 (e.trans e2)⟩
theorem s_forEL {ta : TE} {g : TG} {xs : List α} (h : Er (rL K R) ta σ H xs) (k : ∀ v H1, Ex H H1 → rL K R H1 xs v → ∀ a, v = .ref a → Fl (Ite K a) g tu D σ H1) : tFor (iEnum K (tCons ta tNil)) g tu D σ H :=
  h H (Ex.refl H) _ fun v H1 e r => by
    obtain ⟨a, vs, h1, h2, h3⟩ := id r
    exact ⟨a, vs, by rw [h1], h2, k v H1 e r a h1⟩

theorem fl_core {J : It} {n : Nat} {g : TG} (Pv : Nat → L2.St → Hp → Prop) (h0 : Pv 0 σ H) (go : ∀ i σ H', i < n → Pv i σ H' → J.go i H') (stop : ∀ σ H', Pv n σ H' → J.stop n H')
    (hs : ∀ i x σ H' H'', i < n → Pv i σ H' → J.yld i H' x H'' → g x σ H'' fun σ2 H2 => tu { D with nx := Pv (i + 1), ct := Pv (i + 1), bk := D.nx } σ2 H2) (hd : ∀ σ H', Pv n σ H' → D.nx σ H') : Fl J g tu D σ H := by
  refine ⟨fun i m σ H => m = n - i ∧ i ≤ n ∧ Pv i σ H, ⟨n, by simp, Nat.zero_le _, h0⟩, ?_⟩
  rintro i m σ H ⟨rfl, hi, p⟩
  by_cases hlt : i < n
  · exact .inr ⟨go i σ H hlt p, Pv (i + 1), fun σ' H' p' => ⟨n - (i + 1), by omega, rfl, hlt, p'⟩, fun x H' y => hs i x σ H H' hlt p y⟩
  · have e : i = n := by omega
    subst e
    exact .inl ⟨stop σ H p, hd σ H p⟩
theorem fl_T {xs : List α} {v : V} (r : rT K R H xs v) (Pv : Nat → L2.St → Hp → Prop) (h0 : Pv 0 σ H) (hG : ∀ i σ H', i ≤ xs.length → Pv i σ H' → rT K R H' xs v)
    (hs : ∀ i x u σ H', i < xs.length → xs[i]? = some x → Pv i σ H' → R H' x u → tu { D with nx := Pv (i + 1), ct := Pv (i + 1), bk := D.nx } (σ.set j (some u)) H') (hd : ∀ σ H', Pv xs.length σ H' → D.nx σ H') :
    ∀ a, v = .ref a → Fl (Itt K a) (gName j) tu D σ H := by
  rintro a rfl
  refine fl_core Pv h0 (fun i σ H' hi p => ?_) (fun σ H' p => ?_) (fun i x σ H' H'' hi p y => ?_) hd
  · obtain ⟨_, vs, h1, h2, h3⟩ := hG i σ H' (by omega) p
    cases h1
    have hl := paired_len h3
    exact ⟨vs, vs[i]'(by omega), h2, List.getElem?_eq_getElem _⟩
  · obtain ⟨_, vs, h1, h2, h3⟩ := hG _ σ H' (Nat.le_refl _) p
    cases h1
    exact ⟨vs, h2, by rw [paired_len h3]; exact Nat.le_refl _⟩
  · obtain ⟨_, vs, h1, h2, h3⟩ := hG i σ H' (by omega) p
    cases h1
    obtain ⟨rfl, y⟩ := y
    have hx := y vs h2
    obtain ⟨z, hz, rz⟩ := paired_get' h3 hx
    exact hs i z x σ H'' hi hz p rz
theorem fl_L {xs : List α} {v : V} (r : rL K R H xs v) (Pv : Nat → L2.St → Hp → Prop) (h0 : Pv 0 σ H) (hG : ∀ i σ H', i ≤ xs.length → Pv i σ H' → rL K R H' xs v)
    (hs : ∀ i x u σ H', i < xs.length → xs[i]? = some x → Pv i σ H' → R H' x u → tu { D with nx := Pv (i + 1), ct := Pv (i + 1), bk := D.nx } (σ.set j (some u)) H') (hd : ∀ σ H', Pv xs.length σ H' → D.nx σ H') :
    ∀ a, v = .ref a → Fl (Itl K a) (gName j) tu D σ H := by
  rintro a rfl
  refine fl_core Pv h0 (fun i σ H' hi p => ?_) (fun σ H' p => ?_) (fun i x σ H' H'' hi p y => ?_) hd
  · obtain ⟨_, vs, h1, h2, h3⟩ := hG i σ H' (by omega) p
    cases h1
    have hl := paired_len h3
    exact ⟨vs, vs[i]'(by omega), h2, List.getElem?_eq_getElem _⟩
  · obtain ⟨_, vs, h1, h2, h3⟩ := hG _ σ H' (Nat.le_refl _) p
    cases h1
    exact ⟨vs, h2, by rw [paired_len h3]; exact Nat.le_refl _⟩
  · obtain ⟨_, vs, h1, h2, h3⟩ := hG i σ H' (by omega) p
    cases h1
    obtain ⟨rfl, y⟩ := y
    have hx := y vs h2
    obtain ⟨z, hz, rz⟩ := paired_get' h3 hx
    exact hs i z x σ H'' hi hz p rz
theorem fl_TI {xs : List Int} {v : V} (r : rT K rI H xs v) (Pv : Nat → L2.St → Hp → Prop) (h0 : Pv 0 σ H) (hG : ∀ i σ H', i ≤ xs.length → Pv i σ H' → rT K rI H' xs v)
    (hs : ∀ i x σ H', i < xs.length → xs[i]? = some x → Pv i σ H' → tu { D with nx := Pv (i + 1), ct := Pv (i + 1), bk := D.nx } (σ.set j (some (.int x))) H') (hd : ∀ σ H', Pv xs.length σ H' → D.nx σ H') :
    ∀ a, v = .ref a → Fl (Itt K a) (gName j) tu D σ H := fl_T r Pv h0 hG (fun i x u σ H' hi hx p r => by cases r; exact hs i x σ H' hi hx p) hd
theorem fl_LI {xs : List Int} {v : V} (r : rL K rI H xs v) (Pv : Nat → L2.St → Hp → Prop) (h0 : Pv 0 σ H) (hG : ∀ i σ H', i ≤ xs.length → Pv i σ H' → rL K rI H' xs v)
    (hs : ∀ i x σ H', i < xs.length → xs[i]? = some x → Pv i σ H' → tu { D with nx := Pv (i + 1), ct := Pv (i + 1), bk := D.nx } (σ.set j (some (.int x))) H') (hd : ∀ σ H', Pv xs.length σ H' → D.nx σ H') :
    ∀ a, v = .ref a → Fl (Itl K a) (gName j) tu D σ H := fl_L r Pv h0 hG (fun i x u σ H' hi hx p r => by cases r; exact hs i x σ H' hi hx p) hd
theorem fl_R {lo hi : Int} {n : Nat} (hn : n = (hi - lo).toNat) (Pv : Nat → L2.St → Hp → Prop) (h0 : Pv 0 σ H)
    (hs : ∀ i x σ H', i < (rng lo hi).length → (rng lo hi)[i]? = some x → Pv i σ H' → tu { D with nx := Pv (i + 1), ct := Pv (i + 1), bk := D.nx } (σ.set j (some (.int x))) H') (hd : ∀ σ H', Pv (rng lo hi).length σ H' → D.nx σ H') :
    Fl (Itr lo n) (gName j) tu D σ H := by
  subst hn
  have hl := rng_len lo hi
  refine fl_core (n := (hi - lo).toNat) Pv h0 (fun i σ H' hi p => hi) (fun σ H' p => Nat.le_refl _) (fun i x σ H' H'' hi p y => ?_) (fun σ H' p => hd σ H' (by rw [hl]; exact p))
  obtain ⟨rfl, rfl⟩ := y
  exact hs i _ σ H'' (by omega) (rng_get hi) p
/-- a pair's targets -/
abbrev g2 (K : PySem.W.Frag) (i j : Nat) : TG := gTup K 2 (gCons (gName i) (gCons (gName j) gNil))
theorem fl_EL {i0 : Nat} {xs : List α} {v : V} (r : rL K R H xs v) (Pv : Nat → L2.St → Hp → Prop) (h0 : Pv 0 σ H) (hG : ∀ i σ H', i ≤ xs.length → Pv i σ H' → rL K R H' xs v)
    (hs : ∀ i x u σ H' H'', i < (enm xs).length → (enm xs)[i]? = some x → Pv i σ H' → Ex H' H'' → R H' x.2 u → tu { D with nx := Pv (i + 1), ct := Pv (i + 1), bk := D.nx } ((σ.set i0 (some (.int x.1))).set j (some u)) H'') (hd : ∀ σ H', Pv (enm xs).length σ H' → D.nx σ H') :
    ∀ a, v = .ref a → Fl (Ite K a) (g2 K i0 j) tu D σ H := by
  rintro a rfl
  have hle := enm_len xs
  refine fl_core (n := xs.length) Pv h0 (fun i σ H' hi p => ?_) (fun σ H' p => ?_) (fun i x σ H' H'' hi p y => ?_) (fun σ H' p => hd σ H' (by rw [hle]; exact p))
  · obtain ⟨_, vs, h1, h2, h3⟩ := hG i σ H' (by omega) p
    cases h1
    have hl := paired_len h3
    exact ⟨vs, vs[i]'(by omega), h2, List.getElem?_eq_getElem _⟩
  · obtain ⟨_, vs, h1, h2, h3⟩ := hG _ σ H' (Nat.le_refl _) p
    cases h1
    exact ⟨vs, h2, by rw [paired_len h3]; exact Nat.le_refl _⟩
  · obtain ⟨_, vs, h1, h2, h3⟩ := hG i σ H' (by omega) p
    cases h1
    obtain ⟨T, u, rfl, nT, rfl, y⟩ := y
    have hx := y vs h2
    obtain ⟨z, hz, rz⟩ := paired_get' h3 hx
    exact ⟨T, [.int (i : Nat), u], rfl, SqT.of upd_same, rfl, _, _, rfl, _, _, rfl, rfl, hs i ((i : Int), z) u σ H' _ (by omega) (enm_get hz) p (Ex.new nT) rz⟩
theorem fl_ELI {i0 : Nat} {xs : List Int} {v : V} (r : rL K rI H xs v) (Pv : Nat → L2.St → Hp → Prop) (h0 : Pv 0 σ H) (hG : ∀ i σ H', i ≤ xs.length → Pv i σ H' → rL K rI H' xs v)
    (hs : ∀ i x σ H' H'', i < (enm xs).length → (enm xs)[i]? = some x → Pv i σ H' → Ex H' H'' → tu { D with nx := Pv (i + 1), ct := Pv (i + 1), bk := D.nx } ((σ.set i0 (some (.int x.1))).set j (some (.int x.2))) H'') (hd : ∀ σ H', Pv (enm xs).length σ H' → D.nx σ H') :
    ∀ a, v = .ref a → Fl (Ite K a) (g2 K i0 j) tu D σ H := fl_EL r Pv h0 hG (fun i x u σ H' H'' hi hx p e r => by cases r; exact hs i x σ H' H'' hi hx p e) hd

/-! ### own lists kept -/
theorem Lt.ne {p q : Addr} {xs : List α} (h : Lt R H p xs) (hq : H q = none) : p ≠ q := let ⟨_, h1, _⟩ := h; ne_of_none h1 hq
theorem Lt.kt {p : Addr} {xs : List α} (h : Lt R H p xs) (c : C1 p H H') : Kt K H H' := let ⟨_, h1, _⟩ := h; Kt.c1 h1 c
theorem Lt.keep [Mkt K R] {p q : Addr} {xs : List α} (h : Lt R H q xs) (kt : Kt K H H') (c : C1 p H H') (n : q ≠ p) : Lt R H' q xs := let ⟨vs, h1, h2⟩ := h; ⟨vs, c _ _ n h1, pm h2 fun _ _ z => Mkt.kt kt z⟩
/-- xs[i] = e: an own list -/
theorem s_set [Mkt K R] {l : Addr} {xs : List α} {i : Int} (hl : Lt R H l xs) (hj : σ[j]? = some (some (.ref l))) (h : Er R te σ H x) (hi : Er rI tb σ H i) (h1 : -(xs.length : Int) ≤ i) (h2 : i < xs.length)
    (k : ∀ H1, C1 l H H1 → Lt R H1 l (xs.set (ixs xs.length i) x) → D.nx σ H1) : tAsg te (gSub (tVar j) tb rSetL) D σ H := by
  obtain ⟨vs, e1, e2⟩ := hl
  refine h H (Ex.refl H) _ fun v H1 ex1 r => ⟨_, hj, ?_⟩
  refine hi H1 ex1 _ fun u H2 ex2 ri => ?_
  cases ri
  have hl := paired_len e2
  have e3 : H2 l = some (.lst vs) := ex2 _ _ (ex1 _ _ e1)
  refine ⟨l, vs, i, ixs xs.length i, rfl, rfl, e3, by rw [← hl]; exact (ixN_ixs h1 h2).1, ?_⟩
  have kt1 : Kt K H2 (upd H2 l (.lst (vs.set (ixs xs.length i) v))) := Kt.c1 e3 (C1.up (C1.refl l H2))
  exact k _ (C1.up (C1.ex (ex1.trans ex2))) ⟨_, upd_same, paired_set _ (pm e2 fun _ _ z => Mkt.kt ((Kt.ex (K := K) (ex1.trans ex2)).trans kt1) z) (Mkt.kt ((Kt.ex (K := K) ex2).trans kt1) r)⟩
/-! ### new lists -/
theorem el_own [Me R] {p : Addr} {xs : List α} {i : Nat} : True := trivial
theorem el_cat [Me R] {xs ys : List α} (ha : El R ta σ H xs) (hb : El R tb σ H ys) (hl : xs.length + ys.length ≤ 1000000) : El R (tOp rCat ta tb) σ H (xs ++ ys) := fun H1 e Q q =>
  ha H1 e _ fun p H2 n2 e2 l2 => hb H2 (e.trans e2) _ fun p' H3 n3 e3 l3 => by
    obtain ⟨vs, h1, h2⟩ := l2
    obtain ⟨ws, h3, h4⟩ := l3
    refine ⟨p, p', vs, ws, rfl, rfl, e3 _ _ h1, h3, by rw [← paired_len h2, ← paired_len h4]; exact sz1 hl, fun a na => ?_⟩
    exact q a _ (fresh_back (e2.trans e3) na) ((e2.trans e3).trans (Ex.new na)) ⟨_, upd_same, paired_append (pm h2 fun _ _ z => Me.ex (e3.trans (Ex.new na)) z) (pm h4 fun _ _ z => Me.ex (Ex.new na) z)⟩
def repL (xs : List α) (k : Int) : List α := (List.replicate k.toNat xs).flatten
theorem repL_len (xs : List α) (k : Int) : (repL xs k).length = k.toNat * xs.length := by unfold repL; simp
theorem paired_flat {F : α → V → Prop} {xs : List α} {vs : List V} (h : Paired F xs vs) : ∀ n, Paired F (List.replicate n xs).flatten (List.replicate n vs).flatten
  | 0 => .nil
  | n + 1 => by
    rw [List.replicate_succ, List.replicate_succ, List.flatten_cons, List.flatten_cons]
    exact paired_append h (paired_flat h n)
theorem el_rep [Me R] {xs : List α} {k : Int} (ha : El R ta σ H xs) (hb : Er rI tb σ H k) (h1 : -(2 ^ 63) ≤ k ∧ k < 2 ^ 63) (hl : xs.length * k.toNat ≤ 1000000) : El R (tOp rRep ta tb) σ H (repL xs k) := fun H1 e Q q =>
  ha H1 e _ fun p H2 n2 e2 l2 => hb H2 (e.trans e2) _ fun v H3 e3 r => by
    cases r
    obtain ⟨vs, h3, h4⟩ := l2
    refine ⟨p, k, vs, rfl, rfl, e3 _ _ h3, h1.1, h1.2, by rw [← paired_len h4]; exact sz1 hl, fun a na => ?_⟩
    exact q a _ (fresh_back (e2.trans e3) na) ((e2.trans e3).trans (Ex.new na)) ⟨_, upd_same, paired_flat (pm h4 fun _ _ z => Me.ex (e3.trans (Ex.new na)) z) _⟩
def rListQ (K : PySem.W.Frag) : List V → Hp → VK → Prop := fun xs H Q => ∃ p ys, xs = [.ref p] ∧ (SqL K H p ys ∨ SqT K H p ys) ∧ ∀ l, H l = none → Q (.ref l) (upd H l (.lst ys))
theorem el_listL [Me R] {xs : List α} (ha : Er (rL K R) ta σ H xs) : El R (tCB (rListQ K) (tCons ta tNil)) σ H xs := fun H1 e Q q =>
  ha H1 e _ fun v H2 e2 ⟨a, vs, h1, hs, hp⟩ => ⟨a, vs, by rw [h1], .inl hs, fun l nl => q l _ (fresh_back e2 nl) (e2.trans (Ex.new nl)) ⟨_, upd_same, pm hp fun _ _ z => Me.ex (Ex.new nl) z⟩⟩
theorem el_listT [Me R] {xs : List α} (ha : Er (rT K R) ta σ H xs) : El R (tCB (rListQ K) (tCons ta tNil)) σ H xs := fun H1 e Q q =>
  ha H1 e _ fun v H2 e2 ⟨a, vs, h1, hs, hp⟩ => ⟨a, vs, by rw [h1], .inr hs, fun l nl => q l _ (fresh_back e2 nl) (e2.trans (Ex.new nl)) ⟨_, upd_same, pm hp fun _ _ z => Me.ex (Ex.new nl) z⟩⟩
def rTupQ (K : PySem.W.Frag) : List V → Hp → VK → Prop := fun xs H Q => ∃ p ys, xs = [.ref p] ∧ ((SqL K H p ys ∧ ∀ l, H l = none → Q (.ref l) (upd H l (.tup ys))) ∨ (SqT K H p ys ∧ Q (.ref p) H))
theorem er_tupL [Me R] {xs : List α} (ha : Er (rL K R) ta σ H xs) : Er (rT K R) (tCB (rTupQ K) (tCons ta tNil)) σ H xs := fun H1 e Q q =>
  ha H1 e _ fun v H2 e2 ⟨a, vs, h1, hs, hp⟩ => ⟨a, vs, by rw [h1], .inl ⟨hs, fun l nl => q _ _ (e2.trans (Ex.new nl)) ⟨l, _, rfl, SqT.of upd_same, pm hp fun _ _ z => Me.ex (Ex.new nl) z⟩⟩⟩
theorem er_tupT {xs : List α} (ha : Er (rT K R) ta σ H xs) : Er (rT K R) (tCB (rTupQ K) (tCons ta tNil)) σ H xs := fun H1 e Q q =>
  ha H1 e _ fun v H2 e2 r => by
    obtain ⟨a, vs, h1, hs, hp⟩ := id r
    exact ⟨a, vs, by rw [h1], .inr ⟨hs, q _ H2 e2 (by rw [← h1]; exact r)⟩⟩
theorem er_catT [Me R] {xs ys : List α} (ha : Er (rT K R) ta σ H xs) (hb : Er (rT K R) tb σ H ys) (hl : xs.length + ys.length ≤ 1000000) : Er (rT K R) (tOp (rCatA K) ta tb) σ H (xs ++ ys) := fun H1 e Q q =>
  ha H1 e _ fun v H2 e2 r1 => hb H2 (e.trans e2) _ fun w H3 e3 r2 => by
    obtain ⟨a, vs, rfl, h1, h2⟩ := r1
    obtain ⟨b, ws, rfl, h3, h4⟩ := r2
    refine ⟨a, b, vs, ws, rfl, rfl, ex_t e3 h1, h3, by rw [← paired_len h2, ← paired_len h4]; exact sz1 hl, fun z => ?_, fun _ z => ?_, fun _ _ p np => ?_⟩
    · subst z
      cases h2
      exact q _ H3 (e2.trans e3) ⟨b, ws, rfl, h3, h4⟩
    · subst z
      cases h4
      exact q _ H3 (e2.trans e3) (by rw [List.append_nil]; exact ⟨a, vs, rfl, ex_t e3 h1, pm h2 fun _ _ z => Me.ex e3 z⟩)
    · exact q _ _ ((e2.trans e3).trans (Ex.new np)) ⟨p, _, rfl, SqT.of upd_same, paired_append (pm h2 fun _ _ z => Me.ex (e3.trans (Ex.new np)) z) (pm h4 fun _ _ z => Me.ex (Ex.new np) z)⟩
/-- slices -/
def cutL (xs : List α) (lo hi : Option Int) : List α := (xs.drop (HT.sIx xs.length 0 lo)).take (HT.sIx xs.length xs.length hi - HT.sIx xs.length 0 lo)
theorem paired_cut {F : α → V → Prop} {xs : List α} {vs : List V} (h : Paired F xs vs) (lo hi : Option Int) : Paired F (cutL xs lo hi) (cutV vs lo hi) := by
  have hl := paired_len h
  unfold cutL cutV
  rw [hl]
  exact paired_take _ (paired_drop _ h)
theorem cutL_hi {xs : List α} (k : Nat) : cutL xs none (some (k : Int)) = xs.take k := by
  unfold cutL
  rw [HT.sIx_none, HT.sIx_nat, List.drop_zero, Nat.sub_zero]
  by_cases h : k ≤ xs.length
  · rw [Nat.min_eq_left h]
  · rw [Nat.min_eq_right (by omega), List.take_of_length_le (Nat.le_refl _), List.take_of_length_le (by omega)]
theorem cutL_lo {xs : List α} (k : Nat) : cutL xs (some (k : Int)) none = xs.drop k := by
  unfold cutL
  rw [HT.sIx_none, HT.sIx_nat]
  by_cases h : k ≤ xs.length
  · rw [Nat.min_eq_left h, List.take_of_length_le (by rw [List.length_drop]; exact Nat.le_refl _)]
  · rw [Nat.min_eq_right (by omega), List.drop_of_length_le (Nat.le_refl _), List.drop_of_length_le (by omega), List.take_nil]
def Eo (to : TO) (σ : L2.St) (H : Hp) (o : Option Int) : Prop := ∀ H1, Ex H H1 → ∀ Q : Option Int → Hp → Prop, (∀ H2, Ex H1 H2 → Q o H2) → to σ H1 Q
theorem eo0 : Eo tNoPart σ H none := fun H1 _ _ q => q H1 (Ex.refl H1)
theorem eo1 {i : Int} (h : Er rI te σ H i) : Eo (tPart te) σ H (some i) := fun H1 e _ q => h H1 e _ fun v H2 e2 r => ⟨i, r, q H2 e2⟩
theorem er_slT [Me R] {tl th : TO} {xs : List α} {lo hi : Option Int} (h : Er (rT K R) te σ H xs) (h1 : Eo tl σ H lo) (h2 : Eo th σ H hi) : Er (rT K R) (tSl (rSlA K) te tl th) σ H (cutL xs lo hi) := fun H1 e Q q =>
  h H1 e _ fun v H2 e2 r => h1 H2 (e.trans e2) _ fun H3 e3 => h2 H3 ((e.trans e2).trans e3) _ fun H4 e4 => by
    obtain ⟨a, vs, rfl, hs, hp⟩ := r
    have hs4 := ex_t e4 (ex_t e3 hs)
    have hp4 : Paired (R H4) xs vs := pm hp fun _ _ z => Me.ex (e3.trans e4) z
    have e24 := (e2.trans e3).trans e4
    refine ⟨a, vs, rfl, hs4, fun z => ?_, fun _ p np => ?_⟩
    · refine q _ H4 e24 ⟨a, vs, rfl, hs4, ?_⟩
      have w : cutV vs lo hi = vs := by
        unfold cutV
        rw [z.1, z.2, List.drop_zero, Nat.sub_zero, List.take_length]
      have := paired_cut hp4 lo hi
      rw [w] at this
      exact this
    · exact q _ _ (e24.trans (Ex.new np)) ⟨p, _, rfl, SqT.of upd_same, pm (paired_cut hp4 lo hi) fun _ _ z => Me.ex (Ex.new np) z⟩
theorem el_sl [Me R] {tl th : TO} {xs : List α} {lo hi : Option Int} (h : Er (rL K R) te σ H xs) (h1 : Eo tl σ H lo) (h2 : Eo th σ H hi) : El R (tSl (rSlL K) te tl th) σ H (cutL xs lo hi) := fun H1 e Q q =>
  h H1 e _ fun v H2 e2 r => h1 H2 (e.trans e2) _ fun H3 e3 => h2 H3 ((e.trans e2).trans e3) _ fun H4 e4 => by
    obtain ⟨a, vs, rfl, hs, hp⟩ := r
    have e24 := (e2.trans e3).trans e4
    refine ⟨a, vs, rfl, ex_l e4 (ex_l e3 hs), fun p np => ?_⟩
    exact q p _ (fresh_back e24 np) (e24.trans (Ex.new np)) ⟨_, upd_same, pm (paired_cut hp lo hi) fun _ _ z => Me.ex ((e3.trans e4).trans (Ex.new np)) z⟩
/-- lists as arguments -/
def AcL (R : Rp α) (xs : List α) (P : List V → Hp → Prop) : List V → Hp → Prop := fun vs H => ∃ v r, vs = v :: r ∧ (∃ p, v = .ref p ∧ Lt R H p xs) ∧ P r H
theorem eacL [Me R] {tr : TA} {xs : List α} {P : List V → Hp → Prop} (h : El R ta σ H xs) (hr : Ea tr σ H P) : Ea (tCons ta tr) σ H (AcL R xs P) := fun H1 e Q q =>
  h H1 e _ fun p H2 _ e2 l2 => hr H2 (e.trans e2) _ fun vs H3 e3 pv => q (.ref p :: vs) H3 (e2.trans e3) ⟨.ref p, vs, rfl, ⟨p, rfl, l2.ex e3⟩, pv⟩
theorem eacO [Me R] {tr : TA} {p : Addr} {i : Nat} {xs : List α} {P : List V → Hp → Prop} (hi : σ[i]? = some (some (.ref p))) (h : Lt R H p xs) (hr : Ea tr σ H P) : Ea (tCons (tVar i) tr) σ H (AcL R xs P) := fun H1 e Q q =>
  ⟨_, hi, hr H1 e _ fun vs H3 e3 pv => q (.ref p :: vs) H3 e3 ⟨.ref p, vs, rfl, ⟨p, rfl, h.ex (e.trans e3)⟩, pv⟩⟩
def Gnl (sp : Sp) (P : List V → Hp → Prop) (R : Rp α) (xs : List α) : Prop := ∀ vs H1, P vs H1 → ∀ (Q : VK) (E : XK), (∀ p H2, H1 p = none → Ex H1 H2 → Lt R H2 p xs → Q (.ref p) H2) → sp vs H1 Q E
theorem el_call {sp : Sp} {E : XK} {tr : TA} {P : List V → Hp → Prop} {xs : List α} (h : Ea tr σ H P) (g : Gnl sp P R xs) : El R (tCall sp [] E tr) σ H xs := fun H1 e Q q =>
  h H1 e _ fun vs H2 e2 p => by
    show sp (vs ++ []) H2 Q E
    rw [List.append_nil]
    exact g vs H2 p Q E fun a H3 n e3 r => q a H3 (fresh_back e2 n) (e2.trans e3) r
end
theorem cmul_of {i j : Int} (h : (-(2 ^ 64) < i ∧ i < 2 ^ 64) ∨ (-(2 ^ 64) < j ∧ j < 2 ^ 64)) : CMul i j := h
theorem cmul_l {i j : Int} (h : -(2 ^ 64) < i ∧ i < 2 ^ 64) : CMul i j := .inl h
theorem cmul_r {i j : Int} (h : -(2 ^ 64) < j ∧ j < 2 ^ 64) : CMul i j := .inr h

/-! ### the same, with what follows -/
section
variable {α : Type} {K : PySem.W.Frag} {H : Hp} {σ : L2.St} {ta tb te : TE} {t u : TT} {R : Rp α} {x : α} {D : Ends} {tu tw tz : TS} {j : Nat}
theorem q_asgI {i : Int} (h : Er rI te σ H i) (k : ∀ H1, Ex H H1 → tz D (σ.set j (some (.int i))) H1) : tSeq (tAsg te (gName j)) tz D σ H := s_asgI (D := { D with nx := tz D }) h k
theorem q_asgB {i : Bool} (h : Er rB te σ H i) (k : ∀ H1, Ex H H1 → tz D (σ.set j (some (.bl i))) H1) : tSeq (tAsg te (gName j)) tz D σ H := s_asgB (D := { D with nx := tz D }) h k
theorem q_asgS {i : Str} (h : Er rS te σ H i) (k : ∀ H1, Ex H H1 → tz D (σ.set j (some (.str i))) H1) : tSeq (tAsg te (gName j)) tz D σ H := s_asgS (D := { D with nx := tz D }) h k
theorem q_asg (h : Er R te σ H x) (k : ∀ v H1, Ex H H1 → R H1 x v → tz D (σ.set j (some v)) H1) : tSeq (tAsg te (gName j)) tz D σ H := s_asg (D := { D with nx := tz D }) h k
theorem q_asgL {xs : List α} (h : El R te σ H xs) (k : ∀ p H1, H p = none → Ex H H1 → Lt R H1 p xs → tz D (σ.set j (some (.ref p))) H1) : tSeq (tAsg te (gName j)) tz D σ H := s_asgL (D := { D with nx := tz D }) h k
theorem q_drop (h : Er R te σ H x) (k : ∀ H1, Ex H H1 → tz D σ H1) : tSeq (tDrop te) tz D σ H := s_drop (D := { D with nx := tz D }) h k
theorem q_if {b : Bool} (h : Et t σ H b) (h1 : b = true → ∀ H1, Ex H H1 → tu { D with nx := tz D } σ H1) (h2 : b = false → ∀ H1, Ex H H1 → tw { D with nx := tz D } σ H1) : tSeq (tIfS t tu tw) tz D σ H := s_if (D := { D with nx := tz D }) h h1 h2
theorem q_when {b : Bool} (h : Et t σ H b) (h1 : b = true → ∀ H1, Ex H H1 → tu { D with nx := tz D } σ H1) (h2 : b = false → ∀ H1, Ex H H1 → tz D σ H1) : tSeq (tIfS t tu tNext) tz D σ H := s_when (D := { D with nx := tz D }) h h1 h2
theorem q_app [Mkt K R] {l : Addr} {xs : List α} (hl : Lt R H l xs) (hi : σ[j]? = some (some (.ref l))) (h : Er R te σ H x) (hz : xs.length < 1000000) (k : ∀ H1, C1 l H H1 → Lt R H1 l (xs ++ [x]) → tz D σ H1) :
    tSeq (tDrop (tBM K "list" rAppend (tVar j) (tCons te tNil))) tz D σ H := s_app (D := { D with nx := tz D }) hl hi h hz k
theorem q_set [Mkt K R] {l : Addr} {xs : List α} {i : Int} (hl : Lt R H l xs) (hj : σ[j]? = some (some (.ref l))) (h : Er R te σ H x) (hi : Er rI tb σ H i) (h1 : -(xs.length : Int) ≤ i) (h2 : i < xs.length)
    (k : ∀ H1, C1 l H H1 → Lt R H1 l (xs.set (ixs xs.length i) x) → tz D σ H1) : tSeq (tAsg te (gSub (tVar j) tb rSetL)) tz D σ H := s_set (K := K) (D := { D with nx := tz D }) hl hj h hi h1 h2 k
theorem q_while (W : Nat → L2.St → Hp → Prop) (m0 : Nat) (h0 : W m0 σ H)
    (hs : ∀ m σ' H', W m σ' H' → ∃ b, Et t σ' H' b ∧ (b = true → ∀ H1, Ex H' H1 → ∃ N : L2.St → Hp → Prop, (∀ σ2 H2, N σ2 H2 → ∃ m', m' < m ∧ W m' σ2 H2) ∧ tu { D with nx := N, ct := N, bk := tz D } σ' H1) ∧ (b = false → ∀ H1, Ex H' H1 → tz D σ' H1)) : tSeq (tWhile t tu) tz D σ H := s_while (D := { D with nx := tz D }) W m0 h0 hs
theorem q_forT {tl : TE} {g : TG} {xs : List α} (h : Er (rT K R) tl σ H xs) (k : ∀ v H1, Ex H H1 → rT K R H1 xs v → ∀ a, v = .ref a → Fl (Itt K a) g tu { D with nx := tz D } σ H1) : tSeq (tFor (iTup K tl) g tu) tz D σ H := s_forT (D := { D with nx := tz D }) h k
theorem q_forL {tl : TE} {g : TG} {xs : List α} (h : Er (rL K R) tl σ H xs) (k : ∀ v H1, Ex H H1 → rL K R H1 xs v → ∀ a, v = .ref a → Fl (Itl K a) g tu { D with nx := tz D } σ H1) : tSeq (tFor (iList K tl) g tu) tz D σ H := s_forL (D := { D with nx := tz D }) h k
theorem q_forR1 {ta : TE} {g : TG} {hi : Int} (h : Er rI ta σ H hi) (hb : -(2 ^ 62) ≤ hi ∧ hi < 2 ^ 62) (k : ∀ H1, Ex H H1 → Fl (Itr 0 hi.toNat) g tu { D with nx := tz D } σ H1) : tSeq (tFor (iRng1 (tCons ta tNil)) g tu) tz D σ H := s_forR1 (D := { D with nx := tz D }) h hb k
theorem q_forR2 {ta tb : TE} {g : TG} {lo hi : Int} (h : Er rI ta σ H lo) (h' : Er rI tb σ H hi) (hb : -(2 ^ 62) ≤ lo ∧ lo < 2 ^ 62 ∧ -(2 ^ 62) ≤ hi ∧ hi < 2 ^ 62) (k : ∀ H1, Ex H H1 → Fl (Itr lo (hi - lo).toNat) g tu { D with nx := tz D } σ H1) : tSeq (tFor (iRng2 (tCons ta (tCons tb tNil))) g tu) tz D σ H := s_forR2 (D := { D with nx := tz D }) h h' hb k
theorem q_forEL {ta : TE} {g : TG} {xs : List α} (h : Er (rL K R) ta σ H xs) (k : ∀ v H1, Ex H H1 → rL K R H1 xs v → ∀ a, v = .ref a → Fl (Ite K a) g tu { D with nx := tz D } σ H1) : tSeq (tFor (iEnum K (tCons ta tNil)) g tu) tz D σ H := s_forEL (D := { D with nx := tz D }) h k
end
/-! ### for, with what follows -/
section
variable {α : Type} {K : PySem.W.Frag} {H : Hp} {σ : L2.St} {R : Rp α} {D : Ends} {tu tz : TS} {j : Nat}
theorem fq_T {xs : List α} {v : V} (r : rT K R H xs v) (Pv : Nat → L2.St → Hp → Prop) (h0 : Pv 0 σ H) (hG : ∀ i σ H', i ≤ xs.length → Pv i σ H' → rT K R H' xs v)
    (hs : ∀ i x u σ H', i < xs.length → xs[i]? = some x → Pv i σ H' → R H' x u → tu { nx := Pv (i + 1), rt := D.rt, bk := tz D, ct := Pv (i + 1) } (σ.set j (some u)) H') (hd : ∀ σ H', Pv xs.length σ H' → tz D σ H') :
    ∀ a, v = .ref a → Fl (Itt K a) (gName j) tu { D with nx := tz D } σ H := fl_T (D := { D with nx := tz D }) r Pv h0 hG hs hd
theorem fq_L {xs : List α} {v : V} (r : rL K R H xs v) (Pv : Nat → L2.St → Hp → Prop) (h0 : Pv 0 σ H) (hG : ∀ i σ H', i ≤ xs.length → Pv i σ H' → rL K R H' xs v)
    (hs : ∀ i x u σ H', i < xs.length → xs[i]? = some x → Pv i σ H' → R H' x u → tu { nx := Pv (i + 1), rt := D.rt, bk := tz D, ct := Pv (i + 1) } (σ.set j (some u)) H') (hd : ∀ σ H', Pv xs.length σ H' → tz D σ H') :
    ∀ a, v = .ref a → Fl (Itl K a) (gName j) tu { D with nx := tz D } σ H := fl_L (D := { D with nx := tz D }) r Pv h0 hG hs hd
theorem fq_TI {xs : List Int} {v : V} (r : rT K rI H xs v) (Pv : Nat → L2.St → Hp → Prop) (h0 : Pv 0 σ H) (hG : ∀ i σ H', i ≤ xs.length → Pv i σ H' → rT K rI H' xs v)
    (hs : ∀ i x σ H', i < xs.length → xs[i]? = some x → Pv i σ H' → tu { nx := Pv (i + 1), rt := D.rt, bk := tz D, ct := Pv (i + 1) } (σ.set j (some (.int x))) H') (hd : ∀ σ H', Pv xs.length σ H' → tz D σ H') :
    ∀ a, v = .ref a → Fl (Itt K a) (gName j) tu { D with nx := tz D } σ H := fl_TI (D := { D with nx := tz D }) r Pv h0 hG hs hd
theorem fq_LI {xs : List Int} {v : V} (r : rL K rI H xs v) (Pv : Nat → L2.St → Hp → Prop) (h0 : Pv 0 σ H) (hG : ∀ i σ H', i ≤ xs.length → Pv i σ H' → rL K rI H' xs v)
    (hs : ∀ i x σ H', i < xs.length → xs[i]? = some x → Pv i σ H' → tu { nx := Pv (i + 1), rt := D.rt, bk := tz D, ct := Pv (i + 1) } (σ.set j (some (.int x))) H') (hd : ∀ σ H', Pv xs.length σ H' → tz D σ H') :
    ∀ a, v = .ref a → Fl (Itl K a) (gName j) tu { D with nx := tz D } σ H := fl_LI (D := { D with nx := tz D }) r Pv h0 hG hs hd
theorem fq_R {lo hi : Int} {n : Nat} (hn : n = (hi - lo).toNat) (Pv : Nat → L2.St → Hp → Prop) (h0 : Pv 0 σ H)
    (hs : ∀ i x σ H', i < (rng lo hi).length → (rng lo hi)[i]? = some x → Pv i σ H' → tu { nx := Pv (i + 1), rt := D.rt, bk := tz D, ct := Pv (i + 1) } (σ.set j (some (.int x))) H') (hd : ∀ σ H', Pv (rng lo hi).length σ H' → tz D σ H') :
    Fl (Itr lo n) (gName j) tu { D with nx := tz D } σ H := fl_R (D := { D with nx := tz D }) hn Pv h0 hs hd
theorem fq_EL {i0 : Nat} {xs : List α} {v : V} (r : rL K R H xs v) (Pv : Nat → L2.St → Hp → Prop) (h0 : Pv 0 σ H) (hG : ∀ i σ H', i ≤ xs.length → Pv i σ H' → rL K R H' xs v)
    (hs : ∀ i x u σ H' H'', i < (enm xs).length → (enm xs)[i]? = some x → Pv i σ H' → Ex H' H'' → R H' x.2 u → tu { nx := Pv (i + 1), rt := D.rt, bk := tz D, ct := Pv (i + 1) } ((σ.set i0 (some (.int x.1))).set j (some u)) H'') (hd : ∀ σ H', Pv (enm xs).length σ H' → tz D σ H') :
    ∀ a, v = .ref a → Fl (Ite K a) (g2 K i0 j) tu { D with nx := tz D } σ H := fl_EL (D := { D with nx := tz D }) r Pv h0 hG hs hd
theorem fq_ELI {i0 : Nat} {xs : List Int} {v : V} (r : rL K rI H xs v) (Pv : Nat → L2.St → Hp → Prop) (h0 : Pv 0 σ H) (hG : ∀ i σ H', i ≤ xs.length → Pv i σ H' → rL K rI H' xs v)
    (hs : ∀ i x σ H' H'', i < (enm xs).length → (enm xs)[i]? = some x → Pv i σ H' → Ex H' H'' → tu { nx := Pv (i + 1), rt := D.rt, bk := tz D, ct := Pv (i + 1) } ((σ.set i0 (some (.int x.1))).set j (some (.int x.2))) H'') (hd : ∀ σ H', Pv (enm xs).length σ H' → tz D σ H') :
    ∀ a, v = .ref a → Fl (Ite K a) (g2 K i0 j) tu { D with nx := tz D } σ H := fl_ELI (D := { D with nx := tz D }) r Pv h0 hG hs hd
end
/-! ### comprehensions -/
section
variable {α β ι : Type} {K : PySem.W.Frag} {H : Hp} {σ : L2.St} {ta tb te tl : TE} {tt : TT} {R : Rp α} {Ri : Rp β} {vs : List Nat} {j : Nat}
def Good (R : Rp α) (σ : L2.St) (vs : List Nat) (tt : TT) (te : TE) (σ2 : L2.St) (H : Hp) (b : Bool) (y : α) : Prop := wipe σ2 vs = wipe σ vs ∧ Et tt σ2 H b ∧ (b = true → Er R te σ2 H y)
theorem el_core [Me R] [Mkt K R] {J : It} {g : TG} {xs : List ι} (c : ι → Bool) (f : ι → α) (hl : xs.length < 1000000)
    (go : ∀ i H', Ex H H' → i < xs.length → J.go i H') (stop : ∀ H', Ex H H' → J.stop xs.length H')
    (turn : ∀ i x u H' H'' (C : L2.St → Hp → Prop), xs[i]? = some x → Ex H H' → J.yld i H' u H'' → (∀ σ2 H3, Ex H' H3 → Good R σ vs tt te σ2 H3 (c x) (f x) → C σ2 H3) → g u (wipe σ vs) H'' C)
    (Q : VK) (q : ∀ p H2, H p = none → Ex H H2 → Lt R H2 p ((xs.filter c).map f) → Q (.ref p) H2) :
    ∀ D, H D = none → ∃ W : Nat → Nat → Hp → Prop, (∃ m, W 0 m (upd H D (.lst []))) ∧ ∀ i m H, W i m H →
      (J.stop i H ∧ Q (.ref D) H) ∨ (J.go i H ∧ ∃ Nx : Hp → Prop, (∀ H', Nx H' → ∃ m', m' < m ∧ W (i + 1) m' H') ∧ ∀ x H', J.yld i H x H' → g x (wipe σ vs) H' fun σ2 H2 => wipe σ2 vs = wipe σ vs ∧ tt σ2 H2 fun b H3 =>
        if b = true then te σ2 H3 fun y H4 => ∃ acc, H4 D = some (.lst acc) ∧ acc.length < sizeLine ∧ Nx (upd H4 D (.lst (acc ++ [y]))) else Nx H3) := by
  intro D hD
  refine ⟨fun i m H' => m = xs.length - i ∧ i ≤ xs.length ∧ Ex H H' ∧ Lt R H' D (((xs.take i).filter c).map f), ⟨xs.length, rfl, Nat.zero_le _, Ex.new hD, ⟨[], upd_same, .nil⟩⟩, ?_⟩
  rintro i m H1 ⟨rfl, hi, e1, l1⟩
  by_cases hlt : i < xs.length
  · have hx : xs[i]? = some xs[i] := List.getElem?_eq_getElem hlt
    refine .inr ⟨go i H1 e1 hlt, fun H' => Ex H H' ∧ Lt R H' D (((xs.take (i + 1)).filter c).map f), fun H' h => ⟨xs.length - (i + 1), by omega, rfl, hlt, h⟩, fun u H2 y => ?_⟩
    refine turn i _ u H1 H2 _ hx e1 y fun σ2 H3 e3 g => ⟨g.1, ?_⟩
    have tk : xs.take (i + 1) = xs.take i ++ [xs[i]] := by rw [List.take_add_one, hx]; rfl
    refine g.2.1 H3 (Ex.refl H3) _ fun H4 e4 => ?_
    cases hb : c xs[i] with
    | true =>
      show te σ2 H4 _
      refine g.2.2 hb H4 e4 _ fun v H5 e5 r5 => ?_
      obtain ⟨acc, a1, a2⟩ := l1.ex ((e3.trans e4).trans e5)
      have la : acc.length ≤ i := by
        rw [← paired_len a2, List.length_map]
        exact Nat.le_trans (List.length_filter_le _ _) (by rw [List.length_take]; omega)
      have kt1 : Kt K H5 (upd H5 D (.lst (acc ++ [v]))) := Kt.c1 a1 (C1.up (C1.refl D H5))
      refine ⟨acc, a1, sz0 (by omega), (fun a o h => ?_), ⟨acc ++ [v], upd_same, ?_⟩⟩
      · rw [upd_ne (ne_of_none h hD)]
        exact e5 _ _ (e4 _ _ (e3 _ _ (e1 _ _ h)))
      · rw [tk, List.filter_append, List.map_append]
        refine paired_append (pm a2 fun _ _ z => Mkt.kt kt1 z) ?_
        rw [show [xs[i]].filter c = [xs[i]] by simp [hb]]
        exact .cons (Mkt.kt kt1 r5) .nil
    | false =>
      show Ex H H4 ∧ _
      refine ⟨((e1.trans e3).trans e4), ?_⟩
      rw [tk, List.filter_append, List.filter_cons, hb]
      simpa using l1.ex (e3.trans e4)
  · have hi2 : i = xs.length := by omega
    subst hi2
    rw [List.take_length] at l1
    exact .inl ⟨stop H1 e1, q D H1 hD e1 l1⟩
theorem et_yes {σ : L2.St} {H : Hp} : Et tYes σ H true := fun H1 _ _ q => q H1 (Ex.refl H1)
/-- [e for x in range(n) (if c)] -/
theorem el_lcR1c [Me R] [Mkt K R] {hi : Int} {c : Int → Bool} {f : Int → α} (h : Er rI ta σ H hi) (hb : -(2 ^ 62) ≤ hi ∧ hi < 1000000) (hw : ∀ x, wipe ((wipe σ vs).set j (some x)) vs = wipe σ vs)
    (ht : ∀ x H1, Ex H H1 → (0 ≤ x ∧ x < hi) → Et tt ((wipe σ vs).set j (some (.int x))) H1 (c x)) (he : ∀ x H1, Ex H H1 → (0 ≤ x ∧ x < hi) → c x = true → Er R te ((wipe σ vs).set j (some (.int x))) H1 (f x)) :
    El R (tLc (iRng1 (tCons ta tNil)) (gName j) tt te vs) σ H (((rng 0 hi).filter c).map f) := fun H1 e1 Q q =>
  h H1 e1 _ fun v H2 e2 r => by
    cases r
    have hl := rng_len 0 hi
    have hn : (rng 0 hi).length = hi.toNat := by rw [hl, Int.sub_zero]
    refine ⟨hi, rfl, hb.1, by omega, el_core (K := K) (R := R) (xs := rng 0 hi) c f (by omega) (fun i H' _ h => by rw [hn] at h; exact h) (fun H' _ => by rw [hn]; exact Nat.le_refl _) (fun i x u H' H'' C hx e3 y k => ?_) Q fun p H3 n3 e3 l3 => q p H3 (fresh_back e2 n3) (e2.trans e3) l3⟩
    obtain ⟨rfl, rfl⟩ := y
    have hx2 := rng_at hx
    have ex : x = 0 + (i : Int) := hx2.1
    refine k _ H'' (Ex.refl H'') ⟨hw _, ?_, fun hc => ?_⟩
    · rw [← ex]; exact ht x H'' ((e1.trans e2).trans e3) hx2.2
    · rw [← ex]; exact he x H'' ((e1.trans e2).trans e3) hx2.2 hc
theorem el_lcR1 [Me R] [Mkt K R] {hi : Int} {f : Int → α} (h : Er rI ta σ H hi) (hb : -(2 ^ 62) ≤ hi ∧ hi < 1000000) (hw : ∀ x, wipe ((wipe σ vs).set j (some x)) vs = wipe σ vs)
    (he : ∀ x H1, Ex H H1 → (0 ≤ x ∧ x < hi) → Er R te ((wipe σ vs).set j (some (.int x))) H1 (f x)) : El R (tLc (iRng1 (tCons ta tNil)) (gName j) tYes te vs) σ H ((rng 0 hi).map f) := by
  have z := el_lcR1c (K := K) (c := fun _ => true) (f := f) h hb hw (fun _ _ _ _ => et_yes) fun x H1 e hx _ => he x H1 e hx
  rw [List.filter_eq_self.mpr fun _ _ => rfl] at z
  exact z
/-- [e for x in xs (if c)], a list; a tuple -/
theorem el_lcLc [Me R] [Mkt K R] [Me Ri] {xs : List β} {c : β → Bool} {f : β → α} (h : Er (rL K Ri) tl σ H xs) (hb : xs.length < 1000000) (hw : ∀ x, wipe ((wipe σ vs).set j (some x)) vs = wipe σ vs)
    (ht : ∀ x v H1, Ex H H1 → x ∈ xs → Ri H1 x v → Et tt ((wipe σ vs).set j (some v)) H1 (c x)) (he : ∀ x v H1, Ex H H1 → x ∈ xs → Ri H1 x v → c x = true → Er R te ((wipe σ vs).set j (some v)) H1 (f x)) :
    El R (tLc (iList K tl) (gName j) tt te vs) σ H ((xs.filter c).map f) := fun H1 e1 Q q =>
  h H1 e1 _ fun v H2 e2 r => by
    obtain ⟨a, us, rfl, hs, hp⟩ := r
    have hl := paired_len hp
    refine ⟨a, rfl, ⟨us, hs⟩, el_core (K := K) (R := R) (J := Itl K a) (xs := xs) c f hb (fun i H' e3 h => ⟨us, us[i]'(by omega), ex_l e3 hs, List.getElem?_eq_getElem _⟩) (fun H' e3 => ⟨us, ex_l e3 hs, by omega⟩) (fun i x u H' H'' C hx e3 y k => ?_) Q fun p H3 n3 e3 l3 => q p H3 (fresh_back e2 n3) (e2.trans e3) l3⟩
    obtain ⟨rfl, y⟩ := y
    obtain ⟨u', hu, ru⟩ := paired_get hp hx
    have eu := y us (ex_l e3 hs)
    rw [hu] at eu
    cases eu
    exact k _ H'' (Ex.refl H'') ⟨hw _, ht x u H'' ((e1.trans e2).trans e3) (List.mem_of_getElem? hx) (Me.ex e3 ru), fun hc => he x u H'' ((e1.trans e2).trans e3) (List.mem_of_getElem? hx) (Me.ex e3 ru) hc⟩
theorem el_lcL [Me R] [Mkt K R] [Me Ri] {xs : List β} {f : β → α} (h : Er (rL K Ri) tl σ H xs) (hb : xs.length < 1000000) (hw : ∀ x, wipe ((wipe σ vs).set j (some x)) vs = wipe σ vs)
    (he : ∀ x v H1, Ex H H1 → x ∈ xs → Ri H1 x v → Er R te ((wipe σ vs).set j (some v)) H1 (f x)) : El R (tLc (iList K tl) (gName j) tYes te vs) σ H (xs.map f) := by
  have z := el_lcLc (K := K) (c := fun _ => true) (f := f) h hb hw (fun _ _ _ _ _ _ => et_yes) fun x v H1 e hx r _ => he x v H1 e hx r
  rw [List.filter_eq_self.mpr fun _ _ => rfl] at z
  exact z
theorem el_lcTc [Me R] [Mkt K R] [Me Ri] {xs : List β} {c : β → Bool} {f : β → α} (h : Er (rT K Ri) tl σ H xs) (hb : xs.length < 1000000) (hw : ∀ x, wipe ((wipe σ vs).set j (some x)) vs = wipe σ vs)
    (ht : ∀ x v H1, Ex H H1 → x ∈ xs → Ri H1 x v → Et tt ((wipe σ vs).set j (some v)) H1 (c x)) (he : ∀ x v H1, Ex H H1 → x ∈ xs → Ri H1 x v → c x = true → Er R te ((wipe σ vs).set j (some v)) H1 (f x)) :
    El R (tLc (iTup K tl) (gName j) tt te vs) σ H ((xs.filter c).map f) := fun H1 e1 Q q =>
  h H1 e1 _ fun v H2 e2 r => by
    obtain ⟨a, us, rfl, hs, hp⟩ := r
    have hl := paired_len hp
    refine ⟨a, rfl, ⟨us, hs⟩, el_core (K := K) (R := R) (J := Itt K a) (xs := xs) c f hb (fun i H' e3 h => ⟨us, us[i]'(by omega), ex_t e3 hs, List.getElem?_eq_getElem _⟩) (fun H' e3 => ⟨us, ex_t e3 hs, by omega⟩) (fun i x u H' H'' C hx e3 y k => ?_) Q fun p H3 n3 e3 l3 => q p H3 (fresh_back e2 n3) (e2.trans e3) l3⟩
    obtain ⟨rfl, y⟩ := y
    obtain ⟨u', hu, ru⟩ := paired_get hp hx
    have eu := y us (ex_t e3 hs)
    rw [hu] at eu
    cases eu
    exact k _ H'' (Ex.refl H'') ⟨hw _, ht x u H'' ((e1.trans e2).trans e3) (List.mem_of_getElem? hx) (Me.ex e3 ru), fun hc => he x u H'' ((e1.trans e2).trans e3) (List.mem_of_getElem? hx) (Me.ex e3 ru) hc⟩
theorem el_lcT [Me R] [Mkt K R] [Me Ri] {xs : List β} {f : β → α} (h : Er (rT K Ri) tl σ H xs) (hb : xs.length < 1000000) (hw : ∀ x, wipe ((wipe σ vs).set j (some x)) vs = wipe σ vs)
    (he : ∀ x v H1, Ex H H1 → x ∈ xs → Ri H1 x v → Er R te ((wipe σ vs).set j (some v)) H1 (f x)) : El R (tLc (iTup K tl) (gName j) tYes te vs) σ H (xs.map f) := by
  have z := el_lcTc (K := K) (c := fun _ => true) (f := f) h hb hw (fun _ _ _ _ _ _ => et_yes) fun x v H1 e hx r _ => he x v H1 e hx r
  rw [List.filter_eq_self.mpr fun _ _ => rfl] at z
  exact z
/-- the items ints -/
theorem el_lcLI [Me R] [Mkt K R] {xs : List Int} {f : Int → α} (h : Er (rL K rI) tl σ H xs) (hb : xs.length < 1000000) (hw : ∀ x, wipe ((wipe σ vs).set j (some x)) vs = wipe σ vs)
    (he : ∀ x H1, Ex H H1 → x ∈ xs → Er R te ((wipe σ vs).set j (some (.int x))) H1 (f x)) : El R (tLc (iList K tl) (gName j) tYes te vs) σ H (xs.map f) :=
  el_lcL h hb hw fun x v H1 e hx r => by cases r; exact he x H1 e hx
theorem el_lcTI [Me R] [Mkt K R] {xs : List Int} {f : Int → α} (h : Er (rT K rI) tl σ H xs) (hb : xs.length < 1000000) (hw : ∀ x, wipe ((wipe σ vs).set j (some x)) vs = wipe σ vs)
    (he : ∀ x H1, Ex H H1 → x ∈ xs → Er R te ((wipe σ vs).set j (some (.int x))) H1 (f x)) : El R (tLc (iTup K tl) (gName j) tYes te vs) σ H (xs.map f) :=
  el_lcT h hb hw fun x v H1 e hx r => by cases r; exact he x H1 e hx
theorem el_lcLIc [Me R] [Mkt K R] {xs : List Int} {c : Int → Bool} {f : Int → α} (h : Er (rL K rI) tl σ H xs) (hb : xs.length < 1000000) (hw : ∀ x, wipe ((wipe σ vs).set j (some x)) vs = wipe σ vs)
    (ht : ∀ x H1, Ex H H1 → x ∈ xs → Et tt ((wipe σ vs).set j (some (.int x))) H1 (c x)) (he : ∀ x H1, Ex H H1 → x ∈ xs → c x = true → Er R te ((wipe σ vs).set j (some (.int x))) H1 (f x)) : El R (tLc (iList K tl) (gName j) tt te vs) σ H ((xs.filter c).map f) :=
  el_lcLc h hb hw (fun x v H1 e hx r => by cases r; exact ht x H1 e hx) fun x v H1 e hx r hc => by cases r; exact he x H1 e hx hc
theorem el_lcTIc [Me R] [Mkt K R] {xs : List Int} {c : Int → Bool} {f : Int → α} (h : Er (rT K rI) tl σ H xs) (hb : xs.length < 1000000) (hw : ∀ x, wipe ((wipe σ vs).set j (some x)) vs = wipe σ vs)
    (ht : ∀ x H1, Ex H H1 → x ∈ xs → Et tt ((wipe σ vs).set j (some (.int x))) H1 (c x)) (he : ∀ x H1, Ex H H1 → x ∈ xs → c x = true → Er R te ((wipe σ vs).set j (some (.int x))) H1 (f x)) : El R (tLc (iTup K tl) (gName j) tt te vs) σ H ((xs.filter c).map f) :=
  el_lcTc h hb hw (fun x v H1 e hx r => by cases r; exact ht x H1 e hx) fun x v H1 e hx r hc => by cases r; exact he x H1 e hx hc
end
/-! ### the rules, the written part named -/
section
variable {X : Cx}
theorem ix_listK (K : PySem.W.Frag) (h : X.K = K := by rfl) : IxR X (rIxL K) := by subst h; exact ix_list
theorem ix_tupK (K : PySem.W.Frag) (h : X.K = K := by rfl) : IxR X (rIxT K) := by subst h; exact ix_tup
theorem sl_listK (K : PySem.W.Frag) (h : X.K = K := by rfl) : SlR X (rSlL K) := by subst h; exact sl_list
theorem sl_tupAK (K : PySem.W.Frag) (h : X.K = K := by rfl) : SlR X (rSlA K) := by subst h; exact sl_tupA
theorem op_catAK (K : PySem.W.Frag) (h : X.K = K := by rfl) : OpR X (binaryOp .Add) (rCatA K) := by subst h; exact op_catA
theorem op_in_seqK (K : PySem.W.Frag) (h : X.K = K := by rfl) : OpR X (compareOp .In) (rIn K false) := by subst h; exact op_in_seq
theorem op_notIn_seqK (K : PySem.W.Frag) (h : X.K = K := by rfl) : OpR X (compareOp .NotIn) (rIn K true) := by subst h; exact op_notIn_seq
theorem call_len_seqK (K : PySem.W.Frag) (h : X.K = K := by rfl) : CallR X (.builtin "len") (rLenQ K) := by subst h; exact call_len_seq
theorem call_list_ofK (K : PySem.W.Frag) (h : X.K = K := by rfl) : CallR X (.type "list") (rListQ K) := by subst h; exact call_list_of
theorem call_tuple_ofK (K : PySem.W.Frag) (h : X.K = K := by rfl) : CallR X (.type "tuple") (rTupQ K) := by subst h; exact call_tuple_of
theorem call_isiK' (K : PySem.W.Frag) (h : X.K = K := by rfl) : CallR X (.builtin "isinstance") (rIsi K) := by subst h; exact call_isi
theorem cr_sumK (K : PySem.W.Frag) (hc : X.calm = true) (h : X.K = K := by rfl) : CallR X (.builtin "sum") (rSum K) := by subst h; exact cr_sum hc
variable {tg l e : Expr} {tl : TE} {ta : TA} {p pos apos cpos : Pos} {t : TGs} {es : List Expr} {k n : Nat}
theorem pi_listK (K : PySem.W.Frag) (hl : PE X l tl) (h : X.K = K := by rfl) : PI X tg l (iList K tl) := by subst h; exact pi_list hl
theorem pi_tupK (K : PySem.W.Frag) (hl : PE X l tl) (h : X.K = K := by rfl) : PI X tg l (iTup K tl) := by subst h; exact pi_tup hl
theorem pi_enumK (K : PySem.W.Frag) {tpos : Pos} {elts : List Expr} {kk : Nat} (hg : Gl X "enumerate") (hm : X.mg "enumerate" = none) (ha : PA X [e] ta) (h : X.K = K := by rfl) (hs : starEach [e] X.env = [(false, eval e X.env)] := by rfl) :
    PI X (.Tuple elts kk tpos) (.Call (.Name "enumerate" p) [e] [] pos) (iEnum K ta) := by subst h; exact pi_enum hg hm ha hs
theorem pg_tupK (K : PySem.W.Frag) (n : Nat) (hc : X.calm = true) (h : PGs X es t) (hK : X.K = K := by rfl)
    (hn : (assignEach es X.env).length = n := by rfl) (hst : (assignEach es X.env).findIdx? (·.1) = none := by rfl) : PG X (.Tuple es k pos) (gTup K n t) := by subst hK; exact pg_tup hc h hn hst
end
/-! ### a def as it stands; a thing; primes -/
structure Df (P : Program) (w : World) (K : PySem.W.Frag) (mg : Str → Option Value) (base : Heap) (CX : CXT) (k : Nat) (x : Str) (ps : List Str) (sp : Sp) : Type where
  f : Addr
  fd : FuncData
  ok : FnOk P w K mg base CX k f fd ps sp
  g : mg x = some (.ref f)
  kp : PySem.W.keepIn K (.ref f) = true
  b : Binds K fd ps []
/-- a written tuple by its name -/
structure Cn (K : PySem.W.Frag) (mg : Str → Option Value) (x : Str) (xs : List V) : Type where
  a : Addr
  g : mg x = some (.ref a)
  s : ∀ H, SqT K H a xs
inductive Th (K : PySem.W.Frag) (H : Hp) : V → Prop where
  | non : Th K H .non
  | bl (b : Bool) : Th K H (.bl b)
  | int (i : Int) : Th K H (.int i)
  | str (s : Str) : Th K H (.str s)
  | tup {a : Addr} {xs : List V} (h : SqT K H a xs) : Th K H (.ref a)
theorem sqT_ty {K : PySem.W.Frag} {H : Hp} {a : Addr} {xs : List V} (h : SqT K H a xs) : TyX K H (.ref a) (.type "tuple") := by
  rcases h with (h | ⟨o, h⟩) | ⟨o, its, n, h, c, _⟩
  · exact .base (.tup h)
  · exact .fTuple h
  · exact .kTuple h c
def isW : V → Bool
  | .int _ => true
  | _ => false
def Pr (p : Int) : Prop := p = 2 ∨ p = 3 ∨ p = 5
instance (p : Int) : Decidable (Pr p) := inferInstanceAs (Decidable (_ ∨ _ ∨ _))
def isPr : V → Bool
  | .int p => decide (Pr p)
  | _ => false
theorem Pr.is {p : Int} (h : Pr p) : isPr (.int p) = true := decide_eq_true h
theorem isPr_int {x : V} (h : isPr x = true) : ∃ p, x = .int p ∧ Pr p := by
  cases x <;> first | exact ⟨_, rfl, of_decide_eq_true h⟩ | cases h
theorem isPr_W {x : V} (h : isW x = false) : isPr x = false := by
  cases x <;> first | rfl | cases h
theorem Th.kt {K : PySem.W.Frag} {H H' : Hp} {x : V} (e : Kt K H H') (h : Th K H x) : Th K H' x := by
  cases h with
  | non => exact .non
  | bl b => exact .bl b
  | int i => exact .int i
  | str s => exact .str s
  | tup h => exact .tup (e _ _ h)
theorem Th.mono {K : PySem.W.Frag} {H H' : Hp} {x : V} (e : Ex H H') (h : Th K H x) : Th K H' x := h.kt (Kt.ex e)
/-- what is no prime -/
def rBad (K : PySem.W.Frag) : Rp Unit := fun H _ v => Th K H v ∧ isPr v = false
instance {K : PySem.W.Frag} : Me (rBad K) := ⟨fun e h => ⟨h.1.mono e, h.2⟩⟩
instance {K : PySem.W.Frag} : Mkt K (rBad K) := ⟨fun e h => ⟨h.1.kt e, h.2⟩⟩
theorem er_bad {K : PySem.W.Frag} {α : Type} {R : Rp α} {t : TE} {σ : L2.St} {H : Hp} {x : α} (h : Er R t σ H x) (k : ∀ v H1, R H1 x v → Th K H1 v ∧ isPr v = false) : Er (rBad K) t σ H () := fun H1 e Q q => h H1 e Q fun v H2 e2 r => q v H2 e2 (k v H2 r)
theorem er_badI {K : PySem.W.Frag} {t : TE} {σ : L2.St} {H : Hp} {x : Int} (h : Er rI t σ H x) (k : isPr (.int x) = false := by decide) : Er (rBad K) t σ H () := er_bad h fun v H1 r => by cases r; exact ⟨.int x, k⟩
theorem er_badB {K : PySem.W.Frag} {t : TE} {σ : L2.St} {H : Hp} {x : Bool} (h : Er rB t σ H x) : Er (rBad K) t σ H () := er_bad h fun v H1 r => by cases r; exact ⟨.bl x, rfl⟩
theorem er_badN {K : PySem.W.Frag} {t : TE} {σ : L2.St} {H : Hp} (h : Er rN t σ H ()) : Er (rBad K) t σ H () := er_bad h fun v H1 r => by cases r; exact ⟨.non, rfl⟩
theorem er_badS {K : PySem.W.Frag} {t : TE} {σ : L2.St} {H : Hp} {x : Str} (h : Er rS t σ H x) : Er (rBad K) t σ H () := er_bad h fun v H1 r => by cases r; exact ⟨.str x, rfl⟩
theorem er_badT {K : PySem.W.Frag} {α : Type} {R : Rp α} {t : TE} {σ : L2.St} {H : Hp} {x : List α} (h : Er (rT K R) t σ H x) : Er (rBad K) t σ H () := er_bad h fun v H1 r => by
  obtain ⟨a, vs, rfl, h2, _⟩ := r
  exact ⟨.tup h2, rfl⟩
/-- a thing's kind among built-in classes -/
def isIB : V → Bool
  | .int _ => true
  | .bl _ => true
  | _ => false
def isB : V → Bool
  | .bl _ => true
  | _ => false
theorem isW_eq (x : V) : isW x = (isIB x && !isB x) := by cases x <;> rfl
theorem Th.ty {K : PySem.W.Frag} {H : Hp} {x : V} (h : Th K H x) : ∃ t : String, TyX K H x (.type t) ∧ kitB t "int" = some (isIB x) ∧ kitB t "bool" = some (isB x) := by
  cases h with
  | non => exact ⟨_, .base .non, (show kitB _ "int" = some false by decide +kernel), (show kitB _ "bool" = some false by decide +kernel)⟩
  | bl b => exact ⟨_, .base (.bl b), (show kitB _ "int" = some true by decide +kernel), (show kitB _ "bool" = some true by decide +kernel)⟩
  | int i => exact ⟨_, .base (.int i), (show kitB _ "int" = some true by decide +kernel), (show kitB _ "bool" = some false by decide +kernel)⟩
  | str s => exact ⟨_, .base (.str s), (show kitB _ "int" = some false by decide +kernel), (show kitB _ "bool" = some false by decide +kernel)⟩
  | tup h => exact ⟨_, sqT_ty h, (show kitB _ "int" = some false by decide +kernel), (show kitB _ "bool" = some false by decide +kernel)⟩

/-! ### the bag of a law: four numbers (three) -/
def Bag (H : Hp) (b : Addr) : Prop := ∃ b0 b1 pr c : Int, Lt rI H b [b0, b1, pr, c] ∧ 0 ≤ b0 ∧ 0 ≤ b1 ∧ b1 < 4294967296 ∧ 0 < pr ∧ pr < 4294967296
theorem Bag.ex {H H' : Hp} {b : Addr} (h : Bag H b) (e : Ex H H') : Bag H' b := let ⟨a, c, d, f, l, r⟩ := h; ⟨a, c, d, f, l.ex e, r⟩
theorem Bag.kt {K : PySem.W.Frag} {H H' : Hp} {b : Addr} (h : Bag H b) (c : C1 b H H') : Kt K H H' := let ⟨_, _, _, _, l, _⟩ := h; l.kt c
theorem Bag.keep {H H' : Hp} {b p : Addr} (h : Bag H b) (c : C1 p H H') (n : b ≠ p) : Bag H' b := let ⟨a, d, e, f, ⟨vs, h1, h2⟩, r⟩ := h; ⟨a, d, e, f, ⟨vs, c _ _ n h1, h2⟩, r⟩
theorem Bag.there {H : Hp} {b : Addr} (h : Bag H b) : ∃ xs, H b = some (.lst xs) := let ⟨_, _, _, _, ⟨vs, h1, _⟩, _⟩ := h; ⟨vs, h1⟩
theorem Bag.ne {H : Hp} {b q : Addr} (h : Bag H b) (hq : H q = none) : b ≠ q := let ⟨_, h1⟩ := h.there; ne_of_none h1 hq
/-- what was fresh -/
theorem fb {H H' : Hp} {b p : Addr} (c : C1 b H H') (h : Bag H' b) (hp : H' p = none) : H p = none := by
  by_cases z : p = b
  · obtain ⟨xs, q⟩ := h.there
    rw [z, q] at hp
    cases hp
  · cases q : H p with
    | none => rfl
    | some o =>
      rw [c p o z q] at hp
      cases hp
/-- a list that is read by whoever holds it -/
theorem rl_of {K : PySem.W.Frag} {H : Hp} {a : Addr} {ns : List Int} (h : SqL K H a (ns.map V.int)) : rL K rI H ns (.ref a) := ⟨a, _, rfl, h, pI' ns⟩

/-! ### steps one by one -/
section
variable {α : Type} {K : PySem.W.Frag} {H : Hp} {σ : L2.St} {ta tb te : TE} {t u : TT} {R : Rp α} {x : α} {D : Ends} {tu tw tz : TS} {j : Nat}
theorem q_asg0 (h : te σ H fun x H1 => tz D (σ.set j (some x)) H1) : tSeq (tAsg te (gName j)) tz D σ H := h
theorem s_asg0 (h : te σ H fun x H1 => D.nx (σ.set j (some x)) H1) : tAsg te (gName j) D σ H := h
theorem q_if0 (h : t σ H fun b H1 => if b = true then tu { D with nx := tz D } σ H1 else tw { D with nx := tz D } σ H1) : tSeq (tIfS t tu tw) tz D σ H := h
theorem q_when0 (h : t σ H fun b H1 => if b = true then tu { D with nx := tz D } σ H1 else tz D σ H1) : tSeq (tIfS t tu tNext) tz D σ H := h
theorem s_when0 (h : t σ H fun b H1 => if b = true then tu D σ H1 else D.nx σ H1) : tIfS t tu tNext D σ H := h
theorem q_for0 {wi : TI} {g : TG} (h : wi σ H fun J H1 => Fl J g tu { D with nx := tz D } σ H1) : tSeq (tFor wi g tu) tz D σ H := h
theorem s_for0 {wi : TI} {g : TG} (h : wi σ H fun J H1 => Fl J g tu D σ H1) : tFor wi g tu D σ H := h
theorem q_drop0 (h : te σ H fun _ H1 => tz D σ H1) : tSeq (tDrop te) tz D σ H := h
theorem go_call1 {sp : Sp} {E : XK} {Q : VK} (h : ta σ H fun x H1 => sp [x] H1 Q E) : tCall sp [] E (tCons ta tNil) σ H Q := h
theorem go_call2 {sp : Sp} {E : XK} {Q : VK} (h : ta σ H fun x H1 => tb σ H1 fun y H2 => sp [x, y] H2 Q E) : tCall sp [] E (tCons ta (tCons tb tNil)) σ H Q := h
theorem go_call3 {sp : Sp} {E : XK} {Q : VK} {tc : TE} (h : ta σ H fun x H1 => tb σ H1 fun y H2 => tc σ H2 fun z H3 => sp [x, y, z] H3 Q E) : tCall sp [] E (tCons ta (tCons tb (tCons tc tNil))) σ H Q := h
theorem go_not {Q : Bool → Hp → Prop} (h : t σ H fun b H1 => Q (!b) H1) : tNot t σ H Q := h
theorem go_tB {Q : Bool → Hp → Prop} (h : te σ H fun x H1 => ∃ c, x = .bl c ∧ Q c H1) : tB te σ H Q := h
theorem go_tT {Q : Bool → Hp → Prop} (h : te σ H fun x H1 => ∃ c, x = .bl c ∧ Q c H1) : tTest te σ H Q := h
theorem go_var {Q : VK} {i : Nat} {v : V} (h : σ[i]? = some (some v)) (k : Q v H) : tVar i σ H Q := ⟨v, h, k⟩
theorem go_op {r : R2} {Q : VK} (h : ta σ H fun x H1 => tb σ H1 fun y H2 => r x y H2 Q) : tOp r ta tb σ H Q := h
theorem go_ixL [Me R] {Q : VK} {p : Addr} {xs : List α} {i : Int} (l : Lt R H p xs) (h1 : -(xs.length : Int) ≤ i) (h2 : i < xs.length) (d : α) (k : ∀ v, R H (gt0 d xs i) v → Q v H) : rIxL K (.ref p) (.int i) H Q := by
  obtain ⟨vs, e1, e2⟩ := l
  obtain ⟨u, hu, ru⟩ := paired_get e2 (gt0_some (d := d) h1 h2)
  have hl := paired_len e2
  rw [hl] at h1 h2 hu
  exact ⟨p, vs, i, u, rfl, rfl, SqL.of e1, atI_ixs h1 h2 hu, k u ru⟩
theorem er_isI {i : Int} (h : Er rI ta σ H i) : Er rB (tCB (rIsi K) (tCons ta (tCons (tC (.ty "int")) tNil))) σ H true := fun H1 e Q q =>
  h H1 e _ fun v H2 e2 r => by
    cases r
    exact ⟨_, _, _, _, true, rfl, .ty "int", .base (.int i), kit_ty (show kitB "int" "int" = some true by decide +kernel), q _ H2 e2 rfl⟩
theorem er_isIb {i : Int} (h : Er rI ta σ H i) : Er rB (tCB (rIsi K) (tCons ta (tCons (tC (.ty "bool")) tNil))) σ H false := fun H1 e Q q =>
  h H1 e _ fun v H2 e2 r => by
    cases r
    exact ⟨_, _, _, _, false, rfl, .ty "bool", .base (.int i), kit_ty (show kitB "int" "bool" = some false by decide +kernel), q _ H2 e2 rfl⟩
theorem er_chain {g g' : Int → Int → Bool} {a b c : Int} {tc : TE} (ha : Er rI ta σ H a) (hb : Er rI tb σ H b) (hc : Er rI tc σ H c) : Er rB (tChain (rI0 fun i j => V.bl (g i j)) (rI0 fun i j => V.bl (g' i j)) ta tb tc) σ H (g a b && g' b c) := fun H1 e Q q =>
  ha H1 e _ fun v H2 e2 r1 => hb H2 (e.trans e2) _ fun u H3 e3 r2 => by
    cases r1
    cases r2
    refine ⟨a, b, rfl, rfl, g a b, rfl, ?_⟩
    cases hg : g a b with
    | true => exact hc H3 ((e.trans e2).trans e3) _ fun w H4 e4 r3 => ⟨b, c, rfl, r3, q _ H4 ((e2.trans e3).trans e4) (by rw [hg]; rfl)⟩
    | false => exact q _ H3 (e2.trans e3) (by rw [hg]; rfl)
/-- a way that can't be -/
theorem q_not {b : Bool} (h : Et t σ H b) (hb : b = false) (k : ∀ H1, Ex H H1 → tz D σ H1) : tSeq (tIfS t tu tNext) tz D σ H := q_when h (fun z => by rw [hb] at z; cases z) fun _ H1 e => k H1 e
theorem s_not {b : Bool} (h : Et t σ H b) (hb : b = false) (k : ∀ H1, Ex H H1 → D.nx σ H1) : tIfS t tu tNext D σ H := s_when h (fun z => by rw [hb] at z; cases z) fun _ H1 e => k H1 e
/-- a reading of which something is known -/
theorem pss_ex {X : Cx} {st : List Stmt} {ι : Type} {P : ι → Prop} {t : ι → TS} (h : ∀ z, P z → PSs X st (t z)) : PSs X st (fun D σ H => ∃ z, P z ∧ t z D σ H) :=
  ⟨fun pins s σ H D I ⟨z, hz, q⟩ => (h z hz).run pins s σ H D I q⟩
end

/-! ### kinds of errors -/
theorem kit_self {K : PySem.W.Frag} {C : Addr} : PySem.W.kitOne K (.ref C) (.ref C) = some true := by
  unfold PySem.W.kitOne
  rw [if_pos (by simp)]
theorem kit_base {K : PySem.W.Frag} {C : Addr} {T : String} {b : Bool} (h : PySem.W.subIn K (.ref C) (.type T) = some b) (hm : PySem.W.kitMeta T = true) : PySem.W.kitOne K (.ref C) (.type T) = some b := by
  unfold PySem.W.kitOne
  rw [if_neg (by intro z; cases (eq_of_beq z))]
  show (if PySem.W.kitMeta T = true then PySem.W.subIn K (.ref C) (.type T) else none) = some b
  rw [if_pos hm, h]
theorem kit_own {K : PySem.W.Frag} {C D : Addr} {b : Bool} (hne : C ≠ D) (h1 : PySem.W.isClsIn K D = true) (h2 : PySem.W.typeIn K (.ref D) = some (.type "type")) (h : PySem.W.subIn K (.ref C) (.ref D) = some b) : PySem.W.kitOne K (.ref C) (.ref D) = some b := by
  unfold PySem.W.kitOne
  rw [if_neg (by intro z; exact hne (Value.ref.inj (eq_of_beq z)))]
  show (if ((PySem.W.clsIn K D).isSome && PySem.W.typeIn K (.ref D) == some (.type "type")) = true then PySem.W.subIn K (.ref C) (.ref D) else none) = some b
  have e : (PySem.W.clsIn K D).isSome = true := h1
  rw [e, h2, h]
  rfl
end Dg

namespace Dg
open PySem PySem.Spec PyProof.Rows L2 Evl
def topS (i : Nat) : Stmt := PySem.Challenge.pw_digitroots_k44_whole_choices_of_many.main.body.getD i (.Pass ⟨0, 0, 0, 0⟩)
abbrev s_is_whole : Stmt := topS 5
abbrev s_is_prime : Stmt := topS 6
abbrev s_look_prime : Stmt := topS 7
abbrev s_figures_of : Stmt := topS 9
abbrev s_few_choices : Stmt := topS 11
abbrev s_choice : Stmt := topS 12
abbrev s__law_bag : Stmt := topS 14
abbrev s__law_take : Stmt := topS 15
abbrev s__law_place : Stmt := topS 16
abbrev s__law_within : Stmt := topS 17
abbrev s__law_few : Stmt := topS 18
abbrev s__law_good : Stmt := topS 19
abbrev s_law : Stmt := topS 20
theorem sc_is_whole : FnScope ["thing"] ["thing"] (defScope s_is_whole) := ⟨rfl, rfl, rfl, by decide +kernel, rfl, by decide +kernel, by decide +kernel⟩
theorem sc_is_prime : FnScope ["thing"] ["thing"] (defScope s_is_prime) := ⟨rfl, rfl, rfl, by decide +kernel, rfl, by decide +kernel, by decide +kernel⟩
theorem sc_look_prime : FnScope ["p"] ["p"] (defScope s_look_prime) := ⟨rfl, rfl, rfl, by decide +kernel, rfl, by decide +kernel, by decide +kernel⟩
theorem sc_figures_of : FnScope ["p", "place", "found"] ["p", "place"] (defScope s_figures_of) := ⟨rfl, rfl, rfl, by decide +kernel, rfl, by decide +kernel, by decide +kernel⟩
theorem sc_few_choices : FnScope ["many", "taken", "found", "k"] ["many", "taken"] (defScope s_few_choices) := ⟨rfl, rfl, rfl, by decide +kernel, rfl, by decide +kernel, by decide +kernel⟩
theorem sc_choice : FnScope ["p", "n", "k", "figures", "taken", "found", "place", "figure"] ["p", "n", "k"] (defScope s_choice) := ⟨rfl, rfl, rfl, by decide +kernel, rfl, by decide +kernel, by decide +kernel⟩
theorem sc__law_bag : FnScope ["_law_script", "_law_at", "_law_cell", "_law_prime"] ["_law_script", "_law_at"] (defScope s__law_bag) := ⟨rfl, rfl, rfl, by decide +kernel, rfl, by decide +kernel, by decide +kernel⟩
theorem sc__law_take : FnScope ["_law_bag_here", "_law_many", "_law_digit"] ["_law_bag_here", "_law_many"] (defScope s__law_take) := ⟨rfl, rfl, rfl, by decide +kernel, rfl, by decide +kernel, by decide +kernel⟩
theorem sc__law_place : FnScope ["_law_bag_here", "_law_figures", "_law_found", "_law_turn"] ["_law_bag_here", "_law_figures"] (defScope s__law_place) := ⟨rfl, rfl, rfl, by decide +kernel, rfl, by decide +kernel, by decide +kernel⟩
theorem sc__law_within : FnScope ["_law_bag_here", "_law_p", "_law_n", "_law_far", "_law_found"] ["_law_bag_here", "_law_p", "_law_n"] (defScope s__law_within) := ⟨rfl, rfl, rfl, by decide +kernel, rfl, by decide +kernel, by decide +kernel⟩
theorem sc__law_few : FnScope ["_law_n", "_law_k"] ["_law_n", "_law_k"] (defScope s__law_few) := ⟨rfl, rfl, rfl, by decide +kernel, rfl, by decide +kernel, by decide +kernel⟩
theorem sc__law_good : FnScope ["_law_p", "_law_n", "_law_k", "_law_a", "_law_b", "_law_here"] ["_law_p", "_law_n", "_law_k", "_law_a", "_law_b"] (defScope s__law_good) := ⟨rfl, rfl, rfl, by decide +kernel, rfl, by decide +kernel, by decide +kernel⟩
theorem sc_law : FnScope ["_law_script", "_law_k", "_law_bag_here", "_law_p", "_law_n", "_law_taken", "_law_some"] ["_law_script"] (defScope s_law) := ⟨rfl, rfl, rfl, by decide +kernel, rfl, by decide +kernel, by decide +kernel⟩
/-- binomials -/
def cho : Nat → Nat → Nat
  | _, 0 => 1
  | 0, _ + 1 => 0
  | n + 1, k + 1 => cho n k + cho n (k + 1)
theorem cho_0 (n : Nat) : cho n 0 = 1 := by cases n <;> rfl
theorem cho_00 (k : Nat) : cho 0 (k + 1) = 0 := rfl
theorem cho_ss (n k : Nat) : cho (n + 1) (k + 1) = cho n k + cho n (k + 1) := rfl
theorem cho_above : ∀ (n k : Nat), n < k → cho n k = 0
  | 0, 0, h => absurd h (Nat.lt_irrefl _)
  | 0, _ + 1, _ => rfl
  | _ + 1, 0, h => absurd h (Nat.not_lt_zero _)
  | n + 1, k + 1, h => by rw [cho_ss, cho_above n k (by omega), cho_above n (k + 1) (by omega)]
theorem cho_self : ∀ n : Nat, cho n n = 1
  | 0 => rfl
  | n + 1 => by rw [cho_ss, cho_self n, cho_above n (n + 1) (by omega)]
theorem cho_1 : ∀ n : Nat, cho n 1 = n
  | 0 => rfl
  | n + 1 => by rw [cho_ss, cho_0, cho_1 n]; omega
theorem cho_sym : ∀ (a b : Nat), cho (a + b) a = cho (a + b) b
  | 0, b => by rw [cho_0, Nat.zero_add, cho_self]
  | a + 1, 0 => by rw [cho_0, Nat.add_zero, cho_self]
  | a + 1, b + 1 => by
    have h1 := cho_sym a (b + 1)
    have h2 := cho_sym (a + 1) b
    have e1 : a + (b + 1) = a + b + 1 := by omega
    have e2 : a + 1 + b = a + b + 1 := by omega
    rw [e1] at h1
    rw [e2] at h2
    have e3 : a + 1 + (b + 1) = (a + b + 1) + 1 := by omega
    rw [e3, cho_ss (a + b + 1) a, cho_ss (a + b + 1) b, h1, h2]
    omega
/-- (k + 1) C(n, k + 1) = (n - k) C(n, k) -/
theorem cho_step : ∀ (n k : Nat), (k + 1) * cho n (k + 1) = (n - k) * cho n k
  | 0, k => by rw [cho_00, Nat.zero_sub, Nat.zero_mul, Nat.mul_zero]
  | n + 1, 0 => by rw [cho_1, cho_0]; omega
  | n + 1, k + 1 => by
    have h1 := cho_step n k
    have h2 := cho_step n (k + 1)
    rw [cho_ss, cho_ss, Nat.mul_add (k + 1 + 1), h2]
    by_cases hk : n ≤ k
    · rw [show n + 1 - (k + 1) = 0 by omega, show n - (k + 1) = 0 by omega, cho_above n (k + 1) (by omega)]
      simp
    · obtain ⟨d, rfl⟩ : ∃ d, n = k + 1 + d := ⟨n - (k + 1), by omega⟩
      rw [show k + 1 + d - k = d + 1 by omega] at h1
      rw [show k + 1 + d - (k + 1) = d by omega, show k + 1 + d + 1 - (k + 1) = d + 1 by omega, Nat.mul_add (d + 1), ← h1]
      rw [show (k + 1 + 1) * cho (k + 1 + d) (k + 1) = (k + 1) * cho (k + 1 + d) (k + 1) + cho (k + 1 + d) (k + 1) by rw [Nat.succ_mul],
        show (d + 1) * cho (k + 1 + d) (k + 1) = d * cho (k + 1 + d) (k + 1) + cho (k + 1 + d) (k + 1) by rw [Nat.succ_mul]]
      omega
/-- the three primes -/
def P3 (p : Nat) : Prop := p = 2 ∨ p = 3 ∨ p = 5
theorem P3.pos {p : Nat} (h : P3 p) : 0 < p := by rcases h with rfl | rfl | rfl <;> decide
theorem P3.two {p : Nat} (h : P3 p) : 2 ≤ p := by rcases h with rfl | rfl | rfl <;> decide
theorem cho_2 (m j : Nat) : cho (m + 2) (j + 2) = cho m (j + 2) + 2 * cho m (j + 1) + cho m j := by
  have e1 : cho (m + 2) (j + 2) = cho (m + 1) (j + 1) + cho (m + 1) (j + 2) := rfl
  have e2 : cho (m + 1) (j + 1) = cho m j + cho m (j + 1) := rfl
  have e3 : cho (m + 1) (j + 2) = cho m (j + 1) + cho m (j + 2) := rfl
  omega
theorem cho_3 (m j : Nat) : cho (m + 3) (j + 3) = cho m (j + 3) + 3 * cho m (j + 2) + 3 * cho m (j + 1) + cho m j := by
  have e1 : cho (m + 3) (j + 3) = cho (m + 2) (j + 2) + cho (m + 2) (j + 3) := rfl
  have e2 : cho (m + 2) (j + 2) = cho m (j + 2) + 2 * cho m (j + 1) + cho m j := cho_2 m j
  have e3 : cho (m + 2) (j + 3) = cho m (j + 3) + 2 * cho m (j + 2) + cho m (j + 1) := cho_2 m (j + 1)
  omega
theorem cho_5 (m j : Nat) : cho (m + 5) (j + 5) = cho m (j + 5) + 5 * cho m (j + 4) + 10 * cho m (j + 3) + 10 * cho m (j + 2) + 5 * cho m (j + 1) + cho m j := by
  have e : cho (m + 5) (j + 5) = cho (m + 3) (j + 5) + 2 * cho (m + 3) (j + 4) + cho (m + 3) (j + 3) := cho_2 (m + 3) (j + 3)
  have e1 : cho (m + 3) (j + 5) = cho m (j + 5) + 3 * cho m (j + 4) + 3 * cho m (j + 3) + cho m (j + 2) := cho_3 m (j + 2)
  have e2 : cho (m + 3) (j + 4) = cho m (j + 4) + 3 * cho m (j + 3) + 3 * cho m (j + 2) + cho m (j + 1) := cho_3 m (j + 1)
  have e3 : cho (m + 3) (j + 3) = cho m (j + 3) + 3 * cho m (j + 2) + 3 * cho m (j + 1) + cho m j := cho_3 m j
  omega
/-- by p the p-th row on: the low places stay -/
theorem cho_low {p : Nat} (h : P3 p) (m b : Nat) (hb : b < p) : cho (m + p) b % p = cho m b % p := by
  rcases h with rfl | rfl | rfl
  · match b, hb with
    | 0, _ => rw [cho_0, cho_0]
    | 1, _ => rw [cho_1, cho_1]; omega
  · match b, hb with
    | 0, _ => rw [cho_0, cho_0]
    | 1, _ => rw [cho_1, cho_1]; omega
    | 2, _ =>
      have e := cho_2 (m + 1) 0
      have e1 : cho (m + 1) 2 = cho m 1 + cho m 2 := rfl
      rw [show m + 1 + 2 = m + 3 by rfl] at e
      rw [e, cho_0, Nat.zero_add, Nat.zero_add, e1, cho_1, cho_1]; omega
  · match b, hb with
    | 0, _ => rw [cho_0, cho_0]
    | 1, _ => rw [cho_1, cho_1]; omega
    | 2, _ =>
      have a1 := cho_2 (m + 3) 0
      have a2 := cho_2 (m + 1) 0
      have a3 : cho (m + 1) 2 = cho m 1 + cho m 2 := rfl
      simp only [Nat.zero_add, cho_0, cho_1] at a1 a2 a3
      rw [show m + 3 + 2 = m + 5 by rfl] at a1
      rw [show m + 1 + 2 = m + 3 by rfl] at a2
      omega
    | 3, _ =>
      have a0 := cho_2 (m + 3) 1
      have a1 := cho_3 m 0
      have a2 := cho_2 (m + 1) 0
      have a3 : cho (m + 1) 2 = cho m 1 + cho m 2 := rfl
      simp only [Nat.zero_add, cho_0, cho_1] at a0 a1 a2 a3
      rw [show m + 3 + 2 = m + 5 by rfl] at a0
      rw [show m + 1 + 2 = m + 3 by rfl] at a2
      have a4 : cho (m + 3) (1 + 1) = cho (m + 3) 2 := rfl
      have a5 : cho (m + 3) (1 + 2) = cho (m + 3) 3 := rfl
      have a6 : cho (m + 5) (1 + 2) = cho (m + 5) 3 := rfl
      omega
    | 4, _ =>
      have a0 := cho_2 (m + 3) 2
      have b1 := cho_3 m 1
      have b2 := cho_3 m 0
      have a2 := cho_2 (m + 1) 0
      have a3 : cho (m + 1) 2 = cho m 1 + cho m 2 := rfl
      have a4 : cho (m + 3) (2 + 1) = cho (m + 3) 3 := rfl
      have a5 : cho (m + 3) (2 + 2) = cho (m + 3) 4 := rfl
      have a6 : cho (m + 5) (2 + 2) = cho (m + 5) 4 := rfl
      have a7 : cho m (1 + 3) = cho m 4 := rfl
      have a8 : cho m (1 + 2) = cho m 3 := rfl
      have a9 : cho m (1 + 1) = cho m 2 := rfl
      have a10 : cho (m + 3) (1 + 3) = cho (m + 3) 4 := rfl
      simp only [Nat.zero_add, cho_0, cho_1] at a0 b1 b2 a2 a3
      rw [show m + 3 + 2 = m + 5 by rfl] at a0
      rw [show m + 1 + 2 = m + 3 by rfl] at a2
      omega
theorem cho_high {p : Nat} (h : P3 p) (m j : Nat) : cho (m + p) (j + p) % p = (cho m (j + p) + cho m j) % p := by
  rcases h with rfl | rfl | rfl
  · rw [cho_2]; omega
  · rw [cho_3]; omega
  · rw [cho_5]; omega
theorem lucas {p : Nat} (h : P3 p) (a b : Nat) (ha : a < p) (hb : b < p) : ∀ n k : Nat, cho (p * n + a) (p * k + b) % p = cho n k * cho a b % p
  | 0, 0 => by rw [Nat.mul_zero, Nat.zero_add, Nat.zero_add, cho_0, Nat.one_mul]
  | 0, k + 1 => by
    rw [cho_00, Nat.zero_mul, Nat.mul_zero, Nat.zero_add, cho_above a _ (by rw [Nat.mul_succ]; omega)]
  | n + 1, 0 => by
    have ih := lucas h a b ha hb n 0
    rw [Nat.mul_zero, Nat.zero_add] at ih ⊢
    rw [show p * (n + 1) + a = (p * n + a) + p by rw [Nat.mul_succ]; omega, cho_low h _ _ hb, ih, cho_0, cho_0]
  | n + 1, k + 1 => by
    have i1 := lucas h a b ha hb n (k + 1)
    have i2 := lucas h a b ha hb n k
    rw [show p * (n + 1) + a = (p * n + a) + p by rw [Nat.mul_succ]; omega, show p * (k + 1) + b = (p * k + b) + p by rw [Nat.mul_succ]; omega, cho_high h]
    rw [show p * k + b + p = p * (k + 1) + b by rw [Nat.mul_succ]; omega, Nat.add_mod, i1, i2, ← Nat.add_mod, cho_ss, ← Nat.add_mul, Nat.add_comm (cho n (k + 1))]
/-! ### figures and ways to choose, in plain Lean -/
/-- figures, the least first -/
def digF (p : Nat) : Nat → Nat → List Nat
  | 0, _ => []
  | f + 1, n => if n = 0 then [] else n % p :: digF p f (n / p)
def dig (p n : Nat) : List Nat := digF p n n
theorem digF_more (p : Nat) (hp : 2 ≤ p) : ∀ (f g n : Nat), n ≤ f → n ≤ g → digF p f n = digF p g n
  | 0, 0, n, _, _ => rfl
  | 0, g + 1, n, h, _ => by
    have : n = 0 := by omega
    subst this
    simp [digF]
  | f + 1, 0, n, _, h => by
    have : n = 0 := by omega
    subst this
    simp [digF]
  | f + 1, g + 1, n, h1, h2 => by
    unfold digF
    by_cases hn : n = 0
    · rw [if_pos hn, if_pos hn]
    · rw [if_neg hn, if_neg hn]
      have : n / p < n := Nat.div_lt_self (by omega) (by omega)
      rw [digF_more p hp f g (n / p) (by omega) (by omega)]
theorem dig_0 (p : Nat) : dig p 0 = [] := rfl
theorem dig_pos {p n : Nat} (hp : 2 ≤ p) (hn : n ≠ 0) : dig p n = n % p :: dig p (n / p) := by
  unfold dig
  obtain ⟨m, rfl⟩ : ∃ m, n = m + 1 := ⟨n - 1, by omega⟩
  have : (m + 1) / p < m + 1 := Nat.div_lt_self (by omega) (by omega)
  rw [show digF p (m + 1) (m + 1) = (m + 1) % p :: digF p m ((m + 1) / p) from by
    conv => lhs; unfold digF
    rw [if_neg hn]]
  rw [digF_more p hp m ((m + 1) / p) _ (by omega) (by omega)]
theorem dig_lt {p : Nat} (hp : 2 ≤ p) : ∀ (m n : Nat), n ≤ m → ∀ d ∈ dig p n, d < p
  | 0, n, h, d, hd => by
    have : n = 0 := by omega
    subst this
    simp [dig_0] at hd
  | m + 1, n, h, d, hd => by
    by_cases hn : n = 0
    · subst hn
      simp [dig_0] at hd
    · rw [dig_pos hp hn] at hd
      rcases List.mem_cons.mp hd with rfl | hd
      · exact Nat.mod_lt _ (by omega)
      · have : n / p < n := Nat.div_lt_self (by omega) (by omega)
        exact dig_lt hp m (n / p) (by omega) d hd
theorem dig_len {p : Nat} (hp : 2 ≤ p) : ∀ (j n : Nat), n < 2 ^ j → (dig p n).length ≤ j
  | 0, n, h => by
    have : n = 0 := by omega
    subst this
    exact Nat.le_refl _
  | j + 1, n, h => by
    by_cases hn : n = 0
    · subst hn
      exact Nat.zero_le _
    · rw [dig_pos hp hn, List.length_cons]
      have h2 : n / p ≤ n / 2 := Nat.div_le_div_left hp (by decide)
      have h3 : n / 2 < 2 ^ j := by rw [Nat.pow_succ] at h; omega
      have := dig_len hp j (n / p) (by omega)
      omega
theorem dig_mono {p : Nat} (hp : 2 ≤ p) : ∀ (m k n : Nat), k ≤ m → k ≤ n → (dig p k).length ≤ (dig p n).length
  | 0, k, n, h, _ => by
    have : k = 0 := by omega
    subst this
    exact Nat.zero_le _
  | m + 1, k, n, h, hkn => by
    by_cases hk : k = 0
    · subst hk
      exact Nat.zero_le _
    · have hn : n ≠ 0 := by omega
      rw [dig_pos hp hk, dig_pos hp hn, List.length_cons, List.length_cons]
      have : k / p < k := Nat.div_lt_self (by omega) (by omega)
      have := dig_mono hp m (k / p) (n / p) (by omega) (Nat.div_le_div_right hkn)
      omega
/-- the product, figure by figure -/
def prodc : List Nat → List Nat → Nat
  | _, [] => 1
  | [], _ :: _ => 0
  | a :: F, b :: T => cho a b * prodc F T
theorem lucas_all {p : Nat} (h : P3 p) : ∀ (m n k : Nat), k ≤ m → cho n k % p = prodc (dig p n) (dig p k) % p
  | 0, n, k, hk => by
    have : k = 0 := by omega
    subst this
    rw [cho_0, dig_0]
    unfold prodc
    rfl
  | m + 1, n, k, hm => by
    have h2 := h.two
    by_cases hk : k = 0
    · subst hk
      rw [cho_0, dig_0]
      unfold prodc
      rfl
    · rw [dig_pos h2 hk]
      by_cases hn : n = 0
      · subst hn
        rw [cho_above 0 k (by omega), dig_0]
        rfl
      · rw [dig_pos h2 hn]
        have : k / p < k := Nat.div_lt_self (by omega) (by omega)
        have ih := lucas_all h m (n / p) (k / p) (by omega)
        have e := lucas h (n % p) (k % p) (Nat.mod_lt _ (by omega)) (Nat.mod_lt _ (by omega)) (n / p) (k / p)
        rw [Nat.div_add_mod, Nat.div_add_mod] at e
        rw [e, Nat.mul_mod, ih, ← Nat.mul_mod, Nat.mul_comm]
        rfl
abbrev natI (xs : List Nat) : List Int := xs.map Int.ofNat
theorem natI_get {xs : List Nat} {i : Nat} {d : Nat} (h : xs[i]? = some d) : gt0 0 (natI xs) (i : Int) = d := by
  rw [gt0_nat, List.getElem?_map, h]
  rfl
/-- few_choices -/
theorem rng_succ (t : Nat) : rng 0 ((t + 1 : Nat) : Int) = rng 0 (t : Int) ++ [(t : Int)] := by
  unfold rng
  rw [show (((t + 1 : Nat) : Int) - 0).toNat = t + 1 by omega, show ((t : Int) - 0).toNat = t by omega, List.range_succ, List.map_append]
  simp
theorem few_fold (m : Nat) : ∀ t : Nat, List.foldl (fun (s k : Int) => s * ((m : Int) - k) / (k + 1)) 1 (rng 0 (t : Int)) = (cho m t : Int)
  | 0 => by rw [cho_0]; rfl
  | t + 1 => by
    rw [rng_succ, List.foldl_append, few_fold m t]
    show (cho m t : Int) * ((m : Int) - (t : Int)) / ((t : Int) + 1) = _
    have e := cho_step m t
    have e2 : (cho m t : Int) * ((m : Int) - (t : Int)) = ((t : Int) + 1) * (cho m (t + 1) : Int) := by
      by_cases hm : t ≤ m
      · have : ((m - t : Nat) : Int) = (m : Int) - (t : Int) := by omega
        rw [← this]
        have e3 := congrArg (Int.ofNat) e
        simp only [Int.ofNat_eq_natCast, Int.natCast_mul, Int.natCast_add, Int.natCast_one] at e3
        rw [Int.mul_comm, ← e3]
      · rw [cho_above m t (by omega), cho_above m (t + 1) (by omega)]
        simp
    rw [e2, Int.mul_ediv_cancel_left _ (by omega)]
theorem fold_prodc {p : Nat} (hp : 2 ≤ p) (F : List Nat) : ∀ (T : List Nat) (j : Nat) (s : Nat), T.length + j ≤ F.length → s % p = s →
    List.foldl (fun (s : Int) (x : Int × Int) => s * (cho (gt0 0 (natI F) x.1).toNat x.2.toNat : Int) % (p : Int)) (s : Int) (((natI T).zipIdx j).map fun q => ((q.2 : Int), q.1)) = ((s * prodc (F.drop j) T % p : Nat) : Int)
  | [], j, s, h, hs => by
    show (s : Int) = _
    unfold prodc
    rw [Nat.mul_one, hs]
  | b :: T, j, s, h, hs => by
    rw [List.length_cons] at h
    have hj : j < F.length := by omega
    show List.foldl _ ((s : Int) * (cho (gt0 0 (natI F) (j : Int)).toNat ((b : Int)).toNat : Int) % (p : Int)) (((natI T).zipIdx (j + 1)).map fun q => ((q.2 : Int), q.1)) = _
    rw [natI_get (List.getElem?_eq_getElem hj), List.drop_eq_getElem_cons hj]
    have e : (s : Int) * (cho ((F[j] : Nat) : Int).toNat ((b : Int)).toNat : Int) % (p : Int) = ((s * cho F[j] b % p : Nat) : Int) := by
      simp
    rw [e, fold_prodc hp F T (j + 1) _ (by omega) (Nat.mod_mod _ _)]
    congr 1
    show (s * cho F[j] b % p) * prodc (F.drop (j + 1)) T % p = s * (cho F[j] b * prodc (F.drop (j + 1)) T) % p
    rw [Nat.mod_mul_mod, Nat.mul_assoc]
theorem foldl_congr {α β : Type} {f g : β → α → β} : ∀ (xs : List α) (b : β), (∀ s x, x ∈ xs → f s x = g s x) → List.foldl f b xs = List.foldl g b xs
  | [], _, _ => rfl
  | x :: xs, b, h => by
    rw [List.foldl_cons, List.foldl_cons, h b x (List.mem_cons_self ..)]
    exact foldl_congr xs _ fun s y hy => h s y (List.mem_cons_of_mem _ hy)
theorem cho_le : ∀ n k : Nat, cho n k ≤ 2 ^ n
  | _, 0 => by rw [cho_0]; exact Nat.one_le_two_pow
  | 0, k + 1 => by rw [cho_00]; exact Nat.zero_le _
  | n + 1, k + 1 => by
    have h1 := cho_le n k
    have h2 := cho_le n (k + 1)
    rw [cho_ss, Nat.pow_succ]
    omega
theorem cho_small (n k : Nat) (h : n < 6) : cho n k < 2 ^ 63 := by
  have h1 := cho_le n k
  have h2 : 2 ^ n ≤ 2 ^ 6 := Nat.pow_le_pow_right (by decide) (by omega)
  omega
section
variable {P : Program} {w : World} {K : PySem.W.Frag} {mg : Str → Option Value} {base : Heap}
/-! ### is_whole, is_prime, look_prime -/
def sp_is_whole (K : PySem.W.Frag) : Sp := fun vs H Q _ => ∃ x : V, vs = [x] ∧ Th K H x ∧ ∀ H', Ex H H' → Q (.bl (isW x)) H'
theorem ok_is_whole {f : Addr} {fd : FuncData} (F : Fun K "is_whole" "is_whole" s_is_whole f fd) (n_isinstance : mg "isinstance" = none) (n_int : mg "int" = none) (n_bool : mg "bool" = none) : FnOk P w K mg base CX0 1 f fd ["thing"] (sp_is_whole K) := by
  refine F.ok sc_is_whole (fun vs H Q E h => ?_) (fun cdv A outer s H vs Q E hr h => ?_)
  · obtain ⟨x, rfl, _⟩ := h; rfl
  · obtain ⟨x, rfl, th, q⟩ := h
    obtain ⟨t, ty, k1, k2⟩ := th.ty
    refine ⟨_, pss_one (ps_ret (pe_and (pe_callB call_isi (by rfl) n_isinstance (by decide +kernel) (pa_cons (pv 0) (pa_cons (pe_bltn (v := .ty "int") (by rfl) n_int (by decide +kernel) rfl) pa_nil)))
      (pe_one (pe_not (pe_callB call_isi (by rfl) n_isinstance (by decide +kernel) (pa_cons (pv 0) (pa_cons (pe_bltn (v := .ty "bool") (by rfl) n_bool (by decide +kernel) rfl) pa_nil))))))), ?_⟩
    refine ⟨x, rfl, x, .ty "int", _, _, _, rfl, .ty "int", ty, kit_ty k1, _, rfl, ite2 (fun h1 => ?_) (fun h1 => ?_)⟩
    · refine ⟨x, rfl, x, .ty "bool", _, _, _, rfl, .ty "bool", ty, kit_ty k2, _, rfl, ?_⟩
      have e := isW_eq x
      rw [h1, Bool.true_and] at e
      rw [← e]
      exact q H (Ex.refl H)
    · have e := isW_eq x
      rw [Bool.eq_false_iff.mpr h1, Bool.false_and] at e
      have z := q H (Ex.refl H)
      rw [e] at z
      exact z
def sp_is_prime (K : PySem.W.Frag) : Sp := fun vs H Q _ => ∃ x : V, vs = [x] ∧ Th K H x ∧ ∀ H', Ex H H' → Q (.bl (isPr x)) H'
theorem ok_is_prime {f : Addr} {fd : FuncData} (F : Fun K "is_prime" "is_prime" s_is_prime f fd) (D_is_whole : Df P w K mg base CX0 1 "is_whole" ["thing"] (sp_is_whole K)) (c_PRIMES : Cn K mg "PRIMES" [.int 2, .int 3, .int 5]) : FnOk P w K mg base CX0 2 f fd ["thing"] (sp_is_prime K) := by
  refine F.ok sc_is_prime (fun vs H Q E h => ?_) (fun cdv A outer s H vs Q E hr h => ?_)
  · obtain ⟨x, rfl, _⟩ := h; rfl
  · obtain ⟨x, rfl, th, q⟩ := h
    refine ⟨_, pss_one (ps_ret (pe_and (pe_call D_is_whole.ok hr (by rfl) D_is_whole.g D_is_whole.kp D_is_whole.b .nil pass0 (pa_cons (pv 0) pa_nil))
      (pe_one (pe_cmpR op_in_seq (pv 0) (pe_glob (v := .ref c_PRIMES.a) (by rfl) c_PRIMES.g rfl) (by rfl))))), ?_⟩
    refine ⟨x, rfl, x, rfl, th, fun H1 e1 => ⟨_, rfl, ite2 (fun h1 => ?_) (fun h1 => ?_)⟩⟩
    · cases x <;> first | cases h1 | skip
      rename_i i
      refine ⟨.int i, rfl, c_PRIMES.a, _, rfl, .inr (c_PRIMES.s H1), rfl, rfl, ?_⟩
      have z := q H1 e1
      have e : inV (.int i) [.int 2, .int 3, .int 5] = isPr (.int i) := by
        show ((2 : Int) == i || ((3 : Int) == i || ((5 : Int) == i || false))) = decide (Pr i)
        rw [Bool.eq_iff_iff]
        simp only [Bool.or_eq_true, beq_iff_eq, Bool.false_eq_true, or_false, decide_eq_true_eq]
        exact ⟨fun h => by rcases h with h | h | h <;> simp [Pr, ← h], fun h => by rcases h with h | h | h <;> simp [h]⟩
      show Q (.bl (inV (.int i) [.int 2, .int 3, .int 5])) H1
      rw [e]
      exact z
    · have z := q H1 e1
      rw [isPr_W (Bool.eq_false_iff.mpr h1)] at z
      exact z
def sp_look_prime (K : PySem.W.Frag) (C : Addr) : Sp := fun vs H Q E => ∃ x : V, vs = [x] ∧ Th K H x ∧ (isPr x = true → ∀ H', Ex H H' → Q .non H') ∧ (isPr x = false → ∀ H', Ex H H' → E (.ref C) none H')
/-- what is known of a class of errors -/
structure Xc (K : PySem.W.Frag) (mg : Str → Option Value) (x : Str) (C : Addr) : Prop where
  g : mg x = some (.ref C)
  kp : PySem.W.keepIn K (.ref C) = true
  x : PySem.W.excIn K C [.type "ValueError", .type "Exception", .type "BaseException", .type "object"] "ValueError.__new__" = true
  sb : PySem.W.subIn K (.ref C) (.type "BaseException") = some true
  ty : PySem.W.typeIn K (.ref C) = some (.type "type")
theorem ok_look_prime {f : Addr} {fd : FuncData} (F : Fun K "look_prime" "look_prime" s_look_prime f fd) (D_is_prime : Df P w K mg base CX0 2 "is_prime" ["thing"] (sp_is_prime K)) {C : Addr} (x_NoPrime : Xc K mg "NoPrime" C) : FnOk P w K mg base (L2.CX P w) 3 f fd ["p"] (sp_look_prime K C) := by
  refine F.okX sc_look_prime (fun vs H Q E h => ?_) (fun cdv A outer s H vs Q E hr h => ?_)
  · obtain ⟨x, rfl, _⟩ := h; rfl
  · obtain ⟨x, rfl, th, q1, q2⟩ := h
    refine ⟨_, pss_one (ps_if (pt_not (pt_val (pe_call D_is_prime.ok hr (by rfl) D_is_prime.g D_is_prime.kp D_is_prime.b .nil pass0 (pa_cons (pv 0) pa_nil))))
      (pss_one (ps_raise rfl (takes_of rfl rfl rfl rfl) (pmk_own PySem.F.excBase_ValueError x_NoPrime.x x_NoPrime.g x_NoPrime.kp (raises_own x_NoPrime.sb x_NoPrime.ty) rfl))) pss_nil), ?_⟩
    refine ⟨x, rfl, x, rfl, th, fun H1 e1 => ⟨_, rfl, ite2 (fun h1 => ?_) (fun h1 => ?_)⟩⟩
    · exact q2 (by simpa using h1) H1 e1
    · exact q1 (by simpa using h1) H1 e1
/-- look_prime(p) as a statement -/
theorem s_look {x : V} {σ : L2.St} {H : Hp} {D : Ends} {i : Nat} {C : Addr} {E : XK} (hx : σ[i]? = some (some x)) (th : Th K H x) (k1 : ∀ p : Nat, x = .int p → P3 p → ∀ H1, Ex H H1 → D.nx σ H1) (k2 : isPr x = false → ∀ H1, Ex H H1 → E (.ref C) none H1) :
    tDrop (tCall (sp_look_prime K C) [] E (tCons (tVar i) tNil)) D σ H := by
  refine ⟨x, hx, x, rfl, th, fun h H1 e1 => ?_, k2⟩
  obtain ⟨p, rfl, hp⟩ := isPr_int h
  rcases hp with rfl | rfl | rfl
  · exact k1 2 rfl (.inl rfl) H1 e1
  · exact k1 3 rfl (.inr (.inl rfl)) H1 e1
  · exact k1 5 rfl (.inr (.inr rfl)) H1 e1
theorem P3.pr {p : Nat} (h : P3 p) : Pr (p : Int) := by rcases h with rfl | rfl | rfl <;> decide
theorem P3.le {p : Nat} (h : P3 p) : 2 ≤ p ∧ p ≤ 5 := by rcases h with rfl | rfl | rfl <;> decide
end
section
variable {P : Program} {w : World} {K : PySem.W.Frag} {mg : Str → Option Value} {base : Heap}
/-! ### the law's bag -/
def sp__law_bag (K : PySem.W.Frag) : Sp := fun vs H Q _ => ∃ (a : Addr) (ns : List Int) (k : Int), vs = [.ref a, .int k] ∧ SqL K H a (ns.map V.int) ∧ 0 ≤ k ∧ k < 1000 ∧ ∀ p H', H p = none → Ex H H' → Bag H' p → Q (.ref p) H'
theorem ok__law_bag {f : Addr} {fd : FuncData} (F : Fun K "_law_bag" "_law_bag" s__law_bag f fd) (n_len : mg "len" = none) (n_abs : mg "abs" = none) (n_int : mg "int" = none) : FnOk P w K mg base CX0 1 f fd ["_law_script", "_law_at"] (sp__law_bag K) := by
  refine F.ok sc__law_bag (fun vs H Q E h => ?_) (fun cdv A outer s H vs Q E hr h => ?_)
  · obtain ⟨a, ns, k, rfl, _⟩ := h; rfl
  · obtain ⟨a, ns, k, rfl, hS, hk0, hk1, q⟩ := h
    refine ⟨_, (pss_cons (ps_set (i := 2) sc__law_bag.nd rfl (Or.inl rfl) pe_int)
 (Evl.pss_cut (ps_if (pt_cmpR op_lt (pv 1) (pe_callB call_len_seq (by rfl) n_len (by decide +kernel) (pa_cons (pv 0) pa_nil)) (nomark _)) (pss_one (ps_set (i := 2) sc__law_bag.nd rfl (Or.inl rfl) (pe_callB call_abs (by rfl) n_abs (by decide +kernel) (pa_cons (pe_ix ix_list (pv 0) (pv 1) (fun _ _ => rfl)) pa_nil)))) pss_nil)
 (pss_cons (ps_set (i := 3) sc__law_bag.nd rfl (Or.inl rfl) (pe_ix ix_list (pe_lst (pa_cons pe_int (pa_cons pe_int (pa_cons pe_int (pa_cons pe_int (pa_cons pe_int (pa_cons pe_int (pa_cons pe_int (pa_cons pe_int pa_nil))))))))) (pe_op op_mod (pv 1) pe_int) (fun _ _ => rfl)))
 (pss_one (ps_ret (pe_lst (pa_cons (pe_op op_mul (pv 2) (pe_callTy call_int1 (by rfl) n_int (by decide +kernel) (pa_cons (pe_cmpR op_ge (pv 2) (pe_op op_pow pe_int pe_int) (nomark _)) pa_nil))) (pa_cons (pe_op op_mod (pe_op op_pow (pe_op op_add (pe_op op_add (pe_op op_mod (pv 2) pe_int) (pe_op op_mul pe_int (pv 1))) pe_int) pe_int) (pv 3)) (pa_cons (pv 3) (pa_cons pe_int pa_nil)))))))))), ?_⟩
    refine s_asgI er_int fun H1 e1 => ?_
    have hL : rL K rI H1 ns (.ref a) := Me.ex e1 (rl_of hS)
    refine ⟨fun σ' H' => ∃ cell : Int, 0 ≤ cell ∧ σ' = [some (.ref a), some (.int k), some (.int cell), none] ∧ Ex H H', ?_, ?_⟩
    · refine s_if (et_t (er_cmp er_iv (er_lenL (er_var rfl hL)))) (fun hb H2 e2 => ?_) (fun hb H2 e2 => ?_)
      · have hb' := of_decide_eq_true hb
        exact s_asgI (er_abs (er_ixL0 (0 : Int) (er_var rfl (Me.ex e2 hL)) er_iv (by omega) hb')) fun H3 e3 => ⟨_, by split <;> omega, rfl, (e1.trans e2).trans e3⟩
      · exact ⟨0, by omega, rfl, e1.trans e2⟩
    · rintro _ H2 ⟨cell, hc, rfl, F0⟩
      have hk8 : 0 ≤ k % 8 ∧ k % 8 < 8 := by omega
      refine s_asgI (er_ixL0 (0 : Int) (El.er (el_lst (R := rI) (eas er_int (eas er_int (eas er_int (eas er_int (eas er_int (eas er_int (eas er_int (eas er_int eas0)))))))) (by decide))) (er_op er_iv er_int (by decide)) (by show -(8 : Int) ≤ k % 8; omega) (by show k % 8 < (8 : Int); omega)) fun H3 e3 => ?_
      have hpr : 0 < gt0 (0 : Int) [2147483629, 2147483587, 2147483579, 2147483563, 2147483549, 2147483543, 2147483497, 2147483489] (k % 8) ∧ gt0 (0 : Int) [2147483629, 2147483587, 2147483579, 2147483563, 2147483549, 2147483543, 2147483497, 2147483489] (k % 8) < 4294967296 := by
        have hh : k % 8 = 0 ∨ k % 8 = 1 ∨ k % 8 = 2 ∨ k % 8 = 3 ∨ k % 8 = 4 ∨ k % 8 = 5 ∨ k % 8 = 6 ∨ k % 8 = 7 := by omega
        rcases hh with hh | hh | hh | hh | hh | hh | hh | hh <;> rw [hh] <;> decide
      generalize gt0 (0 : Int) [2147483629, 2147483587, 2147483579, 2147483563, 2147483549, 2147483543, 2147483497, 2147483489] (k % 8) = pr at hpr ⊢
      have hx : 0 ≤ cell % 2147483647 ∧ cell % 2147483647 < 2147483647 := by omega
      have hm := Int.emod_nonneg ((cell % 2147483647 + 104729 * k + 7) ^ (5 : Int).toNat) (show pr ≠ 0 by omega)
      have hm2 := Int.emod_lt_of_pos ((cell % 2147483647 + 104729 * k + 7) ^ (5 : Int).toNat) hpr.1
      refine go_L (el_lst (R := rI) (eas (er_op (C := CMul) er_iv (er_intB (er_cmp er_iv (er_op (C := CPow) er_int er_int ⟨by decide, by decide, by decide⟩))) (cmul_r (by split <;> omega)))
        (eas (er_op (er_op (C := CPow) (er_op0 (er_op0 (er_op er_iv er_int (by decide)) (er_op (C := CMul) er_int er_iv (cmul_l (by decide)))) er_int) er_int ⟨by decide, by decide, by omega⟩) er_iv (by omega)) (eas er_iv (eas er_int eas0)))) (by simp)) fun p H4 n4 e4 l4 => ?_
      refine q p H4 (fresh_back (F0.trans e3) n4) ((F0.trans e3).trans e4) ⟨_, _, _, _, l4, ?_, hm, by omega, hpr.1, hpr.2⟩
      split <;> simp <;> omega
def sp__law_take (K : PySem.W.Frag) : Sp := fun vs H Q _ => ∃ (b : Addr) (m : Int), vs = [.ref b, .int m] ∧ Bag H b ∧ 0 < m ∧ m < 1000000 ∧ ∀ (r : Int) H', C1 b H H' → Bag H' b → 0 ≤ r ∧ r < m → Q (.int r) H'
theorem ok__law_take {f : Addr} {fd : FuncData} (F : Fun K "_law_take" "_law_take" s__law_take f fd) : FnOk P w K mg base CX0 1 f fd ["_law_bag_here", "_law_many"] (sp__law_take K) := by
  refine F.ok sc__law_take (fun vs H Q E h => ?_) (fun cdv A outer s H vs Q E hr h => ?_)
  · obtain ⟨b, m, rfl, _⟩ := h; rfl
  · obtain ⟨b, m, rfl, ⟨b0, b1, pr, c, hB, h0, h1, h2, h3, h4⟩, hm0, hm1, q⟩ := h
    refine ⟨_, (pss_cons (ps_if (pt_cmpR op_gt (pe_ix ix_list (pv 0) pe_int (fun _ _ => rfl)) pe_int (nomark _)) (pss_cons (ps_set (i := 2) sc__law_take.nd rfl (Or.inl rfl) (pe_op op_mod (pe_ix ix_list (pv 0) pe_int (fun _ _ => rfl)) (pv 1)))
 (pss_cons (ps_asg (pe_op op_fdiv (pe_ix ix_list (pv 0) pe_int (fun _ _ => rfl)) (pv 1)) (pg_sub (pv 0) pe_int set_list))
 (pss_one (ps_ret (pv 2))))) pss_nil)
 (pss_cons (ps_asg (pe_op op_add (pe_ix ix_list (pv 0) pe_int (fun _ _ => rfl)) pe_int) (pg_sub (pv 0) pe_int set_list))
 (pss_cons (ps_asg (pe_op op_mod (pe_op op_add (pe_op op_add (pe_op op_mul (pe_ix ix_list (pv 0) pe_int (fun _ _ => rfl)) pe_int) (pe_op op_mul pe_int (pe_ix ix_list (pv 0) pe_int (fun _ _ => rfl)))) pe_int) (pe_ix ix_list (pv 0) pe_int (fun _ _ => rfl))) (pg_sub (pv 0) pe_int set_list))
 (pss_one (ps_ret (pe_op op_mod (pe_op op_mod (pe_op op_pow (pe_op op_fdiv (pe_ix ix_list (pv 0) pe_int (fun _ _ => rfl)) pe_int) pe_int) pe_int) (pv 1))))))), ?_⟩
    have ix : ∀ {H : Hp} {σ : L2.St} {xs : List Int} (k : Int), σ[0]? = some (some (.ref b)) → Lt rI H b xs → xs.length = 4 → 0 ≤ k → k < 4 → Er rI (tOp (rIxL K) (tVar 0) (tC (.int k))) σ H (gt0 0 xs k) := fun k hσ l hl k0 k1 => er_ixL0 (0 : Int) (er_var hσ l.rl) er_int (by omega) (by omega)
    have fin : ∀ (x : Int), 0 ≤ x % m ∧ x % m < m := fun x => ⟨Int.emod_nonneg _ (by omega), Int.emod_lt_of_pos _ hm0⟩
    refine s_if (et_t (er_cmp (ix 0 rfl hB rfl (by decide) (by decide)) er_int)) (fun hb H1 e1 => ?_) (fun hb H1 e1 => ?_)
    · have hb' : 0 < b0 := of_decide_eq_true hb
      refine s_asgI (er_op (ix 0 rfl (hB.ex e1) rfl (by decide) (by decide)) er_iv hm0) fun H2 e2 => ?_
      refine s_set (K := K) (j := 0) (hB.ex (e1.trans e2)) rfl (er_op (ix 0 rfl (hB.ex (e1.trans e2)) rfl (by decide) (by decide)) er_iv ⟨hm0, by omega⟩) er_int (by simp) (by simp) fun H3 c3 l3 => ?_
      refine s_ret (R := rI) er_iv fun v H4 e4 r => ?_
      cases r
      exact q _ H4 (((C1.ex (e1.trans e2)).trans c3).trans (C1.ex e4)) ⟨_, _, _, _, l3.ex e4, Int.ediv_nonneg h0 (by omega), h1, h2, h3, h4⟩ (fin _)
    · refine s_set (K := K) (j := 0) (hB.ex e1) rfl (er_op0 (ix 3 rfl (hB.ex e1) rfl (by decide) (by decide)) er_int) er_int (by simp) (by simp) fun H2 c2 l2 => ?_
      refine s_set (K := K) (j := 0) l2 rfl (er_op (er_op0 (er_op0 (er_op (C := CMul) (ix 1 rfl l2 rfl (by decide) (by decide)) er_int (cmul_r (by decide))) (er_op (C := CMul) er_int (ix 3 rfl l2 rfl (by decide) (by decide)) (cmul_l (by decide)))) er_int) (ix 2 rfl l2 rfl (by decide) (by decide)) (show 0 < pr from h3)) er_int (by simp) (by simp) fun H3 c3 l3 => ?_
      have z1 : 0 ≤ (b1 * 48271 + 7919 * (c + 1) + 11) % pr := Int.emod_nonneg _ (by omega)
      have z2 : (b1 * 48271 + 7919 * (c + 1) + 11) % pr < pr := Int.emod_lt_of_pos _ h3
      generalize hz : (b1 * 48271 + 7919 * (c + 1) + 11) % pr = z at z1 z2
      have l3' : Lt rI H3 b [b0, z, pr, c + 1] := by rw [← hz]; exact l3
      refine s_ret (R := rI) (er_op (er_op (er_op (C := CPow) (er_op (C := CDiv) (ix 1 rfl l3' rfl (by decide) (by decide)) er_int ⟨by decide, by decide⟩) er_int ⟨by decide, by decide, ?_⟩) er_int (by decide)) er_iv hm0) fun v H4 e4 r => ?_
      · show (z / 8).natAbs < 2 ^ 64
        omega
      · cases r
        exact q _ H4 ((((C1.ex e1).trans c2).trans c3).trans (C1.ex e4)) ⟨_, _, _, _, l3'.ex e4, h0, z1, by omega, h3, h4⟩ (fin _)
/-- a draw, step by step -/
theorem go_take {H : Hp} {σ : L2.St} {tm : TE} {E : XK} {Q : VK} {i : Nat} {b : Addr} {m : Int} (hσ : σ[i]? = some (some (.ref b))) (hB : Bag H b) (hm : Er rI tm σ H m) (h : 0 < m ∧ m < 1000000) (k : ∀ (r : Int) H', C1 b H H' → Bag H' b → 0 ≤ r ∧ r < m → Q (.int r) H') :
    tCall (sp__law_take K) [] E (tCons (tVar i) (tCons tm tNil)) σ H Q := by
  refine ⟨_, hσ, ?_⟩
  refine hm H (Ex.refl H) _ fun v H1 e1 r => ?_
  cases r
  exact ⟨b, m, rfl, hB.ex e1, h.1, h.2, fun r H' c B hr => k r H' ((C1.ex e1).trans c) B hr⟩
end
section
variable {P : Program} {w : World} {K : PySem.W.Frag} {mg : Str → Option Value} {base : Heap}
/-! ### figures_of -/
def sp_figures_of (K : PySem.W.Frag) : Sp := fun vs H Q _ => ∃ p n : Nat, vs = [.int p, .int n] ∧ 2 ≤ p ∧ p < 1000 ∧ (dig p n).length < 1000 ∧ ∀ a H', H a = none → Ex H H' → Lt rI H' a (natI (dig p n)) → Q (.ref a) H'
theorem gl_figures_of {p n : Nat} (h1 : 2 ≤ p) (h2 : p < 1000) (h3 : (dig p n).length < 1000) : Gnl (sp_figures_of K) (Ac rI (p : Int) (Ac rI (n : Int) A0)) rI (natI (dig p n)) := by
  intro vs H1 hp Q E k
  obtain ⟨v0, w0, rfl, f0, hp⟩ := hp
  cases f0
  obtain ⟨v1, w1, rfl, f1, hp⟩ := hp
  cases f1
  cases hp
  exact ⟨p, n, rfl, h1, h2, h3, fun a H2 n e l => k a H2 n e l⟩
theorem ok_figures_of {f : Addr} {fd : FuncData} (F : Fun K "figures_of" "figures_of" s_figures_of f fd) : FnOk P w K mg base CX0 1 f fd ["p", "place"] (sp_figures_of K) := by
  refine F.ok sc_figures_of (fun vs H Q E h => ?_) (fun cdv A outer s H vs Q E hr h => ?_)
  · obtain ⟨p, n, rfl, _⟩ := h; rfl
  · obtain ⟨p, n, rfl, hp, hp2, hl, q⟩ := h
    refine ⟨_, pss_cons (ps_set (i := 2) sc_figures_of.nd rfl (.inl rfl) (pe_lst pa_nil)) (pss_cons (ps_while PassesOwn.never (pt_cmpR op_gt (pv 1) pe_int (nomark _)) (pss_cons (ps_expr (pe_bm PySem.F.plainAttrs_list PySem.F.slot_list_append PySem.F.type_list_append mt_append (pv 2) (pa_cons (pe_op op_mod (pv 1) (pv 0)) pa_nil))) (pss_one (ps_set (i:=1) sc_figures_of.nd rfl (.inl rfl) (pe_op op_fdiv (pv 1) (pv 0)))))) (pss_one (ps_ret (pv 2)))), ?_⟩
    refine s_asgL (el_lst (R := rI) eas0 (by decide)) fun a H1 n0 e1 l1 => ?_
    refine s_while (fun m σ' H' => ∃ (n' : Nat) (acc : List Nat), m = n' ∧ σ' = [some (.int p), some (.int n'), some (.ref a)] ∧ Ex H H' ∧ Lt rI H' a (natI acc) ∧ acc ++ dig p n' = dig p n) n ⟨n, [], rfl, rfl, e1, l1, rfl⟩ ?_
    rintro m σ' H' ⟨n', acc, rfl, rfl, e', l', hacc⟩
    refine ⟨_, et_t (er_cmp er_iv er_int), fun hb H2 e2 => ?_, fun hb H2 e2 => ?_⟩
    · have hb' := of_decide_eq_true hb
      have hn : m ≠ 0 := by omega
      refine ⟨_, fun σ2 H2 h => h, ?_⟩
      have hlen : (natI acc).length < 1000000 := by
        have := congrArg List.length hacc
        rw [List.length_append] at this
        rw [List.length_map]
        omega
      refine s_app (l'.ex e2) rfl (er_op er_iv er_iv (by omega)) hlen fun H3 c3 l3 => ?_
      refine s_asgI (er_op er_iv er_iv ⟨by omega, by omega⟩) fun H4 e4 => ?_
      refine ⟨m / p, Nat.div_lt_self (by omega) (by omega), m / p, acc ++ [m % p], rfl, ?_, (C1.ofNew (e'.trans e2) n0 c3).trans e4, ?_, ?_⟩
      · simp
      · have := l3.ex e4
        simpa using this
      · rw [← hacc, dig_pos hp hn, List.append_assoc]; rfl
    · have hb' := of_decide_eq_false hb
      have hn : m = 0 := by omega
      subst hn
      rw [dig_0, List.append_nil] at hacc
      subst hacc
      exact s_retL (i := 2) rfl (q a H2 n0 (e'.trans e2) (l'.ex e2))
end
def st_few_choices_1 (many : Int) (taken : Int) : Int → Int → Int := fun s1 x1 => (((s1 * (many - x1)) / (x1 + (1 : Int))))
def m_few_choices (many : Int) (taken : Int) : Int := (List.foldl (st_few_choices_1 many taken) ((1 : Int)) ((rng 0 taken)))
theorem m_few_eq (m t : Nat) : m_few_choices m t = (cho m t : Int) := few_fold m t
def sp_few_choices (K : PySem.W.Frag) : Sp := fun vs H Q _ => ∃ (many : Int) (taken : Int), (vs = [.int many, .int taken]) ∧ (0 ≤ taken ∧ taken < 1000) ∧ (0 ≤ many ∧ many < 1000) ∧ (∀ H', Ex H H' → Q (.int (m_few_choices many taken)) H')
section
variable {P : Program} {w : World} {K : PySem.W.Frag} {mg : Str → Option Value} {base : Heap}
theorem gv_few_choices {many : Int} {taken : Int} (h0 : 0 ≤ taken ∧ taken < 1000) (h1 : 0 ≤ many ∧ many < 1000) : Gv (sp_few_choices K) (Ac rI many (Ac rI taken A0)) rI (m_few_choices many taken) := by
  intro vs H1 hp Q E k
  obtain ⟨v0, w0, rfl, f0, hp⟩ := hp
  cases f0
  obtain ⟨v1, w1, rfl, f1, hp⟩ := hp
  cases f1
  cases hp
  exact ⟨_, _, rfl, h0, h1, fun H2 e => k _ H2 e rfl⟩
theorem ok_few_choices {f : Addr} {fd : FuncData} (F : Fun K "few_choices" "few_choices" s_few_choices f fd) (n_range : mg "range" = none) : FnOk P w K mg base CX0 1 f fd ["many", "taken"] (sp_few_choices K) := by
  refine F.ok sc_few_choices (fun vs H Q E h => ?_) (fun cdv A outer s H vs Q E hr h => ?_)
  · obtain ⟨many, taken, rfl, _⟩ := h; rfl
  · obtain ⟨many, taken, rfl, hpre0, hpre1, q⟩ := h
    refine ⟨_, (pss_cons (ps_set (i := 2) sc_few_choices.nd rfl (Or.inl rfl) pe_int)
 (pss_cons (ps_for PassesOwn.never rfl (pi_range1 (by rfl) n_range (pa_cons (pv 1) pa_nil)) (pg_name (i := 3) sc_few_choices.nd rfl (Or.inl rfl))
 (pss_one (ps_set (i := 2) sc_few_choices.nd rfl (Or.inl rfl) (pe_op op_fdiv (pe_op op_mul (pv 2) (pe_op op_sub (pv 0) (pv 3))) (pe_op op_add (pv 3) pe_int)))))
 (pss_one (ps_ret (pv 2))))), ?_⟩
    refine q_asgI er_int fun H1 e2 => ?_
    refine q_forR1 er_iv (by omega) fun H3 e4 => ?_
    refine fq_R (lo := 0) (hi := taken) (by rw [Int.sub_zero]) (fun i σ' H' => ∃ (s1 : Int) (j6 : Option V), s1 = List.foldl (st_few_choices_1 many taken) ((1 : Int)) (List.take i ((rng 0 taken))) ∧ σ' = [some (.int many), some (.int taken), some (.int s1), j6] ∧ Ex H H') ?_ ?_ ?_
    · exact ⟨((1 : Int)), _, rfl, rfl, e2.trans e4⟩
    · rintro i x1 _ H7 hi hx1 ⟨s1, j6, hs1, rfl, F0⟩
      have hr1 := rng_at hx1
      refine s_asgI (er_op (er_op er_iv (er_op0 er_iv er_iv) (cmul_r (by omega))) (er_op0 er_iv er_int) ⟨by omega, by omega⟩) fun H8 e9 => ?_
      exact ⟨st_few_choices_1 many taken s1 x1, _, fold_snoc hs1 hx1, rfl, F0.trans e9⟩
    · rintro _ H10 ⟨s1, j6, hs1, rfl, F0⟩
      rw [take_all] at hs1; subst hs1
      refine s_ret (R := rI) er_iv fun v H' e r => ?_
      cases r
      exact q _ (F0.trans e)
/-! ### choice -/
def sp_choice (K : PySem.W.Frag) (C : Addr) : Sp := fun vs H Q E => ∃ (x : V) (n k : Nat), vs = [x, .int n, .int k] ∧ Th K H x ∧ n < 2 ^ 900 ∧ k < 2 ^ 900 ∧
  (∀ p : Nat, P3 p → x = .int p → ∀ H', Ex H H' → Q (.int ((cho n k % p : Nat) : Int)) H') ∧ (isPr x = false → ∀ H', Ex H H' → E (.ref C) none H')
def st_choice (p : Int) (F : List Int) : Int → Int × Int → Int := fun s x => s * m_few_choices (gt0 0 F x.1) x.2 % p
theorem choice_eq {p n k : Nat} (hp : P3 p) (hl : (dig p k).length ≤ (dig p n).length) : List.foldl (st_choice p (natI (dig p n))) 1 (enm (natI (dig p k))) = ((cho n k % p : Nat) : Int) := by
  have h2 := hp.two
  rw [lucas_all hp k n k (Nat.le_refl _)]
  have e := fold_prodc h2 (dig p n) (dig p k) 0 1 (by omega) (Nat.mod_eq_of_lt (by omega))
  rw [List.drop_zero, Nat.one_mul] at e
  rw [← e]
  show List.foldl _ _ (((natI (dig p k)).zipIdx 0).map fun q => ((q.2 : Int), q.1)) = _
  apply foldl_congr
  intro s x hx
  obtain ⟨i, hi⟩ := List.getElem?_of_mem hx
  have hx2 := enm_at (xs := natI (dig p k)) (i := i) hi
  obtain ⟨q1, q2⟩ := hx2
  rw [List.getElem?_map] at q2
  have hk : i < (dig p k).length := by
    by_cases z : i < (dig p k).length
    · exact z
    · rw [List.getElem?_eq_none (by omega)] at q2
      cases q2
  rw [List.getElem?_eq_getElem hk] at q2
  have q3 : Int.ofNat (dig p k)[i] = x.2 := Option.some.inj q2
  unfold st_choice
  rw [q1, natI_get (List.getElem?_eq_getElem (show i < (dig p n).length by omega)), ← q3]
  show _ * m_few_choices _ ((((dig p k)[i] : Nat)) : Int) % _ = _
  rw [m_few_eq]
  simp
theorem ok_choice {f : Addr} {fd : FuncData} (F : Fun K "choice" "choice" s_choice f fd) {C : Addr} (D_look_prime : Df P w K mg base (L2.CX P w) 3 "look_prime" ["p"] (sp_look_prime K C)) (D_figures_of : Df P w K mg base CX0 1 "figures_of" ["p", "place"] (sp_figures_of K))
    (D_few_choices : Df P w K mg base CX0 1 "few_choices" ["many", "taken"] (sp_few_choices K)) (n_len : mg "len" = none) (n_enumerate : mg "enumerate" = none) : FnOk P w K mg base (L2.CX P w) 4 f fd ["p", "n", "k"] (sp_choice K C) := by
  refine F.okX sc_choice (fun vs H Q E h => ?_) (fun cdv A outer s H vs Q E hr h => ?_)
  · obtain ⟨x, n, k, rfl, _⟩ := h; rfl
  · obtain ⟨x, n, k, rfl, th, hn, hk, q1, q2⟩ := h
    refine ⟨_, (pss_cons (ps_expr (pe_call D_look_prime.ok (hr.mono (by decide)) (by rfl) D_look_prime.g D_look_prime.kp D_look_prime.b .nil (passes_call (takes_of rfl rfl rfl rfl) (fun _ _ _ _ h => h)) (pa_cons (pv 0) pa_nil)))
 (PSs.nox (pss_cons (ps_par (i := 3) (j := 4) rfl sc_choice.nd rfl rfl (by decide) rfl rfl (pa_cons (pe_call D_figures_of.ok (hr.mono (by decide)) (by rfl) D_figures_of.g D_figures_of.kp D_figures_of.b .nil pass0 (pa_cons (pv 0) (pa_cons (pv 1) pa_nil))) (pa_cons (pe_call D_figures_of.ok (hr.mono (by decide)) (by rfl) D_figures_of.g D_figures_of.kp D_figures_of.b .nil pass0 (pa_cons (pv 0) (pa_cons (pv 2) pa_nil))) pa_nil)) (by rfl))
 (pss_cons (ps_if (pt_cmpR op_gt (pe_callB call_len_seq (by rfl) n_len (by decide +kernel) (pa_cons (pv 4) pa_nil)) (pe_callB call_len_seq (by rfl) n_len (by decide +kernel) (pa_cons (pv 3) pa_nil)) (nomark _)) (pss_one (ps_ret pe_int)) pss_nil)
 (pss_cons (ps_set (i := 5) sc_choice.nd rfl (Or.inl rfl) pe_int)
 (pss_cons (ps_for PassesOwn.never rfl (pi_enum (by rfl) n_enumerate (pa_cons (pv 4) pa_nil)) (pg_tup rfl (pgs_cons (pg_name (i := 6) sc_choice.nd rfl (Or.inl rfl)) (pgs_cons (pg_name (i := 7) sc_choice.nd rfl (Or.inl rfl)) pgs_nil)))
 (pss_one (ps_set (i := 5) sc_choice.nd rfl (Or.inl rfl) (pe_op op_mod (pe_op op_mul (pv 5) (pe_call D_few_choices.ok (hr.mono (by decide)) (by rfl) D_few_choices.g D_few_choices.kp D_few_choices.b .nil pass0 (pa_cons (pe_ix ix_list (pv 3) (pv 6) (fun _ _ => rfl)) (pa_cons (pv 7) pa_nil)))) (pv 0)))))
 (pss_one (ps_ret (pv 5))))))))), ?_⟩
    refine s_look (K := K) rfl th (fun p hx hp H1 e1 => ?_) (fun h H1 e1 => q2 h H1 e1)
    subst hx
    have h2 := hp.le
    have ln := dig_len h2.1 900 n hn
    have lk := dig_len h2.1 900 k hk
    refine go_L (el_call (eac er_iv (eac er_iv ea0)) (gl_figures_of h2.1 (by omega) (by omega))) fun p1 H2 n1 e2 l1 => ?_
    refine go_L (el_call (eac er_iv (eac er_iv ea0)) (gl_figures_of h2.1 (by omega) (by omega))) fun p2 H3 n2 e3 l2 => ?_
    refine ⟨_, _, rfl, ?_⟩
    have F0 := (e1.trans e2).trans e3
    replace l1 := l1.ex e3
    refine q_when (et_t (er_cmp (er_lenL (er_var rfl l2.rl)) (er_lenL (er_var rfl l1.rl)))) (fun hb H4 e4 => ?_) (fun hb H4 e4 => ?_)
    · have hb' := of_decide_eq_true hb
      rw [List.length_map, List.length_map] at hb'
      have hkn : n < k := by
        by_cases z : k ≤ n
        · have := dig_mono h2.1 k k n (Nat.le_refl _) z
          omega
        · omega
      refine s_ret (R := rI) er_int fun v H5 e5 r => ?_
      cases r
      have z := q1 p hp rfl H5 ((F0.trans e4).trans e5)
      rw [cho_above n k hkn, Nat.zero_mod] at z
      exact z
    · have hb' := of_decide_eq_false hb
      rw [List.length_map, List.length_map] at hb'
      refine q_asgI er_int fun H5 e5 => ?_
      replace l1 := l1.ex (e4.trans e5)
      replace l2 := l2.ex (e4.trans e5)
      replace F0 := F0.trans (e4.trans e5)
      refine q_forEL (er_var rfl l2.rl) fun v H6 e6 r => ?_
      replace l1 := l1.ex e6
      refine fq_ELI r (fun i σ' H' => ∃ (s : Int) (j1 j2 : Option V), s = List.foldl (st_choice p (natI (dig p n))) 1 (List.take i (enm (natI (dig p k)))) ∧ σ' = [some (.int p), some (.int n), some (.int k), some (.ref p1), some (.ref p2), some (.int s), j1, j2] ∧ Ex H6 H') ?_ ?_ ?_ ?_
      · exact ⟨1, _, _, rfl, rfl, Ex.refl _⟩
      · rintro i σ' H' hi ⟨s, j1, j2, hs, hσ, e7⟩; exact Me.ex e7 r
      · rintro i x1 _ H7 H8 hi hx1 ⟨s, j1, j2, hs, rfl, e7⟩ e8
        obtain ⟨hx2, hx3⟩ := enm_at hx1
        have hil : i < (dig p k).length := by rw [enm_len, List.length_map] at hi; exact hi
        rw [List.getElem?_map, List.getElem?_eq_getElem hil] at hx3
        have hx4 : Int.ofNat (dig p k)[i] = x1.2 := Option.some.inj hx3
        have hd := dig_lt h2.1 k k (Nat.le_refl _) _ (List.getElem_mem hil)
        have hin : i < (dig p n).length := by omega
        have hg := natI_get (List.getElem?_eq_getElem hin)
        have hd2 := dig_lt h2.1 n n (Nat.le_refl _) _ (List.getElem_mem hin)
        have b1 : 0 ≤ x1.2 ∧ x1.2 < 1000 := by rw [← hx4]; constructor <;> simp <;> omega
        have b2 : 0 ≤ gt0 0 (natI (dig p n)) x1.1 ∧ gt0 0 (natI (dig p n)) x1.1 < 1000 := by rw [hx2, hg]; omega
        have b3 : -(2 ^ 64) < m_few_choices (gt0 0 (natI (dig p n)) x1.1) x1.2 ∧ m_few_choices (gt0 0 (natI (dig p n)) x1.1) x1.2 < 2 ^ 64 := by
          rw [hx2, hg, ← hx4]
          show -(2 ^ 64) < m_few_choices _ ((((dig p k)[i] : Nat)) : Int) ∧ m_few_choices _ ((((dig p k)[i] : Nat)) : Int) < 2 ^ 64
          rw [m_few_eq]
          have := cho_small (dig p n)[i] (dig p k)[i] (by omega)
          omega
        refine s_asgI (er_op (er_op er_iv (er_call (eac (er_ixL0 (0 : Int) (er_var rfl (l1.ex (e7.trans e8)).rl) er_iv (by rw [hx2]; omega) (by rw [hx2, List.length_map]; omega)) (eac er_iv ea0)) (gv_few_choices b1 b2)) (cmul_r b3)) er_iv (by omega)) fun H9 e9 => ?_
        exact ⟨_, _, _, fold_snoc (f := st_choice p (natI (dig p n))) hs hx1, rfl, (e7.trans e8).trans e9⟩
      · rintro _ H7 ⟨s, j1, j2, hs, rfl, e7⟩
        rw [take_all, choice_eq hp (by omega)] at hs
        subst hs
        refine s_ret (R := rI) er_iv fun v H8 e8 r => ?_
        cases r
        exact q1 p hp rfl _ (((F0.trans e6).trans e7).trans e8)
end
section
variable {P : Program} {w : World} {K : PySem.W.Frag} {mg : Str → Option Value} {base : Heap}
/-! ### places drawn -/
def sp__law_place (K : PySem.W.Frag) : Sp := fun vs H Q _ => ∃ (b : Addr) (d : Nat), vs = [.ref b, .int d] ∧ Bag H b ∧ d ≤ 60 ∧ ∀ (r : Nat) H', C1 b H H' → Bag H' b → r < 10 ^ d → Q (.int r) H'
theorem ok__law_place {f : Addr} {fd : FuncData} (F : Fun K "_law_place" "_law_place" s__law_place f fd) (D__law_take : Df P w K mg base CX0 1 "_law_take" ["_law_bag_here", "_law_many"] (sp__law_take K)) (n_range : mg "range" = none) : FnOk P w K mg base CX0 2 f fd ["_law_bag_here", "_law_figures"] (sp__law_place K) := by
  refine F.ok sc__law_place (fun vs H Q E h => ?_) (fun cdv A outer s H vs Q E hr h => ?_)
  · obtain ⟨b, d, rfl, _⟩ := h; rfl
  · obtain ⟨b, d, rfl, B, hd, q⟩ := h
    refine ⟨_, (pss_cons (ps_set (i := 2) sc__law_place.nd rfl (Or.inl rfl) pe_int)
 (pss_cons (ps_for PassesOwn.never rfl (pi_range1 (by rfl) n_range (pa_cons (pv 1) pa_nil)) (pg_name (i := 3) sc__law_place.nd rfl (Or.inl rfl))
 (pss_one (ps_set (i := 2) sc__law_place.nd rfl (Or.inl rfl) (pe_op op_add (pe_op op_mul pe_int (pv 2)) (pe_call D__law_take.ok (hr.mono (by omega)) (by rfl) D__law_take.g D__law_take.kp D__law_take.b .nil pass0 (pa_cons (pv 0) (pa_cons pe_int pa_nil)))))))
 (pss_one (ps_ret (pv 2))))), ?_⟩
    refine q_asgI er_int fun H1 e1 => ?_
    refine q_forR1 er_iv (by omega) fun H2 e2 => ?_
    replace B := B.ex (e1.trans e2)
    refine fq_R (lo := 0) (hi := (d : Int)) (by rw [Int.sub_zero]) (fun i σ' H' => ∃ (x : Nat) (j : Option V), σ' = [some (.ref b), some (.int d), some (.int x), j] ∧ C1 b H H' ∧ Bag H' b ∧ x < 10 ^ i) ?_ ?_ ?_
    · exact ⟨0, _, rfl, C1.ex (e1.trans e2), B, by decide⟩
    · rintro i x1 _ H3 hi hx1 ⟨x, j, rfl, F0, B, hx⟩
      refine s_asg0 ?_
      refine ⟨_, rfl, 10, x, rfl, rfl, cmul_l (by decide), ?_⟩
      refine go_take (K := K) (i := 0) rfl B er_int (by decide) fun r H4 c4 B' hr4 => ?_
      refine ⟨_, _, rfl, rfl, ?_⟩
      refine ⟨10 * x + r.toNat, some (.int x1), ?_, F0.trans c4, B', ?_⟩
      · show [some (V.ref b), some (V.int d), some (V.int (10 * (x : Int) + r)), some (V.int x1)] = _
        rw [show (10 * (x : Int) + r) = ((10 * x + r.toNat : Nat) : Int) by omega]
      · rw [Nat.pow_succ]; omega
    · rintro _ H3 ⟨x, j, rfl, F0, B, hx⟩
      refine s_ret (R := rI) er_iv fun v H4 e4 r => ?_
      cases r
      rw [rng_len, Int.sub_zero] at hx
      exact q x H4 (F0.trans (C1.ex e4)) (B.ex e4) hx
def sp__law_within (K : PySem.W.Frag) : Sp := fun vs H Q _ => ∃ (b : Addr) (p n : Nat), vs = [.ref b, .int p, .int n] ∧ Bag H b ∧ P3 p ∧ n < 10 ^ 60 ∧ ∀ (r : Nat) H', C1 b H H' → Bag H' b → r ≤ n * p → Q (.int r) H'
theorem ok__law_within {f : Addr} {fd : FuncData} (F : Fun K "_law_within" "_law_within" s__law_within f fd) (D__law_take : Df P w K mg base CX0 1 "_law_take" ["_law_bag_here", "_law_many"] (sp__law_take K)) : FnOk P w K mg base CX0 2 f fd ["_law_bag_here", "_law_p", "_law_n"] (sp__law_within K) := by
  refine F.ok sc__law_within (fun vs H Q E h => ?_) (fun cdv A outer s H vs Q E hr h => ?_)
  · obtain ⟨b, p, n, rfl, _⟩ := h; rfl
  · obtain ⟨b, p, n, rfl, B, h3, hn, q⟩ := h
    have hp := h3.le
    refine ⟨_, (pss_cons (ps_asg (pe_tup (pa_cons pe_int (pa_cons pe_int pa_nil))) (pg_tupK K 2 rfl (pgs_cons (pg_name (i := 4) sc__law_within.nd rfl (Or.inl rfl)) (pgs_cons (pg_name (i := 3) sc__law_within.nd rfl (Or.inl rfl)) pgs_nil))))
 (pss_cons (ps_while PassesOwn.never (pt_cmpR op_le (pv 3) (pv 2) (nomark _)) (pss_cons (ps_set (i := 4) sc__law_within.nd rfl (Or.inl rfl) (pe_op op_add (pv 4) (pe_op op_mul (pv 3) (pe_call D__law_take.ok (hr.mono (by omega)) (by rfl) D__law_take.g D__law_take.kp D__law_take.b .nil pass0 (pa_cons (pv 0) (pa_cons (pe_op op_add (pe_op op_mod (pe_op op_fdivW (pv 2) (pv 3)) (pv 1)) pe_int) pa_nil))))))
 (pss_one (ps_set (i := 3) sc__law_within.nd rfl (Or.inl rfl) (pe_op op_mul (pv 3) (pv 1))))))
 (pss_one (ps_ret (pv 4))))), ?_⟩
    refine ⟨by decide, fun t nt => ⟨t, [.int 0, .int 1], rfl, SqT.of upd_same, rfl, _, _, rfl, _, _, rfl, rfl, ?_⟩⟩
    replace B := B.ex (Ex.new (o := .tup [.int 0, .int 1]) nt)
    have F0 : C1 b H (upd H t (.tup [.int 0, .int 1])) := C1.ex (Ex.new nt)
    refine q_while (fun m σ' H' => ∃ (far x : Nat), m = n + 1 - far ∧ σ' = [some (.ref b), some (.int p), some (.int n), some (.int far), some (.int x)] ∧ C1 b H H' ∧ Bag H' b ∧ 0 < far ∧ far ≤ n * p + 1 ∧ x < far) (n + 1 - 1) ⟨1, 0, rfl, rfl, F0, B, by decide, by omega, by decide⟩ ?_
    rintro m σ' H' ⟨far, x, rfl, rfl, F0, B, hf, hf2, hx⟩
    refine ⟨_, et_t (er_cmp er_iv er_iv), fun hb H2 e2 => ?_, fun hb H2 e2 => ?_⟩
    · have hb' : (far : Int) ≤ n := of_decide_eq_true hb
      have hb2 : far ≤ n := by omega
      refine ⟨_, fun σ2 H2 h => h, ?_⟩
      replace B := B.ex e2
      replace F0 := F0.trans (C1.ex e2)
      refine q_asg0 ?_
      refine ⟨_, rfl, _, rfl, ?_⟩
      have hm : (0 : Int) ≤ (n : Int) / (far : Int) % (p : Int) ∧ (n : Int) / (far : Int) % (p : Int) < (p : Int) := ⟨Int.emod_nonneg _ (by omega), Int.emod_lt_of_pos _ (by omega)⟩
      refine go_take (K := K) (i := 0) rfl B (er_op0 (er_op (er_op (C := CDivW) er_iv er_iv (wide_div (b := 300) (by omega) ?_ (by decide) (by decide))) er_iv (show (0 : Int) < (p : Int) by omega)) er_int) (by omega) fun r H4 c4 B' hr4 => ?_
      · have e1 : (10 : Nat) ^ 60 < 2 ^ 200 := by decide
        have e2 : (2 : Nat) ^ 200 ≤ 2 ^ 300 := Nat.pow_le_pow_right (by decide) (by decide)
        show (far : Int).natAbs < 2 ^ 300
        omega
      · refine ⟨far, r, rfl, rfl, cmul_r (by omega), x, (far : Int) * r, rfl, rfl, ?_⟩
        refine s_asgI (er_op (C := CMul) er_iv er_iv (cmul_r (by omega))) fun H5 e5 => ?_
        have hr5 : r.toNat ≤ p - 1 := by omega
        have er : (r.toNat : Int) = r := by omega
        have hmul : far * r.toNat ≤ far * (p - 1) := Nat.mul_le_mul_left _ hr5
        have hmul2 : far * (p - 1) + far = far * p := by
          rw [← Nat.mul_succ]
          congr 1
          omega
        have hfp : far * 2 ≤ far * p := Nat.mul_le_mul_left _ hp.1
        have hfn : far * p ≤ n * p := Nat.mul_le_mul_right _ hb2
        refine ⟨n + 1 - far * p, by omega, far * p, x + far * r.toNat, rfl, ?_, (F0.trans c4).trans (C1.ex e5), B'.ex e5, by omega, by omega, by omega⟩
        show [some (V.ref b), some (V.int p), some (V.int n), some (V.int ((far : Int) * p)), some (V.int ((x : Int) + (far : Int) * r))] = _
        rw [show ((x : Int) + (far : Int) * r) = ((x + far * r.toNat : Nat) : Int) by rw [Int.natCast_add, Int.natCast_mul, er], show ((far : Int) * (p : Int)) = ((far * p : Nat) : Int) by rw [Int.natCast_mul]]
    · refine s_ret (R := rI) er_iv fun v H4 e4 r => ?_
      cases r
      exact q x H4 (F0.trans (C1.ex (e2.trans e4))) (B.ex (e2.trans e4)) (by omega)
/-! ### few ways, by themselves -/
def sp__law_few (d : Nat) : Sp := fun vs H Q _ => ∃ n k : Nat, vs = [.int n, .int k] ∧ n ≤ d ∧ ∀ H', Ex H H' → Q (.int (cho n k : Int)) H'
theorem gv_few {d n k : Nat} (h : n ≤ d) : Gv (sp__law_few d) (Ac rI (n : Int) (Ac rI (k : Int) A0)) rI (cho n k : Int) := by
  intro vs H1 hp Q E q
  obtain ⟨v0, w0, rfl, f0, hp⟩ := hp
  cases f0
  obtain ⟨v1, w1, rfl, f1, hp⟩ := hp
  cases f1
  cases hp
  exact ⟨n, k, rfl, h, fun H2 e => q _ H2 e rfl⟩
theorem ok__law_few {f : Addr} {fd : FuncData} (F : Fun K "_law_few" "_law_few" s__law_few f fd) (g : mg "_law_few" = some (.ref f)) (b : Binds K fd ["_law_n", "_law_k"] []) : ∀ d : Nat, FnOk P w K mg base CX0 (d + 2) f fd ["_law_n", "_law_k"] (sp__law_few d) := by
  intro d
  induction d with
  | zero =>
    refine F.ok sc__law_few (fun vs H Q E h => ?_) (fun cdv A outer s H vs Q E hr h => ?_)
    · obtain ⟨n, k, rfl, _⟩ := h; rfl
    · obtain ⟨n, k, rfl, hd, q⟩ := h
      refine ⟨_, (pss_cons (ps_if (pt_cmpR op_eq (pv 1) pe_int (nomark _)) (pss_one (ps_ret pe_int)) pss_nil) (pss_cons (ps_if (pt_cmpR op_eq (pv 0) pe_int (nomark _)) (pss_one (ps_ret pe_int)) pss_nil) pss_never)), ?_⟩
      refine q_when (et_t (er_eqI er_iv er_int)) (fun hb H1 e1 => ?_) (fun hb H1 e1 => ?_)
      · have hb' : (k : Int) = 0 := of_decide_eq_true hb
        have : k = 0 := by omega
        subst this
        refine s_ret (R := rI) er_int fun v H4 e4 r => ?_
        cases r
        have z := q H4 (e1.trans e4)
        rw [cho_0] at z
        exact z
      · have hb' : ¬ (k : Int) = 0 := of_decide_eq_false hb
        have : n = 0 := by omega
        subst this
        refine q_when (et_t (er_eqI er_iv er_int)) (fun hb H2 e2 => ?_) (fun hb H2 e2 => ?_)
        · refine s_ret (R := rI) er_int fun v H4 e4 r => ?_
          cases r
          have z := q H4 ((e1.trans e2).trans e4)
          rw [cho_above 0 k (by omega)] at z
          exact z
        · exact absurd rfl (of_decide_eq_false hb)
  | succ d ih =>
    refine F.ok sc__law_few (fun vs H Q E h => ?_) (fun cdv A outer s H vs Q E hr h => ?_)
    · obtain ⟨n, k, rfl, _⟩ := h; rfl
    · obtain ⟨n, k, rfl, hd, q⟩ := h
      have D__law_few : Df P w K mg base CX0 (d + 2) "_law_few" ["_law_n", "_law_k"] (sp__law_few d) := ⟨f, fd, ih, g, F.kp, b⟩
      refine ⟨_, (pss_cons (ps_if (pt_cmpR op_eq (pv 1) pe_int (nomark _)) (pss_one (ps_ret pe_int)) pss_nil)
 (pss_cons (ps_if (pt_cmpR op_eq (pv 0) pe_int (nomark _)) (pss_one (ps_ret pe_int)) pss_nil)
 (pss_one (ps_ret (pe_op op_add (pe_call D__law_few.ok (hr.mono (by omega)) (by rfl) D__law_few.g D__law_few.kp D__law_few.b .nil pass0 (pa_cons (pe_op op_sub (pv 0) pe_int) (pa_cons (pv 1) pa_nil))) (pe_call D__law_few.ok (hr.mono (by omega)) (by rfl) D__law_few.g D__law_few.kp D__law_few.b .nil pass0 (pa_cons (pe_op op_sub (pv 0) pe_int) (pa_cons (pe_op op_sub (pv 1) pe_int) pa_nil)))))))), ?_⟩
      refine q_when (et_t (er_eqI er_iv er_int)) (fun hb H1 e1 => ?_) (fun hb H1 e1 => ?_)
      · have hb' : (k : Int) = 0 := of_decide_eq_true hb
        have : k = 0 := by omega
        subst this
        refine s_ret (R := rI) er_int fun v H4 e4 r => ?_
        cases r
        have z := q H4 (e1.trans e4)
        rw [cho_0] at z
        exact z
      · have hb' : ¬ (k : Int) = 0 := of_decide_eq_false hb
        obtain ⟨k', rfl⟩ : ∃ k', k = k' + 1 := ⟨k - 1, by omega⟩
        refine q_when (et_t (er_eqI er_iv er_int)) (fun hb H2 e2 => ?_) (fun hb H2 e2 => ?_)
        · have hb' : (n : Int) = 0 := of_decide_eq_true hb
          have : n = 0 := by omega
          subst this
          refine s_ret (R := rI) er_int fun v H4 e4 r => ?_
          cases r
          exact q H4 ((e1.trans e2).trans e4)
        · have hb' : ¬ (n : Int) = 0 := of_decide_eq_false hb
          obtain ⟨n', rfl⟩ : ∃ n', n = n' + 1 := ⟨n - 1, by omega⟩
          have en : ((n' + 1 : Nat) : Int) - 1 = ((n' : Nat) : Int) := by omega
          have ek : ((k' + 1 : Nat) : Int) - 1 = ((k' : Nat) : Int) := by omega
          refine s_ret (R := rI) (er_op0 (er_call (eac (er_is (er_op0 er_iv er_int) en) (eac er_iv ea0)) (gv_few (by omega))) (er_call (eac (er_is (er_op0 er_iv er_int) en) (eac (er_is (er_op0 er_iv er_int) ek) ea0)) (gv_few (by omega)))) fun v H4 e4 r => ?_
          cases r
          have z := q H4 ((e1.trans e2).trans e4)
          rw [cho_ss, Int.natCast_add, Int.add_comm] at z
          exact z
end

section
variable {P : Program} {w : World} {K : PySem.W.Frag} {mg : Str → Option Value} {base : Heap}
theorem gv_choice {C : Addr} {p n k : Nat} (h : P3 p) (hn : n < 2 ^ 900) (hk : k < 2 ^ 900) : Gv (sp_choice K C) (Ac rI (p : Int) (Ac rI (n : Int) (Ac rI (k : Int) A0))) rI ((cho n k % p : Nat) : Int) := by
  intro vs H1 hp Q E q
  obtain ⟨v0, w0, rfl, f0, hp⟩ := hp
  cases f0
  obtain ⟨v1, w1, rfl, f1, hp⟩ := hp
  cases f1
  obtain ⟨v2, w2, rfl, f2, hp⟩ := hp
  cases f2
  cases hp
  refine ⟨.int p, n, k, rfl, .int _, hn, hk, fun p' h3 e H2 e2 => ?_, fun z => ?_⟩
  · have : (p : Int) = (p' : Int) := V.int.inj e
    have : p' = p := by omega
    subst this
    exact q _ H2 e2 rfl
  · rw [h.pr.is] at z
    cases z
theorem gv_choiceI {C : Addr} {p n k : Nat} {pi ni ki : Int} (e1 : pi = p) (e2 : ni = n) (e3 : ki = k) (h : P3 p) (hn : n < 2 ^ 900) (hk : k < 2 ^ 900) : Gv (sp_choice K C) (Ac rI pi (Ac rI ni (Ac rI ki A0))) rI ((cho n k % p : Nat) : Int) := by
  subst e1 e2 e3
  exact gv_choice h hn hk
/-! ### the law's look at one choice -/
theorem good2 {p n k : Nat} (hp : 2 ≤ p) (hn : 0 < n) (hk : 0 < k) : ((cho n k % p : Nat) : Int) = (((cho (n - 1) k % p : Nat) : Int) + ((cho (n - 1) (k - 1) % p : Nat) : Int)) % (p : Int) := by
  obtain ⟨n, rfl⟩ : ∃ m, n = m + 1 := ⟨n - 1, by omega⟩
  obtain ⟨k, rfl⟩ : ∃ m, k = m + 1 := ⟨k - 1, by omega⟩
  rw [cho_ss, Nat.add_sub_cancel, Nat.add_sub_cancel, Nat.add_comm (cho n k), Nat.add_mod]
  simp
theorem good3 {n k : Nat} (h : k ≤ n) : cho n (n - k) = cho n k := by
  have e := cho_sym (n - k) k
  rw [Nat.sub_add_cancel h] at e
  exact e
theorem good5 {p n k a b : Nat} (h : P3 p) (ha : a < p) (hb : b < p) : ((cho (p * n + a) (p * k + b) % p : Nat) : Int) = ((cho n k % p : Nat) : Int) * (cho a b : Int) % (p : Int) := by
  rw [lucas h a b ha hb]
  have : ((cho n k % p : Nat) : Int) * (cho a b : Int) % (p : Int) = ((cho n k % p * cho a b % p : Nat) : Int) := by
    rw [← Int.natCast_mul, ← Int.natCast_emod]
  rw [this, Nat.mod_mul_mod]
def sp__law_good (K : PySem.W.Frag) : Sp := fun vs H Q _ => ∃ p n k a b : Nat, vs = [.int p, .int n, .int k, .int a, .int b] ∧ P3 p ∧ n < 2 ^ 300 ∧ k < 2 ^ 300 ∧ a < p ∧ b < p ∧ ∀ H', Ex H H' → Q (.bl true) H'
theorem p300 {n : Nat} (h : n < 2 ^ 300) : n < 2 ^ 900 := Nat.lt_of_lt_of_le h (Nat.pow_le_pow_right (by decide) (by decide))
theorem p300' {p n a : Nat} (h : n < 2 ^ 300) (hp : p ≤ 5) (ha : a < p) : p * n + a < 2 ^ 900 := by
  have h1 : p * n ≤ 5 * n := Nat.mul_le_mul_right _ hp
  have h2 : (2 : Nat) ^ 303 ≤ 2 ^ 900 := Nat.pow_le_pow_right (by decide) (by decide)
  have h3 : (2 : Nat) ^ 303 = 8 * 2 ^ 300 := by rw [show 303 = 300 + 3 by rfl, Nat.pow_add, Nat.mul_comm]
  have h4 : (1 : Nat) ≤ 2 ^ 300 := Nat.one_le_two_pow
  generalize (2 : Nat) ^ 300 = x at *
  omega
theorem ok__law_good {f : Addr} {fd : FuncData} (F : Fun K "_law_good" "_law_good" s__law_good f fd) {C : Addr} (D_choice : Df P w K mg base (L2.CX P w) 4 "choice" ["p", "n", "k"] (sp_choice K C)) (D__law_few : Df P w K mg base CX0 7 "_law_few" ["_law_n", "_law_k"] (sp__law_few 5))
    (n_isinstance : mg "isinstance" = none) (n_int : mg "int" = none) (n_bool : mg "bool" = none) : FnOk P w K mg base CX0 8 f fd ["_law_p", "_law_n", "_law_k", "_law_a", "_law_b"] (sp__law_good K) := by
  refine F.ok sc__law_good (fun vs H Q E h => ?_) (fun cdv A outer s H vs Q E hr h => ?_)
  · obtain ⟨p, n, k, a, b, rfl, _⟩ := h; rfl
  · obtain ⟨p, n, k, a, b, rfl, h3, hn, hk, ha, hb, q⟩ := h
    have hp := h3.le
    have n9 := p300 hn
    have k9 := p300 hk
    refine ⟨_, (pss_cons (ps_set (i := 5) sc__law_good.nd rfl (Or.inl rfl) (pe_call D_choice.ok (hr.mono (by omega)) (by rfl) D_choice.g D_choice.kp D_choice.b .nil passL (pa_cons (pv 0) (pa_cons (pv 1) (pa_cons (pv 2) pa_nil)))))
 (pss_cons (ps_if (PW.pt (pw_or (pt_not (pt_val (pe_callB (call_isiK' K) (by rfl) n_isinstance (by decide +kernel) (pa_cons (pv 5) (pa_cons (pe_bltn (v := .ty "int") (by rfl) n_int (by decide +kernel) rfl) pa_nil))))) (pw_or (pt_val (pe_callB (call_isiK' K) (by rfl) n_isinstance (by decide +kernel) (pa_cons (pv 5) (pa_cons (pe_bltn (v := .ty "bool") (by rfl) n_bool (by decide +kernel) rfl) pa_nil)))) (pw_or1 (pt_not (pt_chain op_le op_lt pe_int (pv 5) (pv 0))))))) (pss_one (ps_ret pe_bl)) pss_nil)
 (pss_cons (ps_if (PW.pt (pw_and (pt_cmpR op_gt (pv 1) pe_int (nomark _)) (pw_and (pt_cmpR op_gt (pv 2) pe_int (nomark _)) (pw_and1 (pt_cmpR op_ne (pv 5) (pe_op op_mod (pe_op op_add (pe_call D_choice.ok (hr.mono (by omega)) (by rfl) D_choice.g D_choice.kp D_choice.b .nil passL (pa_cons (pv 0) (pa_cons (pe_op op_sub (pv 1) pe_int) (pa_cons (pv 2) pa_nil)))) (pe_call D_choice.ok (hr.mono (by omega)) (by rfl) D_choice.g D_choice.kp D_choice.b .nil passL (pa_cons (pv 0) (pa_cons (pe_op op_sub (pv 1) pe_int) (pa_cons (pe_op op_sub (pv 2) pe_int) pa_nil))))) (pv 0)) (nomark _)))))) (pss_one (ps_ret pe_bl)) pss_nil)
 (pss_cons (ps_if (PW.pt (pw_or (PW.pt (pw_and (pt_cmpR op_le (pv 2) (pv 1) (nomark _)) (pw_and1 (pt_cmpR op_ne (pe_call D_choice.ok (hr.mono (by omega)) (by rfl) D_choice.g D_choice.kp D_choice.b .nil passL (pa_cons (pv 0) (pa_cons (pv 1) (pa_cons (pe_op op_sub (pv 1) (pv 2)) pa_nil)))) (pv 5) (nomark _))))) (pw_or1 (PW.pt (pw_and (pt_cmpR op_gt (pv 2) (pv 1) (nomark _)) (pw_and1 (pt_cmpR op_ne (pv 5) pe_int (nomark _)))))))) (pss_one (ps_ret pe_bl)) pss_nil)
 (pss_cons (ps_if (PW.pt (pw_or (pt_cmpR op_ne (pe_call D_choice.ok (hr.mono (by omega)) (by rfl) D_choice.g D_choice.kp D_choice.b .nil passL (pa_cons (pv 0) (pa_cons (pv 1) (pa_cons pe_int pa_nil)))) pe_int (nomark _)) (pw_or (pt_cmpR op_ne (pe_call D_choice.ok (hr.mono (by omega)) (by rfl) D_choice.g D_choice.kp D_choice.b .nil passL (pa_cons (pv 0) (pa_cons (pv 1) (pa_cons (pv 1) pa_nil)))) pe_int (nomark _)) (pw_or1 (pt_cmpR op_ne (pe_call D_choice.ok (hr.mono (by omega)) (by rfl) D_choice.g D_choice.kp D_choice.b .nil passL (pa_cons (pv 0) (pa_cons (pv 1) (pa_cons pe_int pa_nil)))) (pe_op op_mod (pv 1) (pv 0)) (nomark _)))))) (pss_one (ps_ret pe_bl)) pss_nil)
 (pss_one (ps_ret (pe_cmpR op_eq (pe_call D_choice.ok (hr.mono (by omega)) (by rfl) D_choice.g D_choice.kp D_choice.b .nil passL (pa_cons (pv 0) (pa_cons (pe_op op_add (pe_op op_mul (pv 0) (pv 1)) (pv 3)) (pa_cons (pe_op op_add (pe_op op_mul (pv 0) (pv 2)) (pv 4)) pa_nil)))) (pe_op op_mod (pe_op op_mul (pv 5) (pe_call D__law_few.ok (hr.mono (by omega)) (by rfl) D__law_few.g D__law_few.kp D__law_few.b .nil pass0 (pa_cons (pv 3) (pa_cons (pv 4) pa_nil)))) (pv 0)) (nomark _))))))))), ?_⟩
    refine q_asgI (er_call (eac er_iv (eac er_iv (eac er_iv ea0))) (gv_choice h3 n9 k9)) fun H1 e1 => ?_
    have hm : ((cho n k % p : Nat) : Int) < p := by
      have := Nat.mod_lt (cho n k) (show p > 0 by omega)
      omega
    refine q_not (et_or (et_not (et_b (er_isI er_iv))) fun _ => et_or (et_b (er_isIb er_iv)) fun _ => et_not (et_t (er_chain er_int er_iv er_iv))) (by simp only [Bool.not_true, Bool.false_or, decide_eq_true (Int.natCast_nonneg _), decide_eq_true hm]; rfl) fun H2 e2 => ?_
    refine q_not (et_and (et_t (er_cmp er_iv er_int)) fun h1 => et_and (et_t (er_cmp er_iv er_int)) fun h2 => et_t (er_neI er_iv (er_op (er_op0 (er_call (eac er_iv (eac (er_op0 er_iv er_int) (eac er_iv ea0))) (gv_choiceI (n := n - 1) (k := k) rfl (by have := of_decide_eq_true h1; omega) rfl h3 (by omega) k9))
      (er_call (eac er_iv (eac (er_op0 er_iv er_int) (eac (er_op0 er_iv er_int) ea0))) (gv_choiceI (n := n - 1) (k := k - 1) rfl (by have := of_decide_eq_true h1; omega) (by have := of_decide_eq_true h2; omega) h3 (by omega) (by omega)))) er_iv (show (0 : Int) < (p : Int) by omega)))) ?_ fun H3 e3 => ?_
    · by_cases z1 : 0 < n
      · by_cases z2 : 0 < k
        · rw [← good2 hp.1 z1 z2]
          simp
        · rw [show decide ((0 : Int) < (k : Int)) = false from decide_eq_false (by omega)]
          simp
      · rw [show decide ((0 : Int) < (n : Int)) = false from decide_eq_false (by omega)]
        simp
    refine q_not (et_or (et_and (et_t (er_cmp er_iv er_iv)) fun h1 => et_t (er_neI (er_call (eac er_iv (eac er_iv (eac (er_op0 er_iv er_iv) ea0))) (gv_choiceI (n := n) (k := n - k) rfl rfl (by have := of_decide_eq_true h1; omega) h3 n9 (by omega))) er_iv)) fun _ => et_and (et_t (er_cmp er_iv er_iv)) fun h1 => et_t (er_neI er_iv er_int)) ?_ fun H4 e4 => ?_
    · by_cases z : k ≤ n
      · rw [good3 z, show decide ((n : Int) < (k : Int)) = false from decide_eq_false (by omega)]
        simp
      · rw [show decide ((k : Int) ≤ (n : Int)) = false from decide_eq_false (by omega), cho_above n k (by omega), Nat.zero_mod]
        simp
    refine q_not (et_or (et_t (er_neI (er_call (eac er_iv (eac er_iv (eac er_int ea0))) (gv_choiceI (n := n) (k := 0) rfl rfl rfl h3 n9 (by omega))) er_int)) fun _ => et_or (et_t (er_neI (er_call (eac er_iv (eac er_iv (eac er_iv ea0))) (gv_choice h3 n9 n9)) er_int)) fun _ =>
      et_t (er_neI (er_call (eac er_iv (eac er_iv (eac er_int ea0))) (gv_choiceI (n := n) (k := 1) rfl rfl rfl h3 n9 (by omega))) (er_op er_iv er_iv (show (0 : Int) < (p : Int) by omega)))) ?_ fun H5 e5 => ?_
    · rw [cho_0, cho_self, cho_1, Nat.mod_eq_of_lt (show 1 < p by omega)]
      simp
    refine s_ret (R := rB) (er_eqI (er_call (eac er_iv (eac (er_op0 (er_op (C := CMul) er_iv er_iv (cmul_l (by omega))) er_iv) (eac (er_op0 (er_op (C := CMul) er_iv er_iv (cmul_l (by omega))) er_iv) ea0))) (gv_choiceI (n := p * n + a) (k := p * k + b) rfl (by simp) (by simp) h3 (p300' hn hp.2 ha) (p300' hk hp.2 hb)))
      (er_op (er_op (C := CMul) er_iv (er_call (eac er_iv (eac er_iv ea0)) (gv_few (by omega))) (cmul_l (by omega))) er_iv (show (0 : Int) < (p : Int) by omega))) fun v H6 e6 r => ?_
    rw [good5 h3 ha hb, decide_eq_true rfl] at r
    cases r
    exact q _ (((((e1.trans e2).trans e3).trans e4).trans e5).trans e6)
end

section
variable {P : Program} {w : World} {K : PySem.W.Frag} {mg : Str → Option Value} {base : Heap}
theorem gl_bag {ns : List Int} {k : Int} (h0 : 0 ≤ k) (h1 : k < 1000) {H : Hp} {σ : L2.St} {Q : VK} {a : Addr} {E : XK} {i j : Nat} (hi : σ[i]? = some (some (.ref a))) (hj : σ[j]? = some (some (.int k))) (hS : SqL K H a (ns.map V.int)) (q : ∀ p H', H p = none → Ex H H' → Bag H' p → Q (.ref p) H') :
    tCall (sp__law_bag K) [] E (tCons (tVar i) (tCons (tVar j) tNil)) σ H Q := ⟨_, hi, _, hj, a, ns, k, rfl, hS, h0, h1, q⟩
def spLaw (K : PySem.W.Frag) : Sp := fun vs H Q _ => ∃ (a : Addr) (ns : List Int), vs = [.ref a] ∧ SqL K H a (ns.map V.int) ∧ ns.length ≤ 63 ∧ ∀ H', Q (.bl true) H'
theorem pick3 (i : Int) (h : 0 ≤ i ∧ i < 3) : ∃ p : Nat, P3 p ∧ gt0 (0 : Int) [2, 3, 5] i = (p : Int) := by
  have : i = 0 ∨ i = 1 ∨ i = 2 := by omega
  rcases this with rfl | rfl | rfl
  · exact ⟨2, .inl rfl, rfl⟩
  · exact ⟨3, .inr (.inl rfl), rfl⟩
  · exact ⟨5, .inr (.inr rfl), rfl⟩
theorem d60 {n d : Nat} (h : n < 10 ^ d) (hd : d ≤ 60) : n < 10 ^ 60 := Nat.lt_of_lt_of_le h (Nat.pow_le_pow_right (by decide) hd)
theorem d300 {n : Nat} (h : n ≤ 10 ^ 61) : n < 2 ^ 300 := by
  have h1 : (10 : Nat) ^ 61 < 2 ^ 210 := by decide
  have h2 : (2 : Nat) ^ 210 ≤ 2 ^ 300 := Nat.pow_le_pow_right (by decide) (by decide)
  omega
theorem ok_law {f : Addr} {fd : FuncData} (F : Fun K "law" "law" s_law f fd) (D__law_bag : Df P w K mg base CX0 1 "_law_bag" ["_law_script", "_law_at"] (sp__law_bag K)) (D__law_take : Df P w K mg base CX0 1 "_law_take" ["_law_bag_here", "_law_many"] (sp__law_take K))
    (D__law_place : Df P w K mg base CX0 2 "_law_place" ["_law_bag_here", "_law_figures"] (sp__law_place K)) (D__law_within : Df P w K mg base CX0 2 "_law_within" ["_law_bag_here", "_law_p", "_law_n"] (sp__law_within K))
    (D__law_good : Df P w K mg base CX0 8 "_law_good" ["_law_p", "_law_n", "_law_k", "_law_a", "_law_b"] (sp__law_good K))
    (n_range : mg "range" = none) (n_max : mg "max" = none) (n_min : mg "min" = none) (n_len : mg "len" = none) : FnOk P w K mg base CX0 9 f fd ["_law_script"] (spLaw K) := by
  refine F.ok sc_law (fun vs H Q E h => ?_) (fun cdv A outer s H vs Q E hr h => ?_)
  · obtain ⟨a, ns, rfl, _⟩ := h; rfl
  · obtain ⟨a, ns, rfl, hS, hlen, q⟩ := h
    refine ⟨_, (pss_cons (ps_for PassesOwn.never rfl (pi_range1 (by rfl) n_range (pa_cons (pe_callB (call_max2 rfl) (by rfl) n_max (by decide +kernel) (pa_cons pe_int (pa_cons (pe_callB (call_min2 rfl) (by rfl) n_min (by decide +kernel) (pa_cons pe_int (pa_cons (pe_callB (call_len_seqK K) (by rfl) n_len (by decide +kernel) (pa_cons (pv 0) pa_nil)) pa_nil))) pa_nil))) pa_nil)) (pg_name (i := 1) sc_law.nd rfl (Or.inl rfl))
 (pss_cons (ps_set (i := 2) sc_law.nd rfl (Or.inl rfl) (pe_call D__law_bag.ok (hr.mono (by omega)) (by rfl) D__law_bag.g D__law_bag.kp D__law_bag.b .nil pass0 (pa_cons (pv 0) (pa_cons (pv 1) pa_nil))))
 (pss_cons (ps_set (i := 3) sc_law.nd rfl (Or.inl rfl) (pe_ix (ix_listK K) (pe_lst (pa_cons pe_int (pa_cons pe_int (pa_cons pe_int pa_nil)))) (pe_call D__law_take.ok (hr.mono (by omega)) (by rfl) D__law_take.g D__law_take.kp D__law_take.b .nil pass0 (pa_cons (pv 2) (pa_cons pe_int pa_nil))) (fun _ _ => rfl)))
 (pss_cons (ps_set (i := 4) sc_law.nd rfl (Or.inl rfl) (pe_call D__law_place.ok (hr.mono (by omega)) (by rfl) D__law_place.g D__law_place.kp D__law_place.b .nil pass0 (pa_cons (pv 2) (pa_cons (pe_op op_add pe_int (pe_call D__law_take.ok (hr.mono (by omega)) (by rfl) D__law_take.g D__law_take.kp D__law_take.b .nil pass0 (pa_cons (pv 2) (pa_cons pe_int pa_nil)))) pa_nil))))
 (pss_cons (ps_set (i := 5) sc_law.nd rfl (Or.inl rfl) (pe_call D__law_within.ok (hr.mono (by omega)) (by rfl) D__law_within.g D__law_within.kp D__law_within.b .nil pass0 (pa_cons (pv 2) (pa_cons (pv 3) (pa_cons (pv 4) pa_nil)))))
 (pss_cons (ps_for PassesOwn.never rfl (pi_listK K (pe_lst (pa_cons (pv 5) (pa_cons (pe_call D__law_place.ok (hr.mono (by omega)) (by rfl) D__law_place.g D__law_place.kp D__law_place.b .nil pass0 (pa_cons (pv 2) (pa_cons (pe_op op_add pe_int (pe_call D__law_take.ok (hr.mono (by omega)) (by rfl) D__law_take.g D__law_take.kp D__law_take.b .nil pass0 (pa_cons (pv 2) (pa_cons pe_int pa_nil)))) pa_nil))) (pa_cons (pe_op op_add (pe_op op_add (pv 4) pe_int) (pe_call D__law_take.ok (hr.mono (by omega)) (by rfl) D__law_take.g D__law_take.kp D__law_take.b .nil pass0 (pa_cons (pv 2) (pa_cons pe_int pa_nil)))) (pa_cons (pe_op op_fdiv (pv 4) pe_int) pa_nil)))))) (pg_name (i := 6) sc_law.nd rfl (Or.inl rfl))
 (pss_one (ps_if (pt_not (pt_val (pe_call D__law_good.ok (hr.mono (by omega)) (by rfl) D__law_good.g D__law_good.kp D__law_good.b .nil pass0 (pa_cons (pv 3) (pa_cons (pv 4) (pa_cons (pv 6) (pa_cons (pe_call D__law_take.ok (hr.mono (by omega)) (by rfl) D__law_take.g D__law_take.kp D__law_take.b .nil pass0 (pa_cons (pv 2) (pa_cons (pv 3) pa_nil))) (pa_cons (pe_call D__law_take.ok (hr.mono (by omega)) (by rfl) D__law_take.g D__law_take.kp D__law_take.b .nil pass0 (pa_cons (pv 2) (pa_cons (pv 3) pa_nil))) pa_nil)))))))) (pss_one (ps_ret pe_bl)) pss_nil)))
 (pss_one (ps_if (pt_not (pt_val (pe_call D__law_good.ok (hr.mono (by omega)) (by rfl) D__law_good.g D__law_good.kp D__law_good.b .nil pass0 (pa_cons (pv 3) (pa_cons (pv 4) (pa_cons (pv 5) (pa_cons (pe_op op_sub (pv 3) pe_int) (pa_cons (pe_call D__law_take.ok (hr.mono (by omega)) (by rfl) D__law_take.g D__law_take.kp D__law_take.b .nil pass0 (pa_cons (pv 2) (pa_cons (pv 3) pa_nil))) pa_nil)))))))) (pss_one (ps_ret pe_bl)) pss_nil))))))))
 (pss_one (ps_ret pe_bl))), ?_⟩
    refine q_forR1 (er_max2 er_int (er_min2 er_int (er_lenL (er_var rfl (rl_of hS))))) (by split <;> split <;> omega) fun H1 e1 => ?_
    refine fq_R (lo := 0) (hi := if (if (ns.length : Int) < 8 then (ns.length : Int) else 8) > 3 then (if (ns.length : Int) < 8 then (ns.length : Int) else 8) else 3) (by rw [Int.sub_zero]) (fun i σ' H' => ∃ j1 j2 j3 j4 j5 j6 : Option V, σ' = [some (.ref a), j1, j2, j3, j4, j5, j6] ∧ Ex H H') ?_ ?_ ?_
    · exact ⟨_, _, _, _, _, _, rfl, e1⟩
    · rintro i x1 _ H2 hi hx1 ⟨j1, j2, j3, j4, j5, j6, rfl, F0⟩
      have hr1 := rng_at hx1
      have hx9 : 0 ≤ x1 ∧ x1 < 1000 := by
        refine ⟨hr1.2.1, ?_⟩
        have := hr1.2.2
        split at this <;> (try split at this) <;> omega
      refine q_asg0 ?_
      refine gl_bag hx9.1 hx9.2 rfl rfl (Evl.ex_l F0 hS) fun b H3 n3 e3 B => ?_
      have nb : H b = none := fresh_back F0 n3
      replace F0 := F0.trans e3
      -- p
      refine q_asg0 ?_
      refine go_op ?_
      refine go_L (el_lst (R := rI) (eas (er_int (k := 2)) (eas (er_int (k := 3)) (eas (er_int (k := 5)) eas0))) (by decide)) fun pl H4 n4 e4 l4 => ?_
      have np := B.ne n4
      replace B := B.ex e4
      replace F0 := F0.trans e4
      refine go_take (K := K) (i := 2) rfl B er_int (by decide) fun r H5 c5 B' hr => ?_
      replace l4 := Lt.keep l4 (B.kt (K := K) c5) c5 np.symm
      replace F0 := C1.ofNew F0 nb c5
      replace B := B'
      refine go_ixL l4 (by simp; omega) (by simp; omega) (0 : Int) fun v hv => ?_
      cases hv
      obtain ⟨p, hp, ep⟩ := pick3 r hr
      rw [ep]
      have hp2 := hp.le
      -- n
      refine q_asg0 ?_
      refine go_call2 ?_
      refine ⟨_, rfl, ?_⟩
      refine go_take (K := K) (i := 2) rfl B er_int (by decide) fun r1 H6 c6 B' hr1 => ?_
      replace F0 := C1.ofNew F0 nb c6
      replace B := B'
      refine ⟨1, r1, rfl, rfl, ?_⟩
      refine ⟨b, (1 + r1).toNat, congrArg (fun z => [V.ref b, V.int z]) (show 1 + r1 = (((1 + r1).toNat : Nat) : Int) by omega), B, by omega, fun n H7 c7 B' hn => ?_⟩
      replace F0 := C1.ofNew F0 nb c7
      replace B := B'
      have hn60 := d60 hn (by omega)
      -- taken
      refine q_asg0 ?_
      refine ⟨_, rfl, _, rfl, _, rfl, b, p, n, rfl, B, hp, hn60, fun t H8 c8 B' ht => ?_⟩
      replace F0 := C1.ofNew F0 nb c8
      replace B := B'
      have hpn : n * p ≤ n * 5 := Nat.mul_le_mul_left _ hp2.2
      have h61 : (10 : Nat) ^ 61 = 10 * 10 ^ 60 := by rw [show 61 = 60 + 1 by rfl, Nat.pow_succ, Nat.mul_comm]
      have b0 : ∀ z : Nat, z ≤ n * 5 + 1000 → z < 2 ^ 300 := fun z hz => d300 (by
        have : (1000 : Nat) ≤ 10 ^ 60 := by decide
        omega)
      -- the four
      refine q_for0 ?_
      refine ⟨_, rfl, ?_⟩
      refine go_call2 ?_
      refine ⟨_, rfl, ?_⟩
      refine go_take (K := K) (i := 2) rfl B er_int (by decide) fun r2 H9 c9 B' hr2 => ?_
      replace F0 := C1.ofNew F0 nb c9
      replace B := B'
      refine ⟨1, r2, rfl, rfl, ?_⟩
      refine ⟨b, (1 + r2).toNat, congrArg (fun z => [V.ref b, V.int z]) (show 1 + r2 = (((1 + r2).toNat : Nat) : Int) by omega), B, by omega, fun n2 H10 c10 B' hn2 => ?_⟩
      replace F0 := C1.ofNew F0 nb c10
      replace B := B'
      have hn260 := d60 hn2 (by omega)
      refine ⟨_, rfl, _, _, rfl, rfl, ?_⟩
      refine go_take (K := K) (i := 2) rfl B er_int (by decide) fun r3 H11 c11 B' hr3 => ?_
      replace F0 := C1.ofNew F0 nb c11
      replace B := B'
      refine ⟨_, _, rfl, rfl, _, rfl, _, _, rfl, rfl, ⟨by decide, by decide⟩, by show 4 ≤ sizeLine; decide, fun pm nm => ⟨pm, rfl, ⟨_, SqL.of upd_same⟩, ?_⟩⟩
      have np := B.ne nm
      have l12 : Lt rI (upd H11 pm (.lst [.int t, .int n2, .int ((n : Int) + 1 + r3), .int ((n : Int) / 2)])) pm [(t : Int), (n2 : Int), (n : Int) + 1 + r3, (n : Int) / 2] := ⟨_, upd_same, pI' _⟩
      have e12 := Ex.new (o := .lst [.int t, .int n2, .int ((n : Int) + 1 + r3), .int ((n : Int) / 2)]) nm
      replace F0 := F0.trans e12
      replace B := B.ex e12
      have hin : ∀ x ∈ [(t : Int), (n2 : Int), (n : Int) + 1 + r3, (n : Int) / 2], ∃ z : Nat, x = (z : Int) ∧ z < 2 ^ 300 := by
        intro x hx
        simp only [List.mem_cons, List.mem_nil_iff, or_false] at hx
        rcases hx with rfl | rfl | rfl | rfl
        · exact ⟨t, rfl, b0 t (by omega)⟩
        · exact ⟨n2, rfl, d300 (by omega)⟩
        · exact ⟨((n : Int) + 1 + r3).toNat, by omega, b0 _ (by omega)⟩
        · exact ⟨((n : Int) / 2).toNat, by omega, b0 _ (by omega)⟩
      refine fq_LI (xs := [(t : Int), (n2 : Int), (n : Int) + 1 + r3, (n : Int) / 2]) l12.rl (fun i σ' H' => ∃ j6 : Option V, σ' = [some (.ref a), some (.int x1), some (.ref b), some (.int p), some (.int n), some (.int t), j6] ∧ Ex H H' ∧ Bag H' b ∧ Lt rI H' pm [(t : Int), (n2 : Int), (n : Int) + 1 + r3, (n : Int) / 2]) ?_ ?_ ?_ ?_ pm rfl
      · exact ⟨_, rfl, F0, B, l12⟩
      · rintro i σ' H' _ ⟨_, _, _, _, l⟩; exact l.rl
      · rintro i x _ H13 hi hx ⟨j6, rfl, F0, B, l13⟩
        obtain ⟨z, rfl, hz⟩ := hin x (List.mem_of_getElem? hx)
        refine s_when0 ?_
        refine go_not ?_
        refine go_tB ?_
        refine ⟨_, rfl, _, rfl, _, rfl, ?_⟩
        refine go_take (K := K) (i := 2) rfl B er_iv (by omega) fun r4 H14 c14 B' hr4 => ?_
        replace F0 := C1.ofNew F0 nb c14
        replace l13 := Lt.keep l13 (B.kt (K := K) c14) c14 np.symm
        replace B := B'
        refine go_take (K := K) (i := 2) rfl B er_iv (by omega) fun r5 H15 c15 B' hr5 => ?_
        replace F0 := C1.ofNew F0 nb c15
        replace l13 := Lt.keep l13 (B.kt (K := K) c15) c15 np.symm
        replace B := B'
        have e4 : r4 = ((r4.toNat : Nat) : Int) := by omega
        have e5 : r5 = ((r5.toNat : Nat) : Int) := by omega
        refine ⟨p, n, z, r4.toNat, r5.toNat, by rw [← e4, ← e5]; rfl, hp, b0 n (by omega), hz, by omega, by omega, fun H16 e16 => ⟨true, rfl, ?_⟩⟩
        exact iteF ⟨_, rfl, F0.trans e16, B.ex e16, l13.ex e16⟩
      · rintro _ H13 ⟨j6, rfl, F0, B, l13⟩
        refine s_when0 ?_
        refine go_not ?_
        refine go_tB ?_
        refine ⟨_, rfl, _, rfl, _, rfl, _, rfl, _, _, rfl, rfl, ?_⟩
        refine go_take (K := K) (i := 2) rfl B er_iv (by omega) fun r5 H15 c15 B' hr5 => ?_
        replace F0 := C1.ofNew F0 nb c15
        replace B := B'
        have e4 : (p : Int) - 1 = ((p - 1 : Nat) : Int) := by omega
        have e5 : r5 = ((r5.toNat : Nat) : Int) := by omega
        refine ⟨p, n, t, p - 1, r5.toNat, by rw [← e4, ← e5]; rfl, hp, b0 n (by omega), b0 t (by omega), by omega, by omega, fun H16 e16 => ⟨true, rfl, ?_⟩⟩
        exact iteF ⟨_, _, _, _, _, _, rfl, F0.trans e16⟩
    · rintro _ H2 ⟨j1, j2, j3, j4, j5, j6, rfl, F0⟩
      refine s_ret (R := rB) er_bl fun v H3 e3 r => ?_
      cases r
      exact q H3
end

theorem all_mk {l : PySem.W.OpenLaw} {w : World} {K : PySem.W.Frag} {h : Heap} {mg : Str → Option Value} {fa f0 f1 f2 f3 f4 f5 f6 f7 f8 f9 f10 f11 f12 : Addr} (X : K.In h) (G : h.Ns mainGlobals mg) (hfa : mg "law" = some (.ref fa))
    {od0 an0 : Option Addr} {sl0 : Array (Option Value)} {oc0 kV0 dc0 pm0 cd0 ct0 : Value}
    {od1 an1 : Option Addr} {sl1 : Array (Option Value)} {oc1 kV1 dc1 pm1 cd1 ct1 : Value}
    {od2 an2 : Option Addr} {sl2 : Array (Option Value)} {oc2 kV2 dc2 pm2 cd2 ct2 : Value}
    {od3 an3 : Option Addr} {sl3 : Array (Option Value)} {oc3 kV3 dc3 pm3 cd3 ct3 : Value}
    {od4 an4 : Option Addr} {sl4 : Array (Option Value)} {oc4 kV4 dc4 pm4 cd4 ct4 : Value}
    {od5 an5 : Option Addr} {sl5 : Array (Option Value)} {oc5 kV5 dc5 pm5 cd5 ct5 : Value}
    {od6 an6 : Option Addr} {sl6 : Array (Option Value)} {oc6 kV6 dc6 pm6 cd6 ct6 : Value}
    {od7 an7 : Option Addr} {sl7 : Array (Option Value)} {oc7 kV7 dc7 pm7 cd7 ct7 : Value}
    {od8 an8 : Option Addr} {sl8 : Array (Option Value)} {oc8 kV8 dc8 pm8 cd8 ct8 : Value}
    {od9 an9 : Option Addr} {sl9 : Array (Option Value)} {oc9 kV9 dc9 pm9 cd9 ct9 : Value}
    {od10 an10 : Option Addr} {sl10 : Array (Option Value)} {oc10 kV10 dc10 pm10 cd10 ct10 : Value}
    {od11 an11 : Option Addr} {sl11 : Array (Option Value)} {oc11 kV11 dc11 pm11 cd11 ct11 : Value}
    {od12 an12 : Option Addr} {sl12 : Array (Option Value)} {oc12 kV12 dc12 pm12 cd12 ct12 : Value}
    {a_PRIMES : Addr} {dd_PRIMES : Option Addr} {cn_PRIMES : Nat} {cs_PRIMES : Array (Option Value)} {tkPRIMES0 tkPRIMES1 tkPRIMES2 : Tok}
    {C_NoPrime : Addr}
    (a0 : PySem.W.nsIn K mainGlobals "is_whole" = some (some (.ref f0)))
    (l0 : K.lookup f0 = some ⟨oc0, od0, .func (PySem.W.fnOf "is_whole" "is_whole" (defArgs s_is_whole) (defBody s_is_whole) (defScope s_is_whole) .none kV0 dc0 pm0 an0 cd0 ct0), sl0⟩)
    (c0 : PySem.W.codeIn K cd0 "is_whole" = true)
    (k0 : PySem.W.keepIn K (.ref f0) = true)
    (a1 : PySem.W.nsIn K mainGlobals "is_prime" = some (some (.ref f1)))
    (l1 : K.lookup f1 = some ⟨oc1, od1, .func (PySem.W.fnOf "is_prime" "is_prime" (defArgs s_is_prime) (defBody s_is_prime) (defScope s_is_prime) .none kV1 dc1 pm1 an1 cd1 ct1), sl1⟩)
    (c1 : PySem.W.codeIn K cd1 "is_prime" = true)
    (k1 : PySem.W.keepIn K (.ref f1) = true)
    (a2 : PySem.W.nsIn K mainGlobals "look_prime" = some (some (.ref f2)))
    (l2 : K.lookup f2 = some ⟨oc2, od2, .func (PySem.W.fnOf "look_prime" "look_prime" (defArgs s_look_prime) (defBody s_look_prime) (defScope s_look_prime) .none kV2 dc2 pm2 an2 cd2 ct2), sl2⟩)
    (c2 : PySem.W.codeIn K cd2 "look_prime" = true)
    (k2 : PySem.W.keepIn K (.ref f2) = true)
    (a3 : PySem.W.nsIn K mainGlobals "figures_of" = some (some (.ref f3)))
    (l3 : K.lookup f3 = some ⟨oc3, od3, .func (PySem.W.fnOf "figures_of" "figures_of" (defArgs s_figures_of) (defBody s_figures_of) (defScope s_figures_of) .none kV3 dc3 pm3 an3 cd3 ct3), sl3⟩)
    (c3 : PySem.W.codeIn K cd3 "figures_of" = true)
    (k3 : PySem.W.keepIn K (.ref f3) = true)
    (a4 : PySem.W.nsIn K mainGlobals "few_choices" = some (some (.ref f4)))
    (l4 : K.lookup f4 = some ⟨oc4, od4, .func (PySem.W.fnOf "few_choices" "few_choices" (defArgs s_few_choices) (defBody s_few_choices) (defScope s_few_choices) .none kV4 dc4 pm4 an4 cd4 ct4), sl4⟩)
    (c4 : PySem.W.codeIn K cd4 "few_choices" = true)
    (k4 : PySem.W.keepIn K (.ref f4) = true)
    (a5 : PySem.W.nsIn K mainGlobals "choice" = some (some (.ref f5)))
    (l5 : K.lookup f5 = some ⟨oc5, od5, .func (PySem.W.fnOf "choice" "choice" (defArgs s_choice) (defBody s_choice) (defScope s_choice) .none kV5 dc5 pm5 an5 cd5 ct5), sl5⟩)
    (c5 : PySem.W.codeIn K cd5 "choice" = true)
    (k5 : PySem.W.keepIn K (.ref f5) = true)
    (a6 : PySem.W.nsIn K mainGlobals "_law_bag" = some (some (.ref f6)))
    (l6 : K.lookup f6 = some ⟨oc6, od6, .func (PySem.W.fnOf "_law_bag" "_law_bag" (defArgs s__law_bag) (defBody s__law_bag) (defScope s__law_bag) .none kV6 dc6 pm6 an6 cd6 ct6), sl6⟩)
    (c6 : PySem.W.codeIn K cd6 "_law_bag" = true)
    (k6 : PySem.W.keepIn K (.ref f6) = true)
    (a7 : PySem.W.nsIn K mainGlobals "_law_take" = some (some (.ref f7)))
    (l7 : K.lookup f7 = some ⟨oc7, od7, .func (PySem.W.fnOf "_law_take" "_law_take" (defArgs s__law_take) (defBody s__law_take) (defScope s__law_take) .none kV7 dc7 pm7 an7 cd7 ct7), sl7⟩)
    (c7 : PySem.W.codeIn K cd7 "_law_take" = true)
    (k7 : PySem.W.keepIn K (.ref f7) = true)
    (a8 : PySem.W.nsIn K mainGlobals "_law_place" = some (some (.ref f8)))
    (l8 : K.lookup f8 = some ⟨oc8, od8, .func (PySem.W.fnOf "_law_place" "_law_place" (defArgs s__law_place) (defBody s__law_place) (defScope s__law_place) .none kV8 dc8 pm8 an8 cd8 ct8), sl8⟩)
    (c8 : PySem.W.codeIn K cd8 "_law_place" = true)
    (k8 : PySem.W.keepIn K (.ref f8) = true)
    (a9 : PySem.W.nsIn K mainGlobals "_law_within" = some (some (.ref f9)))
    (l9 : K.lookup f9 = some ⟨oc9, od9, .func (PySem.W.fnOf "_law_within" "_law_within" (defArgs s__law_within) (defBody s__law_within) (defScope s__law_within) .none kV9 dc9 pm9 an9 cd9 ct9), sl9⟩)
    (c9 : PySem.W.codeIn K cd9 "_law_within" = true)
    (k9 : PySem.W.keepIn K (.ref f9) = true)
    (a10 : PySem.W.nsIn K mainGlobals "_law_few" = some (some (.ref f10)))
    (l10 : K.lookup f10 = some ⟨oc10, od10, .func (PySem.W.fnOf "_law_few" "_law_few" (defArgs s__law_few) (defBody s__law_few) (defScope s__law_few) .none kV10 dc10 pm10 an10 cd10 ct10), sl10⟩)
    (c10 : PySem.W.codeIn K cd10 "_law_few" = true)
    (k10 : PySem.W.keepIn K (.ref f10) = true)
    (a11 : PySem.W.nsIn K mainGlobals "_law_good" = some (some (.ref f11)))
    (l11 : K.lookup f11 = some ⟨oc11, od11, .func (PySem.W.fnOf "_law_good" "_law_good" (defArgs s__law_good) (defBody s__law_good) (defScope s__law_good) .none kV11 dc11 pm11 an11 cd11 ct11), sl11⟩)
    (c11 : PySem.W.codeIn K cd11 "_law_good" = true)
    (k11 : PySem.W.keepIn K (.ref f11) = true)
    (a12 : PySem.W.nsIn K mainGlobals "law" = some (some (.ref f12)))
    (l12 : K.lookup f12 = some ⟨oc12, od12, .func (PySem.W.fnOf "law" "law" (defArgs s_law) (defBody s_law) (defScope s_law) .none kV12 dc12 pm12 an12 cd12 ct12), sl12⟩)
    (c12 : PySem.W.codeIn K cd12 "law" = true)
    (k12 : PySem.W.keepIn K (.ref f12) = true)
    (n_isinstance : PySem.W.nsIn K mainGlobals "isinstance" = some none)
    (n_int : PySem.W.nsIn K mainGlobals "int" = some none)
    (n_bool : PySem.W.nsIn K mainGlobals "bool" = some none)
    (n_len : PySem.W.nsIn K mainGlobals "len" = some none)
    (n_enumerate : PySem.W.nsIn K mainGlobals "enumerate" = some none)
    (n_range : PySem.W.nsIn K mainGlobals "range" = some none)
    (n_abs : PySem.W.nsIn K mainGlobals "abs" = some none)
    (n_max : PySem.W.nsIn K mainGlobals "max" = some none)
    (n_min : PySem.W.nsIn K mainGlobals "min" = some none)
    (ca_PRIMES : PySem.W.nsIn K mainGlobals "PRIMES" = some (some (.ref a_PRIMES)))
    (cl_PRIMES : K.lookup a_PRIMES = some ⟨.type "tuple", dd_PRIMES, .seq #[.int 2 tkPRIMES0, .int 3 tkPRIMES1, .int 5 tkPRIMES2] cn_PRIMES, cs_PRIMES⟩)
    (xa_NoPrime : PySem.W.nsIn K mainGlobals "NoPrime" = some (some (.ref C_NoPrime)))
    (xk_NoPrime : PySem.W.keepIn K (.ref C_NoPrime) = true)
    (xx_NoPrime : PySem.W.excIn K C_NoPrime [.type "ValueError", .type "Exception", .type "BaseException", .type "object"] "ValueError.__new__" = true)
    (xs_NoPrime : PySem.W.subIn K (.ref C_NoPrime) (.type "BaseException") = some true)
    (xt_NoPrime : PySem.W.typeIn K (.ref C_NoPrime) = some (.type "type")) :
    ∃ fd : FuncData, (∀ (s : Shared) (v : Value), BindsTo s fd ⟨[v], []⟩ [("_law_script", v)]) ∧ ∀ base : Heap, K.In base → base.Ns mainGlobals mg → FnOk l.prog w K mg base CX0 9 fa fd ["_law_script"] (spLaw K) := by
  have e := hfa.symm.trans (PySem.W.mg_of X G a12)
  cases e
  have c_PRIMES : Cn K mg "PRIMES" [.int 2, .int 3, .int 5] := ⟨a_PRIMES, PySem.W.mg_of X G ca_PRIMES, fun H => .inr ⟨_, _, _, cl_PRIMES, rfl, rfl, (by show 3 ≤ sizeLine; decide), .cons ⟨_, rfl⟩ (.cons ⟨_, rfl⟩ (.cons ⟨_, rfl⟩ (.nil)))⟩⟩
  have x_NoPrime : Xc K mg "NoPrime" C_NoPrime := ⟨PySem.W.mg_of X G xa_NoPrime, xk_NoPrime, xx_NoPrime, xs_NoPrime, xt_NoPrime⟩
  have F0 := fun_mk (st := s_is_whole) l0 c0 k0
  have b0 := F0.binds (ps := ["thing"]) fun _ _ _ _ _ _ us hl => match us, hl with | [_], _ => rfl
  have F1 := fun_mk (st := s_is_prime) l1 c1 k1
  have b1 := F1.binds (ps := ["thing"]) fun _ _ _ _ _ _ us hl => match us, hl with | [_], _ => rfl
  have F2 := fun_mk (st := s_look_prime) l2 c2 k2
  have b2 := F2.binds (ps := ["p"]) fun _ _ _ _ _ _ us hl => match us, hl with | [_], _ => rfl
  have F3 := fun_mk (st := s_figures_of) l3 c3 k3
  have b3 := F3.binds (ps := ["p", "place"]) fun _ _ _ _ _ _ us hl => match us, hl with | [_, _], _ => rfl
  have F4 := fun_mk (st := s_few_choices) l4 c4 k4
  have b4 := F4.binds (ps := ["many", "taken"]) fun _ _ _ _ _ _ us hl => match us, hl with | [_, _], _ => rfl
  have F5 := fun_mk (st := s_choice) l5 c5 k5
  have b5 := F5.binds (ps := ["p", "n", "k"]) fun _ _ _ _ _ _ us hl => match us, hl with | [_, _, _], _ => rfl
  have F6 := fun_mk (st := s__law_bag) l6 c6 k6
  have b6 := F6.binds (ps := ["_law_script", "_law_at"]) fun _ _ _ _ _ _ us hl => match us, hl with | [_, _], _ => rfl
  have F7 := fun_mk (st := s__law_take) l7 c7 k7
  have b7 := F7.binds (ps := ["_law_bag_here", "_law_many"]) fun _ _ _ _ _ _ us hl => match us, hl with | [_, _], _ => rfl
  have F8 := fun_mk (st := s__law_place) l8 c8 k8
  have b8 := F8.binds (ps := ["_law_bag_here", "_law_figures"]) fun _ _ _ _ _ _ us hl => match us, hl with | [_, _], _ => rfl
  have F9 := fun_mk (st := s__law_within) l9 c9 k9
  have b9 := F9.binds (ps := ["_law_bag_here", "_law_p", "_law_n"]) fun _ _ _ _ _ _ us hl => match us, hl with | [_, _, _], _ => rfl
  have F10 := fun_mk (st := s__law_few) l10 c10 k10
  have b10 := F10.binds (ps := ["_law_n", "_law_k"]) fun _ _ _ _ _ _ us hl => match us, hl with | [_, _], _ => rfl
  have F11 := fun_mk (st := s__law_good) l11 c11 k11
  have b11 := F11.binds (ps := ["_law_p", "_law_n", "_law_k", "_law_a", "_law_b"]) fun _ _ _ _ _ _ us hl => match us, hl with | [_, _, _, _, _], _ => rfl
  have F12 := fun_mk (st := s_law) l12 c12 k12
  refine ⟨PySem.W.fnOf "law" "law" (defArgs s_law) (defBody s_law) (defScope s_law) .none kV12 dc12 pm12 an12 cd12 ct12, fun s v => .of_eq rfl, fun base _ _ => ?_⟩
  have D_is_whole : Df l.prog w K mg base CX0 1 "is_whole" ["thing"] (sp_is_whole K) := ⟨f0, _, ok_is_whole F0 (PySem.W.mg_none_of X G n_isinstance) (PySem.W.mg_none_of X G n_int) (PySem.W.mg_none_of X G n_bool), PySem.W.mg_of X G a0, k0, b0⟩
  have D_is_prime : Df l.prog w K mg base CX0 2 "is_prime" ["thing"] (sp_is_prime K) := ⟨f1, _, ok_is_prime F1 D_is_whole c_PRIMES, PySem.W.mg_of X G a1, k1, b1⟩
  have D_look_prime : Df l.prog w K mg base (L2.CX l.prog w) 3 "look_prime" ["p"] (sp_look_prime K C_NoPrime) := ⟨f2, _, ok_look_prime F2 D_is_prime x_NoPrime, PySem.W.mg_of X G a2, k2, b2⟩
  have D_figures_of : Df l.prog w K mg base CX0 1 "figures_of" ["p", "place"] (sp_figures_of K) := ⟨f3, _, ok_figures_of F3, PySem.W.mg_of X G a3, k3, b3⟩
  have D_few_choices : Df l.prog w K mg base CX0 1 "few_choices" ["many", "taken"] (sp_few_choices K) := ⟨f4, _, ok_few_choices F4 (PySem.W.mg_none_of X G n_range), PySem.W.mg_of X G a4, k4, b4⟩
  have D_choice : Df l.prog w K mg base (L2.CX l.prog w) 4 "choice" ["p", "n", "k"] (sp_choice K C_NoPrime) := ⟨f5, _, ok_choice F5 D_look_prime D_figures_of D_few_choices (PySem.W.mg_none_of X G n_len) (PySem.W.mg_none_of X G n_enumerate), PySem.W.mg_of X G a5, k5, b5⟩
  have D__law_bag : Df l.prog w K mg base CX0 1 "_law_bag" ["_law_script", "_law_at"] (sp__law_bag K) := ⟨f6, _, ok__law_bag F6 (PySem.W.mg_none_of X G n_len) (PySem.W.mg_none_of X G n_abs) (PySem.W.mg_none_of X G n_int), PySem.W.mg_of X G a6, k6, b6⟩
  have D__law_take : Df l.prog w K mg base CX0 1 "_law_take" ["_law_bag_here", "_law_many"] (sp__law_take K) := ⟨f7, _, ok__law_take F7, PySem.W.mg_of X G a7, k7, b7⟩
  have D__law_place : Df l.prog w K mg base CX0 2 "_law_place" ["_law_bag_here", "_law_figures"] (sp__law_place K) := ⟨f8, _, ok__law_place F8 D__law_take (PySem.W.mg_none_of X G n_range), PySem.W.mg_of X G a8, k8, b8⟩
  have D__law_within : Df l.prog w K mg base CX0 2 "_law_within" ["_law_bag_here", "_law_p", "_law_n"] (sp__law_within K) := ⟨f9, _, ok__law_within F9 D__law_take, PySem.W.mg_of X G a9, k9, b9⟩
  have D__law_few : Df l.prog w K mg base CX0 7 "_law_few" ["_law_n", "_law_k"] (sp__law_few 5) := ⟨f10, _, ok__law_few F10 (PySem.W.mg_of X G a10) b10 5, PySem.W.mg_of X G a10, k10, b10⟩
  have D__law_good : Df l.prog w K mg base CX0 8 "_law_good" ["_law_p", "_law_n", "_law_k", "_law_a", "_law_b"] (sp__law_good K) := ⟨f11, _, ok__law_good F11 D_choice D__law_few (PySem.W.mg_none_of X G n_isinstance) (PySem.W.mg_none_of X G n_int) (PySem.W.mg_none_of X G n_bool), PySem.W.mg_of X G a11, k11, b11⟩
  exact ok_law F12 D__law_bag D__law_take D__law_place D__law_within D__law_good (PySem.W.mg_none_of X G n_range) (PySem.W.mg_none_of X G n_max) (PySem.W.mg_none_of X G n_min) (PySem.W.mg_none_of X G n_len)
end Dg
open PySem PySem.W PyProof.Rows
set_option maxRecDepth 100000 in
set_option maxHeartbeats 0 in
theorem PySem.Challenge.cw_digitroots_k44_whole_choices_of_many_holds : PySem.Challenge.rw_digitroots_k44_whole_choices_of_many.Holds := by
  w_on; o_law; k_head; (case hw => w_witness2)
  k_fill
  refine L2.walk_of (l := PySem.Challenge.rw_digitroots_k44_whole_choices_of_many) (n := 63) (k := 9) (x := "_law_script") (CX := fun _ => L2.CX0) (sp := fun w => Dg.spLaw _) rfl (by decide) rfl ⟨rfl, by decide, by decide⟩ (fun w h Y => PySem.W.kIn_of Y) ?F (fun _ _ a ns hl _ hS => ⟨a, ns, rfl, hS, hl, fun _ => rfl⟩) (fun _ _ _ _ _ h => h)
  case F =>
    intro w mg fa h KX G hmg
    refine' Dg.all_mk KX G hmg ?a0 ?l0 ?c0 ?k0 ?a1 ?l1 ?c1 ?k1 ?a2 ?l2 ?c2 ?k2 ?a3 ?l3 ?c3 ?k3 ?a4 ?l4 ?c4 ?k4 ?a5 ?l5 ?c5 ?k5 ?a6 ?l6 ?c6 ?k6 ?a7 ?l7 ?c7 ?k7 ?a8 ?l8 ?c8 ?k8 ?a9 ?l9 ?c9 ?k9 ?a10 ?l10 ?c10 ?k10 ?a11 ?l11 ?c11 ?k11 ?a12 ?l12 ?c12 ?k12 ?n_isinstance ?n_int ?n_bool ?n_len ?n_enumerate ?n_range ?n_abs ?n_max ?n_min ?ca_PRIMES ?cl_PRIMES ?xa_NoPrime ?xk_NoPrime ?xx_NoPrime ?xs_NoPrime ?xt_NoPrime
    (case a0 => k_is)
    (case l0 => k_is)
    (case c0 => k_is)
    (case k0 => k_is)
    (case a1 => k_is)
    (case l1 => k_is)
    (case c1 => k_is)
    (case k1 => k_is)
    (case a2 => k_is)
    (case l2 => k_is)
    (case c2 => k_is)
    (case k2 => k_is)
    (case a3 => k_is)
    (case l3 => k_is)
    (case c3 => k_is)
    (case k3 => k_is)
    (case a4 => k_is)
    (case l4 => k_is)
    (case c4 => k_is)
    (case k4 => k_is)
    (case a5 => k_is)
    (case l5 => k_is)
    (case c5 => k_is)
    (case k5 => k_is)
    (case a6 => k_is)
    (case l6 => k_is)
    (case c6 => k_is)
    (case k6 => k_is)
    (case a7 => k_is)
    (case l7 => k_is)
    (case c7 => k_is)
    (case k7 => k_is)
    (case a8 => k_is)
    (case l8 => k_is)
    (case c8 => k_is)
    (case k8 => k_is)
    (case a9 => k_is)
    (case l9 => k_is)
    (case c9 => k_is)
    (case k9 => k_is)
    (case a10 => k_is)
    (case l10 => k_is)
    (case c10 => k_is)
    (case k10 => k_is)
    (case a11 => k_is)
    (case l11 => k_is)
    (case c11 => k_is)
    (case k11 => k_is)
    (case a12 => k_is)
    (case l12 => k_is)
    (case c12 => k_is)
    (case k12 => k_is)
    (case n_isinstance => k_is)
    (case n_int => k_is)
    (case n_bool => k_is)
    (case n_len => k_is)
    (case n_enumerate => k_is)
    (case n_range => k_is)
    (case n_abs => k_is)
    (case n_max => k_is)
    (case n_min => k_is)
    (case ca_PRIMES => k_is)
    (case cl_PRIMES => k_is)
    (case xa_NoPrime => k_is)
    (case xk_NoPrime => k_is)
    (case xx_NoPrime => k_exc)
    (case xs_NoPrime => k_is)
    (case xt_NoPrime => k_is)


