import PyProof.Rows.All
import Wide.All
import OpenK.AllK
import Wide.FinOn
import HandS.ForMost
import HandS.ForExc
import HandS.IsInst
import HandS.ExcIs
import HandS.TupAny
import HandS.Evl
import HandS.Walk
import HandS.Zip
import HandS.Wide
import HandS.CallSlots
import KE.GoesEnum
import KE.DatumOrd
import HandS.TupMul
import PyProof.Rows.CallKwBuiltin
import HandS.Codes
import PyProof.StrOps2
import PySem.Challenge.RW_digitroots_k42_no_row
set_option Elab.async false
set_option linter.all false
set_option maxRecDepth 100000
set_option maxHeartbeats 4000000
set_option maxRecDepth 100000
set_option maxHeartbeats 4000000
/-! Readings by what they represent: Er (a value), El (a new list), Et (a test); the bag of a law. -/
namespace Dg
open PySem PySem.Spec PyProof.Rows L2 Evl

/-! ### steps of the heap -/
/-- at most what stands at p is changed -/
def C1 (p : Addr) (H H' : Hp) : Prop := ∀ a o, a ≠ p → H a = some o → H' a = some o
theorem C1.ex {p : Addr} {H H' : Hp} (e : Ex H H') : C1 p H H' := fun a o _ h => e a o h
theorem C1.refl (p : Addr) (H : Hp) : C1 p H H := fun _ _ _ h => h
theorem C1.trans {p : Addr} {H H1 H2 : Hp} (a : C1 p H H1) (b : C1 p H1 H2) : C1 p H H2 := fun x o n h => b x o n (a x o n h)
theorem C1.up {p : Addr} {H H' : Hp} {o : HO} (a : C1 p H H') : C1 p H (upd H' p o) := fun x u n h => by rw [upd_ne n]; exact a x u n h
theorem C1.upn {p q : Addr} {H H' : Hp} {o : HO} (a : C1 p H H') (hq : H q = none) : C1 p H (upd H' q o) := fun x u n h => by rw [upd_ne (ne_of_none h hq)]; exact a x u n h
/-- a step that turns p alone, p new to H -/
theorem C1.ofNew {p : Addr} {H H1 H2 : Hp} (e : Ex H H1) (hp : H p = none) (c : C1 p H1 H2) : Ex H H2 := fun a o h => c a o (ne_of_none h hp) (e a o h)
theorem C1.ofNew2 {b p : Addr} {H H1 H2 : Hp} (e : C1 b H H1) (hp : H p = none) (c : C1 p H1 H2) : C1 b H H2 := fun a o n h => c a o (ne_of_none h hp) (e a o n h)

/-- what is read as a tuple stays so -/
def Kt (K : PySem.W.Frag) (H H' : Hp) : Prop := ∀ a xs, SqT K H a xs → SqT K H' a xs
theorem Kt.refl {K : PySem.W.Frag} (H : Hp) : Kt K H H := fun _ _ h => h
theorem Kt.trans {K : PySem.W.Frag} {H H1 H2 : Hp} (a : Kt K H H1) (b : Kt K H1 H2) : Kt K H H2 := fun x o h => b x o (a x o h)
theorem Kt.ex {K : PySem.W.Frag} {H H' : Hp} (e : Ex H H') : Kt K H H' := fun _ _ h => ex_t e h
theorem Kt.c1 {K : PySem.W.Frag} {p : Addr} {xs : List V} {H H' : Hp} (hp : H p = some (.lst xs)) (c : C1 p H H') : Kt K H H' := fun a ys h => by
  rcases h with (h | ⟨o, h⟩) | h
  · exact .inl (.inl (c a _ (ne_of h hp (by intro z; cases z)) h))
  · exact .inl (.inr ⟨o, c a _ (ne_of h hp (by intro z; cases z)) h⟩)
  · exact .inr h

/-! ### what a value stands for -/
abbrev Rp (α : Type) := Hp → α → V → Prop
def rI : Rp Int := fun _ i v => v = .int i
def rB : Rp Bool := fun _ b v => v = .bl b
def rS : Rp Str := fun _ s v => v = .str s
def rN : Rp Unit := fun _ _ v => v = .non
/-- a tuple, a list of such -/
def rT {α : Type} (K : PySem.W.Frag) (R : Rp α) : Rp (List α) := fun H xs v => ∃ a vs, v = .ref a ∧ SqT K H a vs ∧ Paired (R H) xs vs
def rL {α : Type} (K : PySem.W.Frag) (R : Rp α) : Rp (List α) := fun H xs v => ∃ a vs, v = .ref a ∧ SqL K H a vs ∧ Paired (R H) xs vs
def r2 {α β : Type} (K : PySem.W.Frag) (R : Rp α) (S : Rp β) : Rp (α × β) := fun H x v => ∃ a u w, v = .ref a ∧ SqT K H a [u, w] ∧ R H x.1 u ∧ S H x.2 w
/-- stays while tuples stay -/
class Mkt {α : Type} (K : PySem.W.Frag) (R : Rp α) : Prop where
  kt : ∀ {H H' : Hp} {x : α} {v : V}, Kt K H H' → R H x v → R H' x v
/-- stays while all stays -/
class Me {α : Type} (R : Rp α) : Prop where
  ex : ∀ {H H' : Hp} {x : α} {v : V}, Ex H H' → R H x v → R H' x v
theorem pm {α β : Type} {F G : α → β → Prop} {l : List α} {m : List β} (h : Paired F l m) (f : ∀ a b, F a b → G a b) : Paired G l m := Paired.mapP h f

section
variable {α β γ : Type} {K : PySem.W.Frag} {H H' : Hp}
instance : Me rI := ⟨fun _ h => h⟩
instance : Me rB := ⟨fun _ h => h⟩
instance : Me rS := ⟨fun _ h => h⟩
instance : Me rN := ⟨fun _ h => h⟩
instance {R : Rp α} [r : Me R] : Me (rT K R) := ⟨fun e ⟨a, vs, h1, h2, h3⟩ => ⟨a, vs, h1, ex_t e h2, pm h3 fun _ _ z => r.ex e z⟩⟩
instance {R : Rp α} [r : Me R] : Me (rL K R) := ⟨fun e ⟨a, vs, h1, h2, h3⟩ => ⟨a, vs, h1, ex_l e h2, pm h3 fun _ _ z => r.ex e z⟩⟩
instance {R : Rp α} {S : Rp β} [r : Me R] [s : Me S] : Me (r2 K R S) := ⟨fun e ⟨a, u, w, h1, h2, h3, h4⟩ => ⟨a, u, w, h1, ex_t e h2, r.ex e h3, s.ex e h4⟩⟩
instance : Mkt K rI := ⟨fun _ h => h⟩
instance : Mkt K rB := ⟨fun _ h => h⟩
instance : Mkt K rS := ⟨fun _ h => h⟩
instance : Mkt K rN := ⟨fun _ h => h⟩
instance {R : Rp α} [r : Mkt K R] : Mkt K (rT K R) := ⟨fun e ⟨a, vs, h1, h2, h3⟩ => ⟨a, vs, h1, e _ _ h2, pm h3 fun _ _ z => r.kt e z⟩⟩
instance {R : Rp α} {S : Rp β} [r : Mkt K R] [s : Mkt K S] : Mkt K (r2 K R S) := ⟨fun e ⟨a, u, w, h1, h2, h3, h4⟩ => ⟨a, u, w, h1, e _ _ h2, r.kt e h3, s.kt e h4⟩⟩
/-- a list of this def's own, at p -/
def Lt (R : Rp α) (H : Hp) (p : Addr) (xs : List α) : Prop := ∃ vs, H p = some (.lst vs) ∧ Paired (R H) xs vs
theorem Lt.rl {R : Rp α} {p : Addr} {xs : List α} (h : Lt R H p xs) : rL K R H xs (.ref p) := let ⟨vs, h1, h2⟩ := h; ⟨p, vs, rfl, SqL.of h1, h2⟩
theorem Lt.ex {R : Rp α} [Me R] {p : Addr} {xs : List α} (h : Lt R H p xs) (e : Ex H H') : Lt R H' p xs := let ⟨vs, h1, h2⟩ := h; ⟨vs, e _ _ h1, pm h2 fun _ _ z => Me.ex e z⟩
theorem Lt.c1 {R : Rp α} [Mkt K R] {p q : Addr} {xs : List α} {ys : List V} (h : Lt R H p xs) (hq : H q = some (.lst ys)) (c : C1 q H H') (n : p ≠ q) : Lt R H' p xs := let ⟨vs, h1, h2⟩ := h; ⟨vs, c _ _ n h1, pm h2 fun _ _ z => Mkt.kt (Kt.c1 (K := K) hq c) z⟩

/-! ### ints by map -/
theorem pI : ∀ {xs : List Int} {vs : List V}, Paired (rI H) xs vs → vs = xs.map V.int
  | [], _, .nil => rfl
  | x :: xs, _, .cons r t => by
    have e : _ = V.int x := r
    rw [e, pI t]
    rfl
theorem pI' : ∀ (xs : List Int), Paired (rI H) xs (xs.map V.int)
  | [] => .nil
  | _ :: xs => .cons rfl (pI' xs)
theorem paired_len {F : α → β → Prop} : ∀ {l : List α} {m : List β}, Paired F l m → l.length = m.length
  | _, _, .nil => rfl
  | _, _, .cons _ t => by rw [List.length_cons, List.length_cons, paired_len t]
theorem paired_get {F : α → β → Prop} : ∀ {l : List α} {m : List β} {i : Nat} {x : α}, Paired F l m → l[i]? = some x → ∃ y, m[i]? = some y ∧ F x y
  | _, _, i, _, .nil, h => by simp at h
  | _, _, 0, _, .cons r _, h => by
    simp only [List.getElem?_cons_zero, Option.some.injEq] at h
    subst h
    exact ⟨_, rfl, r⟩
  | _, _, i + 1, _, .cons _ t, h => by
    simp only [List.getElem?_cons_succ] at h
    exact paired_get (i := i) t h
theorem paired_get' {F : α → β → Prop} : ∀ {l : List α} {m : List β} {i : Nat} {y : β}, Paired F l m → m[i]? = some y → ∃ x, l[i]? = some x ∧ F x y
  | _, _, i, _, .nil, h => by simp at h
  | _, _, 0, _, .cons r _, h => by
    simp only [List.getElem?_cons_zero, Option.some.injEq] at h
    subst h
    exact ⟨_, rfl, r⟩
  | _, _, i + 1, _, .cons _ t, h => by
    simp only [List.getElem?_cons_succ] at h
    exact paired_get' (i := i) t h
theorem paired_append {F : α → β → Prop} : ∀ {l l' : List α} {m m' : List β}, Paired F l m → Paired F l' m' → Paired F (l ++ l') (m ++ m')
  | _, _, _, _, .nil, h => h
  | _, _, _, _, .cons r t, h => .cons r (paired_append t h)
theorem paired_set {F : α → β → Prop} : ∀ {l : List α} {m : List β} (i : Nat) {x : α} {y : β}, Paired F l m → F x y → Paired F (l.set i x) (m.set i y)
  | _, _, _, _, _, .nil, _ => .nil
  | _, _, 0, _, _, .cons _ t, h => .cons h t
  | _, _, i + 1, _, _, .cons r t, h => .cons r (paired_set i t h)
theorem paired_take {F : α → β → Prop} : ∀ {l : List α} {m : List β} (n : Nat), Paired F l m → Paired F (l.take n) (m.take n)
  | _, _, 0, _ => .nil
  | _, _, _ + 1, .nil => .nil
  | _, _, n + 1, .cons r t => .cons r (paired_take n t)
theorem paired_drop {F : α → β → Prop} : ∀ {l : List α} {m : List β} (n : Nat), Paired F l m → Paired F (l.drop n) (m.drop n)
  | _, _, 0, h => h
  | _, _, _ + 1, .nil => .nil
  | _, _, n + 1, .cons _ t => paired_drop n t
theorem paired_rep {F : α → β → Prop} {x : α} {y : β} (h : F x y) : ∀ n : Nat, Paired F (List.replicate n x) (List.replicate n y)
  | 0 => .nil
  | n + 1 => .cons h (paired_rep h n)
theorem paired_reverse {F : α → β → Prop} : ∀ {l : List α} {m : List β}, Paired F l m → Paired F l.reverse m.reverse
  | _, _, .nil => .nil
  | _, _, .cons r t => by
    rw [List.reverse_cons, List.reverse_cons]
    exact paired_append (paired_reverse t) (.cons r .nil)

/-! ### a reading's value by what it stands for -/
def Er (R : Rp α) (t : TE) (σ : L2.St) (H : Hp) (x : α) : Prop := ∀ H1, Ex H H1 → ∀ Q : VK, (∀ v H2, Ex H1 H2 → R H2 x v → Q v H2) → t σ H1 Q
/-- a new list -/
def El (R : Rp α) (t : TE) (σ : L2.St) (H : Hp) (xs : List α) : Prop := ∀ H1, Ex H H1 → ∀ Q : VK, (∀ p H2, H1 p = none → Ex H1 H2 → Lt R H2 p xs → Q (.ref p) H2) → t σ H1 Q
abbrev Et := EvT
/-- arguments -/
def Ea (t : TA) (σ : L2.St) (H : Hp) (P : List V → Hp → Prop) : Prop := ∀ H1, Ex H H1 → ∀ Q : List V → Hp → Prop, (∀ vs H2, Ex H1 H2 → P vs H2 → Q vs H2) → t σ H1 Q

variable {σ : L2.St} {ta tb te : TE} {t u : TT} {R : Rp α} {S : Rp β} {x y z : α}
theorem Er.mono (h : Er R te σ H x) (e : Ex H H') : Er R te σ H' x := fun H1 a Q q => h H1 (e.trans a) Q q
theorem El.er {xs : List α} (h : El R te σ H xs) : Er (rL K R) te σ H xs := fun H1 e Q q => h H1 e Q fun p H2 _ e2 l => q _ H2 e2 l.rl
theorem er_is (h : Er R te σ H x) (e : x = y) : Er R te σ H y := e ▸ h
theorem er_var [Me R] {i : Nat} {v : V} (h : σ[i]? = some (some v)) (r : R H x v) : Er R (tVar i) σ H x := fun H1 e _ q => ⟨v, h, q v H1 (Ex.refl H1) (Me.ex e r)⟩
theorem er_iv {i : Nat} {k : Int} (h : σ[i]? = some (some (.int k)) := by rfl) : Er rI (tVar i) σ H k := fun H1 e _ q => ⟨_, h, q _ H1 (Ex.refl H1) rfl⟩
theorem er_bv {i : Nat} {k : Bool} (h : σ[i]? = some (some (.bl k)) := by rfl) : Er rB (tVar i) σ H k := fun H1 e _ q => ⟨_, h, q _ H1 (Ex.refl H1) rfl⟩
theorem er_int {k : Int} : Er rI (tC (.int k)) σ H k := fun H1 e _ q => q _ H1 (Ex.refl H1) rfl
theorem er_bl {k : Bool} : Er rB (tC (.bl k)) σ H k := fun H1 e _ q => q _ H1 (Ex.refl H1) rfl
theorem er_str {k : Str} : Er rS (tC (.str k)) σ H k := fun H1 e _ q => q _ H1 (Ex.refl H1) rfl
/-- ints: operators -/
theorem er_op0 {g : Int → Int → Int} {i j : Int} (ha : Er rI ta σ H i) (hb : Er rI tb σ H j) : Er rI (tOp (rI0 fun i j => V.int (g i j)) ta tb) σ H (g i j) := fun H1 e Q q =>
  ha H1 e _ fun v H2 e2 r1 => hb H2 (e.trans e2) _ fun w H3 e3 r2 => ⟨i, j, r1, r2, q _ H3 (e2.trans e3) rfl⟩
theorem er_op {C : Int → Int → Prop} {g : Int → Int → Int} {i j : Int} (ha : Er rI ta σ H i) (hb : Er rI tb σ H j) (hc : C i j) : Er rI (tOp (L2.rI C fun i j => V.int (g i j)) ta tb) σ H (g i j) := fun H1 e Q q =>
  ha H1 e _ fun v H2 e2 r1 => hb H2 (e.trans e2) _ fun w H3 e3 r2 => ⟨i, j, r1, r2, hc, q _ H3 (e2.trans e3) rfl⟩
theorem er_cmp {g : Int → Int → Bool} {i j : Int} (ha : Er rI ta σ H i) (hb : Er rI tb σ H j) : Er rB (tOp (rI0 fun i j => V.bl (g i j)) ta tb) σ H (g i j) := fun H1 e Q q =>
  ha H1 e _ fun v H2 e2 r1 => hb H2 (e.trans e2) _ fun w H3 e3 r2 => ⟨i, j, r1, r2, q _ H3 (e2.trans e3) rfl⟩
theorem er_neg {i : Int} (ha : Er rI ta σ H i) : Er rI (tUn (rU fun i => V.int (-i)) ta) σ H (-i) := fun H1 e Q q => ha H1 e _ fun v H2 e2 r1 => ⟨i, r1, q _ H2 e2 rfl⟩
theorem er_eqI {i j : Int} (ha : Er rI ta σ H i) (hb : Er rI tb σ H j) : Er rB (tOp rEq ta tb) σ H (decide (i = j)) := fun H1 e Q q =>
  ha H1 e _ fun v H2 e2 r1 => hb H2 (e.trans e2) _ fun w H3 e3 r2 => by
    cases r1; cases r2
    exact ⟨rfl, q _ H3 (e2.trans e3) (by show V.bl _ = V.bl _; congr 1; exact decide_eq_decide.mpr ⟨fun z => V.int.inj z, fun z => congrArg V.int z⟩)⟩
theorem er_neI {i j : Int} (ha : Er rI ta σ H i) (hb : Er rI tb σ H j) : Er rB (tOp rNe ta tb) σ H (!decide (i = j)) := fun H1 e Q q =>
  ha H1 e _ fun v H2 e2 r1 => hb H2 (e.trans e2) _ fun w H3 e3 r2 => by
    cases r1; cases r2
    exact ⟨rfl, q _ H3 (e2.trans e3) (by show V.bl _ = V.bl _; congr 2; exact decide_eq_decide.mpr ⟨fun z => V.int.inj z, fun z => congrArg V.int z⟩)⟩
/-- tests -/
theorem et_t {b : Bool} (h : Er rB te σ H b) : Et (tTest te) σ H b := fun H1 e _ q => h H1 e _ fun v H2 e2 r => ⟨b, r, q H2 e2⟩
theorem et_b {b : Bool} (h : Er rB te σ H b) : Et (tB te) σ H b := fun H1 e _ q => h H1 e _ fun v H2 e2 r => ⟨b, r, q H2 e2⟩
theorem er_andV {a b : Bool} (h1 : Er rB ta σ H a) (h2 : a = true → Er rB tb σ H b) : Er rB (tAndV ta tb) σ H (a && b) := fun H1 e Q q => h1 H1 e _ fun v H2 e2 r => ⟨a, r, by
  cases a with
  | true =>
    show tb σ H2 Q
    exact h2 rfl H2 (e.trans e2) Q fun w H3 e3 r3 => q w H3 (e2.trans e3) r3
  | false =>
    show Q (.bl false) H2
    exact q _ H2 e2 rfl⟩
theorem er_orV {a b : Bool} (h1 : Er rB ta σ H a) (h2 : a = false → Er rB tb σ H b) : Er rB (tOrV ta tb) σ H (a || b) := fun H1 e Q q => h1 H1 e _ fun v H2 e2 r => ⟨a, r, by
  cases a with
  | true =>
    show Q (.bl true) H2
    exact q _ H2 e2 rfl
  | false =>
    show tb σ H2 Q
    exact h2 rfl H2 (e.trans e2) Q fun w H3 e3 r3 => q w H3 (e2.trans e3) r3⟩
theorem er_notV {a : Bool} (h1 : Er rB ta σ H a) : Er rB (tNotV ta) σ H (!a) := fun H1 e Q q => h1 H1 e _ fun v H2 e2 r => ⟨a, r, q _ H2 e2 rfl⟩
theorem er_if {b : Bool} (h : Et t σ H b) (h1 : b = true → Er R ta σ H x) (h2 : b = false → Er R tb σ H y) : Er R (tIf t ta tb) σ H (if b = true then x else y) := fun H1 e Q q => h H1 e _ fun H2 e2 => by
  cases b with
  | true =>
    show ta σ H2 Q
    exact h1 rfl H2 (e.trans e2) Q fun w H3 e3 r3 => q w H3 (e2.trans e3) r3
  | false =>
    show tb σ H2 Q
    exact h2 rfl H2 (e.trans e2) Q fun w H3 e3 r3 => q w H3 (e2.trans e3) r3
/-- argument lists -/
def A0 : List V → Hp → Prop := fun vs _ => vs = []
def Ac (R : Rp α) (x : α) (P : List V → Hp → Prop) : List V → Hp → Prop := fun vs H => ∃ v r, vs = v :: r ∧ R H x v ∧ P r H
theorem ea0 : Ea tNil σ H A0 := fun H1 e Q q => q [] H1 (Ex.refl H1) rfl
theorem eac [Me R] {tr : TA} {P : List V → Hp → Prop} (h : Er R ta σ H x) (hr : Ea tr σ H P) : Ea (tCons ta tr) σ H (Ac R x P) := fun H1 e Q q =>
  h H1 e _ fun v H2 e2 r2 => hr H2 (e.trans e2) _ fun vs H3 e3 p => q (v :: vs) H3 (e2.trans e3) ⟨v, vs, rfl, Me.ex e3 r2, p⟩
/-- a def's promise: from P of its arguments to the value x -/
def Gv (sp : Sp) (P : List V → Hp → Prop) (R : Rp α) (x : α) : Prop := ∀ vs H1, P vs H1 → ∀ (Q : VK) (E : XK), (∀ v H2, Ex H1 H2 → R H2 x v → Q v H2) → sp vs H1 Q E
theorem er_call {sp : Sp} {E : XK} {tr : TA} {P : List V → Hp → Prop} (h : Ea tr σ H P) (g : Gv sp P R x) : Er R (tCall sp [] E tr) σ H x := fun H1 e Q q =>
  h H1 e _ fun vs H2 e2 p => by
    show sp (vs ++ []) H2 Q E
    rw [List.append_nil]
    exact g vs H2 p Q E fun v H3 e3 r => q v H3 (e2.trans e3) r
/-- a built-in's rule -/
def Gb (r : List V → Hp → VK → Prop) (P : List V → Hp → Prop) (R : Rp α) (x : α) : Prop := ∀ vs H1, P vs H1 → ∀ (Q : VK), (∀ v H2, Ex H1 H2 → R H2 x v → Q v H2) → r vs H1 Q
theorem er_cb {r : List V → Hp → VK → Prop} {tr : TA} {P : List V → Hp → Prop} (h : Ea tr σ H P) (g : Gb r P R x) : Er R (tCB r tr) σ H x := fun H1 e Q q =>
  h H1 e _ fun vs H2 e2 p => g vs H2 p Q fun v H3 e3 r => q v H3 (e2.trans e3) r

/-! ### statements -/
variable {D : Ends} {tu tw tz : TS} {j : Nat}
theorem s_asgI {i : Int} (h : Er rI te σ H i) (k : ∀ H1, Ex H H1 → D.nx (σ.set j (some (.int i))) H1) : tAsg te (gName j) D σ H := h H (Ex.refl H) _ fun v H1 e r => by
  cases r
  exact k H1 e
theorem s_asgB {i : Bool} (h : Er rB te σ H i) (k : ∀ H1, Ex H H1 → D.nx (σ.set j (some (.bl i))) H1) : tAsg te (gName j) D σ H := h H (Ex.refl H) _ fun v H1 e r => by
  cases r
  exact k H1 e
theorem s_asgS {i : Str} (h : Er rS te σ H i) (k : ∀ H1, Ex H H1 → D.nx (σ.set j (some (.str i))) H1) : tAsg te (gName j) D σ H := h H (Ex.refl H) _ fun v H1 e r => by
  cases r
  exact k H1 e
theorem s_asg (h : Er R te σ H x) (k : ∀ v H1, Ex H H1 → R H1 x v → D.nx (σ.set j (some v)) H1) : tAsg te (gName j) D σ H := h H (Ex.refl H) _ fun v H1 e r => k v H1 e r
theorem s_asgL {xs : List α} (h : El R te σ H xs) (k : ∀ p H1, H p = none → Ex H H1 → Lt R H1 p xs → D.nx (σ.set j (some (.ref p))) H1) : tAsg te (gName j) D σ H := h H (Ex.refl H) _ k
theorem s_ret (h : Er R te σ H x) (k : ∀ v H1, Ex H H1 → R H1 x v → D.rt v H1) : tRet te D σ H := h H (Ex.refl H) _ k
theorem s_drop (h : Er R te σ H x) (k : ∀ H1, Ex H H1 → D.nx σ H1) : tDrop te D σ H := h H (Ex.refl H) _ fun _ H1 e _ => k H1 e
theorem s_if {b : Bool} (h : Et t σ H b) (h1 : b = true → ∀ H1, Ex H H1 → tu D σ H1) (h2 : b = false → ∀ H1, Ex H H1 → tw D σ H1) : tIfS t tu tw D σ H := Evl.s_if h h1 h2
theorem s_when {b : Bool} (h : Et t σ H b) (h1 : b = true → ∀ H1, Ex H H1 → tu D σ H1) (h2 : b = false → ∀ H1, Ex H H1 → D.nx σ H1) : tIfS t tu tNext D σ H := Evl.s_if h h1 h2
theorem sz0 {n : Nat} (h : n < 1000000) : n < sizeLine := Nat.lt_of_lt_of_le h (by decide)
theorem sz1 {n : Nat} (h : n ≤ 1000000) : n ≤ sizeLine := Nat.le_trans h (by decide)
/-- xs.append(e): an own list -/
theorem s_app [Mkt K R] {l : Addr} {xs : List α} (hl : Lt R H l xs) (hi : σ[j]? = some (some (.ref l))) (h : Er R te σ H x) (hz : xs.length < 1000000) (k : ∀ H1, C1 l H H1 → Lt R H1 l (xs ++ [x]) → D.nx σ H1) :
    tDrop (tBM K "list" rAppend (tVar j) (tCons te tNil)) D σ H := by
  obtain ⟨vs, h1, h2⟩ := hl
  refine ⟨_, hi, .inl ⟨rfl, vs, SqL.of h1⟩, ?_⟩
  refine h H (Ex.refl H) _ fun v H1 e r => ⟨l, vs, v, rfl, rfl, e _ _ h1, ?_, ?_⟩
  · rw [← paired_len h2]
    exact sz0 hz
  · have kt1 : Kt K H1 (upd H1 l (.lst (vs ++ [v]))) := Kt.c1 (e _ _ h1) (C1.up (C1.refl l H1))
    exact k _ (C1.up (C1.ex e)) ⟨_, upd_same, paired_append (pm h2 fun _ _ z => Mkt.kt ((Kt.ex (K := K) e).trans kt1) z) (.cons (Mkt.kt kt1 r) .nil)⟩
theorem s_while (W : Nat → L2.St → Hp → Prop) (m0 : Nat) (h0 : W m0 σ H)
    (hs : ∀ m σ' H', W m σ' H' → ∃ b, Et t σ' H' b ∧ (b = true → ∀ H1, Ex H' H1 → ∃ N : L2.St → Hp → Prop, (∀ σ2 H2, N σ2 H2 → ∃ m', m' < m ∧ W m' σ2 H2) ∧ tu { D with nx := N, ct := N, bk := D.nx } σ' H1) ∧ (b = false → ∀ H1, Ex H' H1 → D.nx σ' H1)) : tWhile t tu D σ H := Evl.s_while W m0 h0 hs

/-! ### more values: lists and tuples read -/
theorem er_sv {i : Nat} {k : Str} (h : σ[i]? = some (some (.str k)) := by rfl) : Er rS (tVar i) σ H k := fun H1 e _ q => ⟨_, h, q _ H1 (Ex.refl H1) rfl⟩
theorem er_nv {i : Nat} (h : σ[i]? = some (some .non) := by rfl) : Er rN (tVar i) σ H () := fun H1 e _ q => ⟨_, h, q _ H1 (Ex.refl H1) rfl⟩
theorem er_non : Er rN (tC .non) σ H () := fun H1 e _ q => q _ H1 (Ex.refl H1) rfl
/-- go on with an int at hand -/
theorem go_I {Q : VK} {i : Int} (h : Er rI te σ H i) (k : ∀ H1, Ex H H1 → Q (.int i) H1) : te σ H Q := h H (Ex.refl H) _ fun v H1 e r => by cases r; exact k H1 e
theorem go_R {Q : VK} (h : Er R te σ H x) (k : ∀ v H1, Ex H H1 → R H1 x v → Q v H1) : te σ H Q := h H (Ex.refl H) _ k
theorem go_L {Q : VK} {xs : List α} (h : El R te σ H xs) (k : ∀ p H1, H p = none → Ex H H1 → Lt R H1 p xs → Q (.ref p) H1) : te σ H Q := h H (Ex.refl H) _ k
/-- the place of an index -/
def ixs (n : Nat) (i : Int) : Nat := if 0 ≤ i then i.toNat else (i + n).toNat
theorem ixN_ixs {n : Nat} {i : Int} (h1 : -(n : Int) ≤ i) (h2 : i < n) : ixN n i = some (ixs n i) ∧ ixs n i < n := by
  unfold ixN ixs
  by_cases h : 0 ≤ i
  · rw [if_pos h, if_pos h2, if_pos h]
    exact ⟨rfl, by omega⟩
  · rw [if_neg h, if_pos h1, if_neg h]
    exact ⟨rfl, by omega⟩
theorem atI_ixs {xs : List V} {i : Int} {v : V} (h1 : -(xs.length : Int) ≤ i) (h2 : i < xs.length) (h : xs[ixs xs.length i]? = some v) : atI xs i = some v := by
  unfold atI
  rw [(ixN_ixs h1 h2).1]
  exact h
theorem er_ixL [Me R] {xs : List α} {i : Int} (ha : Er (rL K R) ta σ H xs) (hb : Er rI tb σ H i) (h1 : -(xs.length : Int) ≤ i) (h2 : i < xs.length) (hx : xs[ixs xs.length i]? = some x) : Er R (tOp (rIxL K) ta tb) σ H x := fun H1 e Q q =>
  ha H1 e _ fun v H2 e2 r1 => hb H2 (e.trans e2) _ fun w H3 e3 r2 => by
    cases r2
    obtain ⟨a, vs, rfl, hs, hp⟩ := r1
    obtain ⟨u, hu, ru⟩ := paired_get hp hx
    have hl := paired_len hp
    rw [hl] at h1 h2 hu
    exact ⟨a, vs, i, u, rfl, rfl, ex_l e3 hs, atI_ixs h1 h2 hu, q u H3 (e2.trans e3) (Me.ex e3 ru)⟩
theorem er_ixT [Me R] {xs : List α} {i : Int} (ha : Er (rT K R) ta σ H xs) (hb : Er rI tb σ H i) (h1 : -(xs.length : Int) ≤ i) (h2 : i < xs.length) (hx : xs[ixs xs.length i]? = some x) : Er R (tOp (rIxT K) ta tb) σ H x := fun H1 e Q q =>
  ha H1 e _ fun v H2 e2 r1 => hb H2 (e.trans e2) _ fun w H3 e3 r2 => by
    cases r2
    obtain ⟨a, vs, rfl, hs, hp⟩ := r1
    obtain ⟨u, hu, ru⟩ := paired_get hp hx
    have hl := paired_len hp
    rw [hl] at h1 h2 hu
    exact ⟨a, vs, i, u, rfl, rfl, ex_t e3 hs, atI_ixs h1 h2 hu, q u H3 (e2.trans e3) (Me.ex e3 ru)⟩
/-- by a place from 0 on -/
def gt0 (d : α) (xs : List α) (i : Int) : α := (xs[ixs xs.length i]?).getD d
theorem gt0_nat (d : α) (xs : List α) (i : Nat) : gt0 d xs (i : Int) = (xs[i]?).getD d := by unfold gt0 ixs; rw [if_pos (by omega)]; rfl
theorem gt0_some {d : α} {xs : List α} {i : Int} (h1 : -(xs.length : Int) ≤ i) (h2 : i < xs.length) : xs[ixs xs.length i]? = some (gt0 d xs i) := by
  have h := (ixN_ixs h1 h2).2
  unfold gt0
  rw [List.getElem?_eq_getElem h]
  rfl
theorem er_ixL0 [Me R] (d : α) {xs : List α} {i : Int} (ha : Er (rL K R) ta σ H xs) (hb : Er rI tb σ H i) (h1 : -(xs.length : Int) ≤ i) (h2 : i < xs.length) : Er R (tOp (rIxL K) ta tb) σ H (gt0 d xs i) := er_ixL ha hb h1 h2 (gt0_some h1 h2)
theorem er_ixT0 [Me R] (d : α) {xs : List α} {i : Int} (ha : Er (rT K R) ta σ H xs) (hb : Er rI tb σ H i) (h1 : -(xs.length : Int) ≤ i) (h2 : i < xs.length) : Er R (tOp (rIxT K) ta tb) σ H (gt0 d xs i) := er_ixT ha hb h1 h2 (gt0_some h1 h2)
/-- len -/
def rLenQ (K : PySem.W.Frag) : List V → Hp → VK → Prop := fun xs H Q => ∃ p ys, xs = [.ref p] ∧ (SqL K H p ys ∨ SqT K H p ys) ∧ Q (.int ys.length) H
theorem er_lenL {xs : List α} (ha : Er (rL K R) ta σ H xs) : Er rI (tCB (rLenQ K) (tCons ta tNil)) σ H (xs.length : Int) := fun H1 e Q q =>
  ha H1 e _ fun v H2 e2 ⟨a, vs, h1, hs, hp⟩ => ⟨a, vs, by rw [h1], .inl hs, q _ H2 e2 (by show V.int _ = V.int _; rw [paired_len hp])⟩
theorem er_lenT {xs : List α} (ha : Er (rT K R) ta σ H xs) : Er rI (tCB (rLenQ K) (tCons ta tNil)) σ H (xs.length : Int) := fun H1 e Q q =>
  ha H1 e _ fun v H2 e2 ⟨a, vs, h1, hs, hp⟩ => ⟨a, vs, by rw [h1], .inr hs, q _ H2 e2 (by show V.int _ = V.int _; rw [paired_len hp])⟩
theorem er_lenS {z : Str} (ha : Er rS ta σ H z) (hz : z.length ≤ 1000000) : Er rI (tCB (fun xs H Q => ∃ z, xs = [.str z] ∧ z.length ≤ sizeLine ∧ Q (.int z.length) H) (tCons ta tNil)) σ H (z.length : Int) := fun H1 e Q q =>
  ha H1 e _ fun v H2 e2 h => ⟨z, by rw [h], sz1 hz, q _ H2 e2 rfl⟩
theorem er_abs {i : Int} (ha : Er rI ta σ H i) : Er rI (tCB (fun xs H Q => ∃ i, xs = [.int i] ∧ Q (.int (if i < 0 then -i else i)) H) (tCons ta tNil)) σ H (if i < 0 then -i else i) := fun H1 e Q q =>
  ha H1 e _ fun v H2 e2 h => ⟨i, by rw [h], q _ H2 e2 rfl⟩
theorem er_max2 {i j : Int} (ha : Er rI ta σ H i) (hb : Er rI tb σ H j) : Er rI (tCB (fun xs H Q => ∃ i j, xs = [.int i, .int j] ∧ Q (.int (if j > i then j else i)) H) (tCons ta (tCons tb tNil))) σ H (if j > i then j else i) := fun H1 e Q q =>
  ha H1 e _ fun v H2 e2 h => hb H2 (e.trans e2) _ fun w H3 e3 h' => ⟨i, j, by rw [h, h'], q _ H3 (e2.trans e3) rfl⟩
theorem er_min2 {i j : Int} (ha : Er rI ta σ H i) (hb : Er rI tb σ H j) : Er rI (tCB (fun xs H Q => ∃ i j, xs = [.int i, .int j] ∧ Q (.int (if j < i then j else i)) H) (tCons ta (tCons tb tNil))) σ H (if j < i then j else i) := fun H1 e Q q =>
  ha H1 e _ fun v H2 e2 h => hb H2 (e.trans e2) _ fun w H3 e3 h' => ⟨i, j, by rw [h, h'], q _ H3 (e2.trans e3) rfl⟩
theorem er_intB {b : Bool} (ha : Er rB ta σ H b) : Er rI (tCB (fun xs H Q => (∃ i, xs = [.int i] ∧ Q (.int i) H) ∨ ∃ k, xs = [.bl k] ∧ Q (.int (if k then 1 else 0)) H) (tCons ta tNil)) σ H (if b then 1 else 0) := fun H1 e Q q =>
  ha H1 e _ fun v H2 e2 h => .inr ⟨b, by rw [h], q _ H2 e2 rfl⟩
/-- displays: the items one by one -/
def As (R : Rp α) (xs : List α) : List V → Hp → Prop := fun vs H => Paired (R H) xs vs
theorem eas0 : Ea tNil σ H (As R []) := fun H1 e Q q => q [] H1 (Ex.refl H1) .nil
theorem eas [Me R] {tr : TA} {xs : List α} (h : Er R ta σ H x) (hr : Ea tr σ H (As R xs)) : Ea (tCons ta tr) σ H (As R (x :: xs)) := fun H1 e Q q =>
  h H1 e _ fun v H2 e2 r2 => hr H2 (e.trans e2) _ fun vs H3 e3 p => q (v :: vs) H3 (e2.trans e3) (.cons (Me.ex e3 r2) p)
theorem el_lst [Me R] {tr : TA} {xs : List α} (h : Ea tr σ H (As R xs)) (hl : xs.length ≤ 1000000) : El R (tLst tr) σ H xs := fun H1 e Q q =>
  h H1 e _ fun vs H2 e2 p => ⟨by rw [← paired_len p]; exact sz1 hl, fun a ha => q a _ (fresh_back e2 ha) (e2.trans (Ex.new ha)) ⟨vs, upd_same, pm p fun _ _ z => Me.ex (Ex.new ha) z⟩⟩
theorem er_tup [Me R] {tr : TA} {xs : List α} (h : Ea tr σ H (As R xs)) (hl : xs.length ≤ 1000000) : Er (rT K R) (tTup tr) σ H xs := fun H1 e Q q =>
  h H1 e _ fun vs H2 e2 p => ⟨by rw [← paired_len p]; exact sz1 hl, fun a ha => q _ _ (e2.trans (Ex.new ha)) ⟨a, vs, rfl, SqT.of upd_same, pm p fun _ _ z => Me.ex (Ex.new ha) z⟩⟩
theorem s_retL {D : Ends} {σ : L2.St} {H : Hp} {p : Addr} {i : Nat} (hi : σ[i]? = some (some (.ref p))) (k : D.rt (.ref p) H) : tRet (tVar i) D σ H := ⟨_, hi, k⟩

/-! ### for -/
def Fl (J : It) (g : TG) (tb : TS) (D : Ends) (σ : L2.St) (H : Hp) : Prop := ∃ W : Nat → Nat → L2.St → Hp → Prop, (∃ m, W 0 m σ H) ∧ ∀ i m σ H, W i m σ H →
  (J.stop i H ∧ D.nx σ H) ∨ (J.go i H ∧ ∃ N : L2.St → Hp → Prop, (∀ σ' H', N σ' H' → ∃ m', m' < m ∧ W (i + 1) m' σ' H') ∧ ∀ x H', J.yld i H x H' → g x σ H' fun σ2 H2 => tb { D with nx := N, ct := N, bk := D.nx } σ2 H2)
/-- so many numbers from lo on -/
def rng (lo hi : Int) : List Int := (List.range (hi - lo).toNat).map fun (k : Nat) => lo + (k : Int)
theorem rng_len (lo hi : Int) : (rng lo hi).length = (hi - lo).toNat := by unfold rng; rw [List.length_map, List.length_range]
theorem rng_get {lo hi : Int} {i : Nat} (h : i < (hi - lo).toNat) : (rng lo hi)[i]? = some (lo + (i : Int)) := by
  unfold rng
  rw [List.getElem?_map, List.getElem?_range h]
  rfl
theorem rng_at {lo hi x : Int} {i : Nat} (h : (rng lo hi)[i]? = some x) : x = lo + (i : Int) ∧ lo ≤ x ∧ x < hi := by
  have hl := (List.getElem?_eq_some_iff.mp h).1
  rw [rng_len] at hl
  rw [rng_get hl] at h
  have := Option.some.inj h
  omega
theorem take_all {xs : List α} : xs.take xs.length = xs := List.take_length
theorem fold_snoc {σ' ι : Type} {f : σ' → ι → σ'} {b s : σ'} {xs : List ι} {i : Nat} {x : ι} (h : s = List.foldl f b (List.take i xs)) (hx : xs[i]? = some x) : f s x = List.foldl f b (List.take (i + 1) xs) := by
  rw [List.take_add_one, hx, List.foldl_append, h]
  rfl
/-- a list's items by their places -/
def enm (xs : List α) : List (Int × α) := xs.zipIdx.map fun p => ((p.2 : Int), p.1)
theorem enm_len (xs : List α) : (enm xs).length = xs.length := by unfold enm; rw [List.length_map, List.length_zipIdx]
theorem enm_get {xs : List α} {i : Nat} {x : α} (h : xs[i]? = some x) : (enm xs)[i]? = some ((i : Int), x) := by
  unfold enm
  rw [List.getElem?_map, List.getElem?_zipIdx, h]
  simp
theorem enm_at {xs : List α} {i : Nat} {x : Int × α} (h : (enm xs)[i]? = some x) : x.1 = (i : Int) ∧ xs[i]? = some x.2 := by
  have hl := (List.getElem?_eq_some_iff.mp h).1
  rw [enm_len] at hl
  have e := enm_get (List.getElem?_eq_getElem hl)
  rw [e] at h
  have := Option.some.inj h
  rw [← this]
  exact ⟨rfl, List.getElem?_eq_getElem hl⟩
theorem s_forT {tl : TE} {g : TG} {xs : List α} (h : Er (rT K R) tl σ H xs) (k : ∀ v H1, Ex H H1 → rT K R H1 xs v → ∀ a, v = .ref a → Fl (Itt K a) g tu D σ H1) : tFor (iTup K tl) g tu D σ H :=
  h H (Ex.refl H) _ fun v H1 e r => by
    obtain ⟨a, vs, h1, h2, h3⟩ := id r
    exact ⟨a, h1, ⟨vs, h2⟩, k v H1 e r a h1⟩
theorem s_forL {tl : TE} {g : TG} {xs : List α} (h : Er (rL K R) tl σ H xs) (k : ∀ v H1, Ex H H1 → rL K R H1 xs v → ∀ a, v = .ref a → Fl (Itl K a) g tu D σ H1) : tFor (iList K tl) g tu D σ H :=
  h H (Ex.refl H) _ fun v H1 e r => by
    obtain ⟨a, vs, h1, h2, h3⟩ := id r
    exact ⟨a, h1, ⟨vs, h2⟩, k v H1 e r a h1⟩
theorem s_forR1 {ta : TE} {g : TG} {hi : Int} (h : Er rI ta σ H hi) (hb : -(2 ^ 62) ≤ hi ∧ hi < 2 ^ 62) (k : ∀ H1, Ex H H1 → Fl (Itr 0 hi.toNat) g tu D σ H1) : tFor (iRng1 (tCons ta tNil)) g tu D σ H :=
  h H (Ex.refl H) _ fun v H1 e r => by
    cases r
    exact ⟨hi, rfl, hb.1, hb.2, k H1 e⟩
theorem s_forR2 {ta tb : TE} {g : TG} {lo hi : Int} (h : Er rI ta σ H lo) (h' : Er rI tb σ H hi) (hb : -(2 ^ 62) ≤ lo ∧ lo < 2 ^ 62 ∧ -(2 ^ 62) ≤ hi ∧ hi < 2 ^ 62) (k : ∀ H1, Ex H H1 → Fl (Itr lo (hi - lo).toNat) g tu D σ H1) : tFor (iRng2 (tCons ta (tCons tb tNil))) g tu D σ H :=
  h H (Ex.refl H) _ fun v H1 e r => h' H1 e _ fun v' H2 e2 r' => by
    cases r
    cases r'
    exact ⟨lo, hi, rfl, hb, k H2 (e.trans e2)⟩
theorem s_forEL {ta : TE} {g : TG} {xs : List α} (h : Er (rL K R) ta σ H xs) (k : ∀ v H1, Ex H H1 → rL K R H1 xs v → ∀ a, v = .ref a → Fl (Ite K a) g tu D σ H1) : tFor (iEnum K (tCons ta tNil)) g tu D σ H :=
  h H (Ex.refl H) _ fun v H1 e r => by
    obtain ⟨a, vs, h1, h2, h3⟩ := id r
    exact ⟨a, vs, by rw [h1], h2, k v H1 e r a h1⟩

theorem fl_core {J : It} {n : Nat} {g : TG} (Pv : Nat → L2.St → Hp → Prop) (h0 : Pv 0 σ H) (go : ∀ i σ H', i < n → Pv i σ H' → J.go i H') (stop : ∀ σ H', Pv n σ H' → J.stop n H')
    (hs : ∀ i x σ H' H'', i < n → Pv i σ H' → J.yld i H' x H'' → g x σ H'' fun σ2 H2 => tu { D with nx := Pv (i + 1), ct := Pv (i + 1), bk := D.nx } σ2 H2) (hd : ∀ σ H', Pv n σ H' → D.nx σ H') : Fl J g tu D σ H := by
  refine ⟨fun i m σ H => m = n - i ∧ i ≤ n ∧ Pv i σ H, ⟨n, by simp, Nat.zero_le _, h0⟩, ?_⟩
  rintro i m σ H ⟨rfl, hi, p⟩
  by_cases hlt : i < n
  · exact .inr ⟨go i σ H hlt p, Pv (i + 1), fun σ' H' p' => ⟨n - (i + 1), by omega, rfl, hlt, p'⟩, fun x H' y => hs i x σ H H' hlt p y⟩
  · have e : i = n := by omega
    subst e
    exact .inl ⟨stop σ H p, hd σ H p⟩
theorem fl_T {xs : List α} {v : V} (r : rT K R H xs v) (Pv : Nat → L2.St → Hp → Prop) (h0 : Pv 0 σ H) (hG : ∀ i σ H', i ≤ xs.length → Pv i σ H' → rT K R H' xs v)
    (hs : ∀ i x u σ H', i < xs.length → xs[i]? = some x → Pv i σ H' → R H' x u → tu { D with nx := Pv (i + 1), ct := Pv (i + 1), bk := D.nx } (σ.set j (some u)) H') (hd : ∀ σ H', Pv xs.length σ H' → D.nx σ H') :
    ∀ a, v = .ref a → Fl (Itt K a) (gName j) tu D σ H := by
  rintro a rfl
  refine fl_core Pv h0 (fun i σ H' hi p => ?_) (fun σ H' p => ?_) (fun i x σ H' H'' hi p y => ?_) hd
  · obtain ⟨_, vs, h1, h2, h3⟩ := hG i σ H' (by omega) p
    cases h1
    have hl := paired_len h3
    exact ⟨vs, vs[i]'(by omega), h2, List.getElem?_eq_getElem _⟩
  · obtain ⟨_, vs, h1, h2, h3⟩ := hG _ σ H' (Nat.le_refl _) p
    cases h1
    exact ⟨vs, h2, by rw [paired_len h3]; exact Nat.le_refl _⟩
  · obtain ⟨_, vs, h1, h2, h3⟩ := hG i σ H' (by omega) p
    cases h1
    obtain ⟨rfl, y⟩ := y
    have hx := y vs h2
    obtain ⟨z, hz, rz⟩ := paired_get' h3 hx
    exact hs i z x σ H'' hi hz p rz
theorem fl_L {xs : List α} {v : V} (r : rL K R H xs v) (Pv : Nat → L2.St → Hp → Prop) (h0 : Pv 0 σ H) (hG : ∀ i σ H', i ≤ xs.length → Pv i σ H' → rL K R H' xs v)
    (hs : ∀ i x u σ H', i < xs.length → xs[i]? = some x → Pv i σ H' → R H' x u → tu { D with nx := Pv (i + 1), ct := Pv (i + 1), bk := D.nx } (σ.set j (some u)) H') (hd : ∀ σ H', Pv xs.length σ H' → D.nx σ H') :
    ∀ a, v = .ref a → Fl (Itl K a) (gName j) tu D σ H := by
  rintro a rfl
  refine fl_core Pv h0 (fun i σ H' hi p => ?_) (fun σ H' p => ?_) (fun i x σ H' H'' hi p y => ?_) hd
  · obtain ⟨_, vs, h1, h2, h3⟩ := hG i σ H' (by omega) p
    cases h1
    have hl := paired_len h3
    exact ⟨vs, vs[i]'(by omega), h2, List.getElem?_eq_getElem _⟩
  · obtain ⟨_, vs, h1, h2, h3⟩ := hG _ σ H' (Nat.le_refl _) p
    cases h1
    exact ⟨vs, h2, by rw [paired_len h3]; exact Nat.le_refl _⟩
  · obtain ⟨_, vs, h1, h2, h3⟩ := hG i σ H' (by omega) p
    cases h1
    obtain ⟨rfl, y⟩ := y
    have hx := y vs h2
    obtain ⟨z, hz, rz⟩ := paired_get' h3 hx
    exact hs i z x σ H'' hi hz p rz
theorem fl_TI {xs : List Int} {v : V} (r : rT K rI H xs v) (Pv : Nat → L2.St → Hp → Prop) (h0 : Pv 0 σ H) (hG : ∀ i σ H', i ≤ xs.length → Pv i σ H' → rT K rI H' xs v)
    (hs : ∀ i x σ H', i < xs.length → xs[i]? = some x → Pv i σ H' → tu { D with nx := Pv (i + 1), ct := Pv (i + 1), bk := D.nx } (σ.set j (some (.int x))) H') (hd : ∀ σ H', Pv xs.length σ H' → D.nx σ H') :
    ∀ a, v = .ref a → Fl (Itt K a) (gName j) tu D σ H := fl_T r Pv h0 hG (fun i x u σ H' hi hx p r => by cases r; exact hs i x σ H' hi hx p) hd
theorem fl_LI {xs : List Int} {v : V} (r : rL K rI H xs v) (Pv : Nat → L2.St → Hp → Prop) (h0 : Pv 0 σ H) (hG : ∀ i σ H', i ≤ xs.length → Pv i σ H' → rL K rI H' xs v)
    (hs : ∀ i x σ H', i < xs.length → xs[i]? = some x → Pv i σ H' → tu { D with nx := Pv (i + 1), ct := Pv (i + 1), bk := D.nx } (σ.set j (some (.int x))) H') (hd : ∀ σ H', Pv xs.length σ H' → D.nx σ H') :
    ∀ a, v = .ref a → Fl (Itl K a) (gName j) tu D σ H := fl_L r Pv h0 hG (fun i x u σ H' hi hx p r => by cases r; exact hs i x σ H' hi hx p) hd
theorem fl_R {lo hi : Int} {n : Nat} (hn : n = (hi - lo).toNat) (Pv : Nat → L2.St → Hp → Prop) (h0 : Pv 0 σ H)
    (hs : ∀ i x σ H', i < (rng lo hi).length → (rng lo hi)[i]? = some x → Pv i σ H' → tu { D with nx := Pv (i + 1), ct := Pv (i + 1), bk := D.nx } (σ.set j (some (.int x))) H') (hd : ∀ σ H', Pv (rng lo hi).length σ H' → D.nx σ H') :
    Fl (Itr lo n) (gName j) tu D σ H := by
  subst hn
  have hl := rng_len lo hi
  refine fl_core (n := (hi - lo).toNat) Pv h0 (fun i σ H' hi p => hi) (fun σ H' p => Nat.le_refl _) (fun i x σ H' H'' hi p y => ?_) (fun σ H' p => hd σ H' (by rw [hl]; exact p))
  obtain ⟨rfl, rfl⟩ := y
  exact hs i _ σ H'' (by omega) (rng_get hi) p
/-- a pair's targets -/
abbrev g2 (K : PySem.W.Frag) (i j : Nat) : TG := gTup K 2 (gCons (gName i) (gCons (gName j) gNil))
theorem fl_EL {i0 : Nat} {xs : List α} {v : V} (r : rL K R H xs v) (Pv : Nat → L2.St → Hp → Prop) (h0 : Pv 0 σ H) (hG : ∀ i σ H', i ≤ xs.length → Pv i σ H' → rL K R H' xs v)
    (hs : ∀ i x u σ H' H'', i < (enm xs).length → (enm xs)[i]? = some x → Pv i σ H' → Ex H' H'' → R H' x.2 u → tu { D with nx := Pv (i + 1), ct := Pv (i + 1), bk := D.nx } ((σ.set i0 (some (.int x.1))).set j (some u)) H'') (hd : ∀ σ H', Pv (enm xs).length σ H' → D.nx σ H') :
    ∀ a, v = .ref a → Fl (Ite K a) (g2 K i0 j) tu D σ H := by
  rintro a rfl
  have hle := enm_len xs
  refine fl_core (n := xs.length) Pv h0 (fun i σ H' hi p => ?_) (fun σ H' p => ?_) (fun i x σ H' H'' hi p y => ?_) (fun σ H' p => hd σ H' (by rw [hle]; exact p))
  · obtain ⟨_, vs, h1, h2, h3⟩ := hG i σ H' (by omega) p
    cases h1
    have hl := paired_len h3
    exact ⟨vs, vs[i]'(by omega), h2, List.getElem?_eq_getElem _⟩
  · obtain ⟨_, vs, h1, h2, h3⟩ := hG _ σ H' (Nat.le_refl _) p
    cases h1
    exact ⟨vs, h2, by rw [paired_len h3]; exact Nat.le_refl _⟩
  · obtain ⟨_, vs, h1, h2, h3⟩ := hG i σ H' (by omega) p
    cases h1
    obtain ⟨T, u, rfl, nT, rfl, y⟩ := y
    have hx := y vs h2
    obtain ⟨z, hz, rz⟩ := paired_get' h3 hx
    exact ⟨T, [.int (i : Nat), u], rfl, SqT.of upd_same, rfl, _, _, rfl, _, _, rfl, rfl, hs i ((i : Int), z) u σ H' _ (by omega) (enm_get hz) p (Ex.new nT) rz⟩
theorem fl_ELI {i0 : Nat} {xs : List Int} {v : V} (r : rL K rI H xs v) (Pv : Nat → L2.St → Hp → Prop) (h0 : Pv 0 σ H) (hG : ∀ i σ H', i ≤ xs.length → Pv i σ H' → rL K rI H' xs v)
    (hs : ∀ i x σ H' H'', i < (enm xs).length → (enm xs)[i]? = some x → Pv i σ H' → Ex H' H'' → tu { D with nx := Pv (i + 1), ct := Pv (i + 1), bk := D.nx } ((σ.set i0 (some (.int x.1))).set j (some (.int x.2))) H'') (hd : ∀ σ H', Pv (enm xs).length σ H' → D.nx σ H') :
    ∀ a, v = .ref a → Fl (Ite K a) (g2 K i0 j) tu D σ H := fl_EL r Pv h0 hG (fun i x u σ H' H'' hi hx p e r => by cases r; exact hs i x σ H' H'' hi hx p e) hd

/-! ### own lists kept -/
theorem Lt.ne {p q : Addr} {xs : List α} (h : Lt R H p xs) (hq : H q = none) : p ≠ q := let ⟨_, h1, _⟩ := h; ne_of_none h1 hq
theorem Lt.kt {p : Addr} {xs : List α} (h : Lt R H p xs) (c : C1 p H H') : Kt K H H' := let ⟨_, h1, _⟩ := h; Kt.c1 h1 c
theorem Lt.keep [Mkt K R] {p q : Addr} {xs : List α} (h : Lt R H q xs) (kt : Kt K H H') (c : C1 p H H') (n : q ≠ p) : Lt R H' q xs := let ⟨vs, h1, h2⟩ := h; ⟨vs, c _ _ n h1, pm h2 fun _ _ z => Mkt.kt kt z⟩
/-- xs[i] = e: an own list -/
theorem s_set [Mkt K R] {l : Addr} {xs : List α} {i : Int} (hl : Lt R H l xs) (hj : σ[j]? = some (some (.ref l))) (h : Er R te σ H x) (hi : Er rI tb σ H i) (h1 : -(xs.length : Int) ≤ i) (h2 : i < xs.length)
    (k : ∀ H1, C1 l H H1 → Lt R H1 l (xs.set (ixs xs.length i) x) → D.nx σ H1) : tAsg te (gSub (tVar j) tb rSetL) D σ H := by
  obtain ⟨vs, e1, e2⟩ := hl
  refine h H (Ex.refl H) _ fun v H1 ex1 r => ⟨_, hj, ?_⟩
  refine hi H1 ex1 _ fun u H2 ex2 ri => ?_
  cases ri
  have hl := paired_len e2
  have e3 : H2 l = some (.lst vs) := ex2 _ _ (ex1 _ _ e1)
  refine ⟨l, vs, i, ixs xs.length i, rfl, rfl, e3, by rw [← hl]; exact (ixN_ixs h1 h2).1, ?_⟩
  have kt1 : Kt K H2 (upd H2 l (.lst (vs.set (ixs xs.length i) v))) := Kt.c1 e3 (C1.up (C1.refl l H2))
  exact k _ (C1.up (C1.ex (ex1.trans ex2))) ⟨_, upd_same, paired_set _ (pm e2 fun _ _ z => Mkt.kt ((Kt.ex (K := K) (ex1.trans ex2)).trans kt1) z) (Mkt.kt ((Kt.ex (K := K) ex2).trans kt1) r)⟩
/-! ### new lists -/
theorem el_own [Me R] {p : Addr} {xs : List α} {i : Nat} : True := trivial
theorem el_cat [Me R] {xs ys : List α} (ha : El R ta σ H xs) (hb : El R tb σ H ys) (hl : xs.length + ys.length ≤ 1000000) : El R (tOp rCat ta tb) σ H (xs ++ ys) := fun H1 e Q q =>
  ha H1 e _ fun p H2 n2 e2 l2 => hb H2 (e.trans e2) _ fun p' H3 n3 e3 l3 => by
    obtain ⟨vs, h1, h2⟩ := l2
    obtain ⟨ws, h3, h4⟩ := l3
    refine ⟨p, p', vs, ws, rfl, rfl, e3 _ _ h1, h3, by rw [← paired_len h2, ← paired_len h4]; exact sz1 hl, fun a na => ?_⟩
    exact q a _ (fresh_back (e2.trans e3) na) ((e2.trans e3).trans (Ex.new na)) ⟨_, upd_same, paired_append (pm h2 fun _ _ z => Me.ex (e3.trans (Ex.new na)) z) (pm h4 fun _ _ z => Me.ex (Ex.new na) z)⟩
def repL (xs : List α) (k : Int) : List α := (List.replicate k.toNat xs).flatten
theorem repL_len (xs : List α) (k : Int) : (repL xs k).length = k.toNat * xs.length := by unfold repL; simp
theorem paired_flat {F : α → V → Prop} {xs : List α} {vs : List V} (h : Paired F xs vs) : ∀ n, Paired F (List.replicate n xs).flatten (List.replicate n vs).flatten
  | 0 => .nil
  | n + 1 => by
    rw [List.replicate_succ, List.replicate_succ, List.flatten_cons, List.flatten_cons]
    exact paired_append h (paired_flat h n)
theorem el_rep [Me R] {xs : List α} {k : Int} (ha : El R ta σ H xs) (hb : Er rI tb σ H k) (h1 : -(2 ^ 63) ≤ k ∧ k < 2 ^ 63) (hl : xs.length * k.toNat ≤ 1000000) : El R (tOp rRep ta tb) σ H (repL xs k) := fun H1 e Q q =>
  ha H1 e _ fun p H2 n2 e2 l2 => hb H2 (e.trans e2) _ fun v H3 e3 r => by
    cases r
    obtain ⟨vs, h3, h4⟩ := l2
    refine ⟨p, k, vs, rfl, rfl, e3 _ _ h3, h1.1, h1.2, by rw [← paired_len h4]; exact sz1 hl, fun a na => ?_⟩
    exact q a _ (fresh_back (e2.trans e3) na) ((e2.trans e3).trans (Ex.new na)) ⟨_, upd_same, paired_flat (pm h4 fun _ _ z => Me.ex (e3.trans (Ex.new na)) z) _⟩
def rListQ (K : PySem.W.Frag) : List V → Hp → VK → Prop := fun xs H Q => ∃ p ys, xs = [.ref p] ∧ (SqL K H p ys ∨ SqT K H p ys) ∧ ∀ l, H l = none → Q (.ref l) (upd H l (.lst ys))
theorem el_listL [Me R] {xs : List α} (ha : Er (rL K R) ta σ H xs) : El R (tCB (rListQ K) (tCons ta tNil)) σ H xs := fun H1 e Q q =>
  ha H1 e _ fun v H2 e2 ⟨a, vs, h1, hs, hp⟩ => ⟨a, vs, by rw [h1], .inl hs, fun l nl => q l _ (fresh_back e2 nl) (e2.trans (Ex.new nl)) ⟨_, upd_same, pm hp fun _ _ z => Me.ex (Ex.new nl) z⟩⟩
theorem el_listT [Me R] {xs : List α} (ha : Er (rT K R) ta σ H xs) : El R (tCB (rListQ K) (tCons ta tNil)) σ H xs := fun H1 e Q q =>
  ha H1 e _ fun v H2 e2 ⟨a, vs, h1, hs, hp⟩ => ⟨a, vs, by rw [h1], .inr hs, fun l nl => q l _ (fresh_back e2 nl) (e2.trans (Ex.new nl)) ⟨_, upd_same, pm hp fun _ _ z => Me.ex (Ex.new nl) z⟩⟩
def rTupQ (K : PySem.W.Frag) : List V → Hp → VK → Prop := fun xs H Q => ∃ p ys, xs = [.ref p] ∧ ((SqL K H p ys ∧ ∀ l, H l = none → Q (.ref l) (upd H l (.tup ys))) ∨ (SqT K H p ys ∧ Q (.ref p) H))
theorem er_tupL [Me R] {xs : List α} (ha : Er (rL K R) ta σ H xs) : Er (rT K R) (tCB (rTupQ K) (tCons ta tNil)) σ H xs := fun H1 e Q q =>
  ha H1 e _ fun v H2 e2 ⟨a, vs, h1, hs, hp⟩ => ⟨a, vs, by rw [h1], .inl ⟨hs, fun l nl => q _ _ (e2.trans (Ex.new nl)) ⟨l, _, rfl, SqT.of upd_same, pm hp fun _ _ z => Me.ex (Ex.new nl) z⟩⟩⟩
theorem er_tupT {xs : List α} (ha : Er (rT K R) ta σ H xs) : Er (rT K R) (tCB (rTupQ K) (tCons ta tNil)) σ H xs := fun H1 e Q q =>
  ha H1 e _ fun v H2 e2 r => by
    obtain ⟨a, vs, h1, hs, hp⟩ := id r
    exact ⟨a, vs, by rw [h1], .inr ⟨hs, q _ H2 e2 (by rw [← h1]; exact r)⟩⟩
theorem er_catT [Me R] {xs ys : List α} (ha : Er (rT K R) ta σ H xs) (hb : Er (rT K R) tb σ H ys) (hl : xs.length + ys.length ≤ 1000000) : Er (rT K R) (tOp (rCatA K) ta tb) σ H (xs ++ ys) := fun H1 e Q q =>
  ha H1 e _ fun v H2 e2 r1 => hb H2 (e.trans e2) _ fun w H3 e3 r2 => by
    obtain ⟨a, vs, rfl, h1, h2⟩ := r1
    obtain ⟨b, ws, rfl, h3, h4⟩ := r2
    refine ⟨a, b, vs, ws, rfl, rfl, ex_t e3 h1, h3, by rw [← paired_len h2, ← paired_len h4]; exact sz1 hl, fun z => ?_, fun _ z => ?_, fun _ _ p np => ?_⟩
    · subst z
      cases h2
      exact q _ H3 (e2.trans e3) ⟨b, ws, rfl, h3, h4⟩
    · subst z
      cases h4
      exact q _ H3 (e2.trans e3) (by rw [List.append_nil]; exact ⟨a, vs, rfl, ex_t e3 h1, pm h2 fun _ _ z => Me.ex e3 z⟩)
    · exact q _ _ ((e2.trans e3).trans (Ex.new np)) ⟨p, _, rfl, SqT.of upd_same, paired_append (pm h2 fun _ _ z => Me.ex (e3.trans (Ex.new np)) z) (pm h4 fun _ _ z => Me.ex (Ex.new np) z)⟩
/-- slices -/
def cutL (xs : List α) (lo hi : Option Int) : List α := (xs.drop (HT.sIx xs.length 0 lo)).take (HT.sIx xs.length xs.length hi - HT.sIx xs.length 0 lo)
theorem paired_cut {F : α → V → Prop} {xs : List α} {vs : List V} (h : Paired F xs vs) (lo hi : Option Int) : Paired F (cutL xs lo hi) (cutV vs lo hi) := by
  have hl := paired_len h
  unfold cutL cutV
  rw [hl]
  exact paired_take _ (paired_drop _ h)
theorem cutL_hi {xs : List α} (k : Nat) : cutL xs none (some (k : Int)) = xs.take k := by
  unfold cutL
  rw [HT.sIx_none, HT.sIx_nat, List.drop_zero, Nat.sub_zero]
  by_cases h : k ≤ xs.length
  · rw [Nat.min_eq_left h]
  · rw [Nat.min_eq_right (by omega), List.take_of_length_le (Nat.le_refl _), List.take_of_length_le (by omega)]
theorem cutL_lo {xs : List α} (k : Nat) : cutL xs (some (k : Int)) none = xs.drop k := by
  unfold cutL
  rw [HT.sIx_none, HT.sIx_nat]
  by_cases h : k ≤ xs.length
  · rw [Nat.min_eq_left h, List.take_of_length_le (by rw [List.length_drop]; exact Nat.le_refl _)]
  · rw [Nat.min_eq_right (by omega), List.drop_of_length_le (Nat.le_refl _), List.drop_of_length_le (by omega), List.take_nil]
def Eo (to : TO) (σ : L2.St) (H : Hp) (o : Option Int) : Prop := ∀ H1, Ex H H1 → ∀ Q : Option Int → Hp → Prop, (∀ H2, Ex H1 H2 → Q o H2) → to σ H1 Q
theorem eo0 : Eo tNoPart σ H none := fun H1 _ _ q => q H1 (Ex.refl H1)
theorem eo1 {i : Int} (h : Er rI te σ H i) : Eo (tPart te) σ H (some i) := fun H1 e _ q => h H1 e _ fun v H2 e2 r => ⟨i, r, q H2 e2⟩
theorem er_slT [Me R] {tl th : TO} {xs : List α} {lo hi : Option Int} (h : Er (rT K R) te σ H xs) (h1 : Eo tl σ H lo) (h2 : Eo th σ H hi) : Er (rT K R) (tSl (rSlA K) te tl th) σ H (cutL xs lo hi) := fun H1 e Q q =>
  h H1 e _ fun v H2 e2 r => h1 H2 (e.trans e2) _ fun H3 e3 => h2 H3 ((e.trans e2).trans e3) _ fun H4 e4 => by
    obtain ⟨a, vs, rfl, hs, hp⟩ := r
    have hs4 := ex_t e4 (ex_t e3 hs)
    have hp4 : Paired (R H4) xs vs := pm hp fun _ _ z => Me.ex (e3.trans e4) z
    have e24 := (e2.trans e3).trans e4
    refine ⟨a, vs, rfl, hs4, fun z => ?_, fun _ p np => ?_⟩
    · refine q _ H4 e24 ⟨a, vs, rfl, hs4, ?_⟩
      have w : cutV vs lo hi = vs := by
        unfold cutV
        rw [z.1, z.2, List.drop_zero, Nat.sub_zero, List.take_length]
      have := paired_cut hp4 lo hi
      rw [w] at this
      exact this
    · exact q _ _ (e24.trans (Ex.new np)) ⟨p, _, rfl, SqT.of upd_same, pm (paired_cut hp4 lo hi) fun _ _ z => Me.ex (Ex.new np) z⟩
theorem el_sl [Me R] {tl th : TO} {xs : List α} {lo hi : Option Int} (h : Er (rL K R) te σ H xs) (h1 : Eo tl σ H lo) (h2 : Eo th σ H hi) : El R (tSl (rSlL K) te tl th) σ H (cutL xs lo hi) := fun H1 e Q q =>
  h H1 e _ fun v H2 e2 r => h1 H2 (e.trans e2) _ fun H3 e3 => h2 H3 ((e.trans e2).trans e3) _ fun H4 e4 => by
    obtain ⟨a, vs, rfl, hs, hp⟩ := r
    have e24 := (e2.trans e3).trans e4
    refine ⟨a, vs, rfl, ex_l e4 (ex_l e3 hs), fun p np => ?_⟩
    exact q p _ (fresh_back e24 np) (e24.trans (Ex.new np)) ⟨_, upd_same, pm (paired_cut hp lo hi) fun _ _ z => Me.ex ((e3.trans e4).trans (Ex.new np)) z⟩
/-- lists as arguments -/
def AcL (R : Rp α) (xs : List α) (P : List V → Hp → Prop) : List V → Hp → Prop := fun vs H => ∃ v r, vs = v :: r ∧ (∃ p, v = .ref p ∧ Lt R H p xs) ∧ P r H
theorem eacL [Me R] {tr : TA} {xs : List α} {P : List V → Hp → Prop} (h : El R ta σ H xs) (hr : Ea tr σ H P) : Ea (tCons ta tr) σ H (AcL R xs P) := fun H1 e Q q =>
  h H1 e _ fun p H2 _ e2 l2 => hr H2 (e.trans e2) _ fun vs H3 e3 pv => q (.ref p :: vs) H3 (e2.trans e3) ⟨.ref p, vs, rfl, ⟨p, rfl, l2.ex e3⟩, pv⟩
theorem eacO [Me R] {tr : TA} {p : Addr} {i : Nat} {xs : List α} {P : List V → Hp → Prop} (hi : σ[i]? = some (some (.ref p))) (h : Lt R H p xs) (hr : Ea tr σ H P) : Ea (tCons (tVar i) tr) σ H (AcL R xs P) := fun H1 e Q q =>
  ⟨_, hi, hr H1 e _ fun vs H3 e3 pv => q (.ref p :: vs) H3 e3 ⟨.ref p, vs, rfl, ⟨p, rfl, h.ex (e.trans e3)⟩, pv⟩⟩
def Gnl (sp : Sp) (P : List V → Hp → Prop) (R : Rp α) (xs : List α) : Prop := ∀ vs H1, P vs H1 → ∀ (Q : VK) (E : XK), (∀ p H2, H1 p = none → Ex H1 H2 → Lt R H2 p xs → Q (.ref p) H2) → sp vs H1 Q E
theorem el_call {sp : Sp} {E : XK} {tr : TA} {P : List V → Hp → Prop} {xs : List α} (h : Ea tr σ H P) (g : Gnl sp P R xs) : El R (tCall sp [] E tr) σ H xs := fun H1 e Q q =>
  h H1 e _ fun vs H2 e2 p => by
    show sp (vs ++ []) H2 Q E
    rw [List.append_nil]
    exact g vs H2 p Q E fun a H3 n e3 r => q a H3 (fresh_back e2 n) (e2.trans e3) r
end
theorem cmul_of {i j : Int} (h : (-(2 ^ 64) < i ∧ i < 2 ^ 64) ∨ (-(2 ^ 64) < j ∧ j < 2 ^ 64)) : CMul i j := h
theorem cmul_l {i j : Int} (h : -(2 ^ 64) < i ∧ i < 2 ^ 64) : CMul i j := .inl h
theorem cmul_r {i j : Int} (h : -(2 ^ 64) < j ∧ j < 2 ^ 64) : CMul i j := .inr h

/-! ### the same, with what follows -/
section
variable {α : Type} {K : PySem.W.Frag} {H : Hp} {σ : L2.St} {ta tb te : TE} {t u : TT} {R : Rp α} {x : α} {D : Ends} {tu tw tz : TS} {j : Nat}
theorem q_asgI {i : Int} (h : Er rI te σ H i) (k : ∀ H1, Ex H H1 → tz D (σ.set j (some (.int i))) H1) : tSeq (tAsg te (gName j)) tz D σ H := s_asgI (D := { D with nx := tz D }) h k
theorem q_asgB {i : Bool} (h : Er rB te σ H i) (k : ∀ H1, Ex H H1 → tz D (σ.set j (some (.bl i))) H1) : tSeq (tAsg te (gName j)) tz D σ H := s_asgB (D := { D with nx := tz D }) h k
theorem q_asgS {i : Str} (h : Er rS te σ H i) (k : ∀ H1, Ex H H1 → tz D (σ.set j (some (.str i))) H1) : tSeq (tAsg te (gName j)) tz D σ H := s_asgS (D := { D with nx := tz D }) h k
theorem q_asg (h : Er R te σ H x) (k : ∀ v H1, Ex H H1 → R H1 x v → tz D (σ.set j (some v)) H1) : tSeq (tAsg te (gName j)) tz D σ H := s_asg (D := { D with nx := tz D }) h k
theorem q_asgL {xs : List α} (h : El R te σ H xs) (k : ∀ p H1, H p = none → Ex H H1 → Lt R H1 p xs → tz D (σ.set j (some (.ref p))) H1) : tSeq (tAsg te (gName j)) tz D σ H := s_asgL (D := { D with nx := tz D }) h k
theorem q_drop (h : Er R te σ H x) (k : ∀ H1, Ex H H1 → tz D σ H1) : tSeq (tDrop te) tz D σ H := s_drop (D := { D with nx := tz D }) h k
theorem q_if {b : Bool} (h : Et t σ H b) (h1 : b = true → ∀ H1, Ex H H1 → tu { D with nx := tz D } σ H1) (h2 : b = false → ∀ H1, Ex H H1 → tw { D with nx := tz D } σ H1) : tSeq (tIfS t tu tw) tz D σ H := s_if (D := { D with nx := tz D }) h h1 h2
theorem q_when {b : Bool} (h : Et t σ H b) (h1 : b = true → ∀ H1, Ex H H1 → tu { D with nx := tz D } σ H1) (h2 : b = false → ∀ H1, Ex H H1 → tz D σ H1) : tSeq (tIfS t tu tNext) tz D σ H := s_when (D := { D with nx := tz D }) h h1 h2
theorem q_app [Mkt K R] {l : Addr} {xs : List α} (hl : Lt R H l xs) (hi : σ[j]? = some (some (.ref l))) (h : Er R te σ H x) (hz : xs.length < 1000000) (k : ∀ H1, C1 l H H1 → Lt R H1 l (xs ++ [x]) → tz D σ H1) :
    tSeq (tDrop (tBM K "list" rAppend (tVar j) (tCons te tNil))) tz D σ H := s_app (D := { D with nx := tz D }) hl hi h hz k
theorem q_set [Mkt K R] {l : Addr} {xs : List α} {i : Int} (hl : Lt R H l xs) (hj : σ[j]? = some (some (.ref l))) (h : Er R te σ H x) (hi : Er rI tb σ H i) (h1 : -(xs.length : Int) ≤ i) (h2 : i < xs.length)
    (k : ∀ H1, C1 l H H1 → Lt R H1 l (xs.set (ixs xs.length i) x) → tz D σ H1) : tSeq (tAsg te (gSub (tVar j) tb rSetL)) tz D σ H := s_set (K := K) (D := { D with nx := tz D }) hl hj h hi h1 h2 k
theorem q_while (W : Nat → L2.St → Hp → Prop) (m0 : Nat) (h0 : W m0 σ H)
    (hs : ∀ m σ' H', W m σ' H' → ∃ b, Et t σ' H' b ∧ (b = true → ∀ H1, Ex H' H1 → ∃ N : L2.St → Hp → Prop, (∀ σ2 H2, N σ2 H2 → ∃ m', m' < m ∧ W m' σ2 H2) ∧ tu { D with nx := N, ct := N, bk := tz D } σ' H1) ∧ (b = false → ∀ H1, Ex H' H1 → tz D σ' H1)) : tSeq (tWhile t tu) tz D σ H := s_while (D := { D with nx := tz D }) W m0 h0 hs
theorem q_forT {tl : TE} {g : TG} {xs : List α} (h : Er (rT K R) tl σ H xs) (k : ∀ v H1, Ex H H1 → rT K R H1 xs v → ∀ a, v = .ref a → Fl (Itt K a) g tu { D with nx := tz D } σ H1) : tSeq (tFor (iTup K tl) g tu) tz D σ H := s_forT (D := { D with nx := tz D }) h k
theorem q_forL {tl : TE} {g : TG} {xs : List α} (h : Er (rL K R) tl σ H xs) (k : ∀ v H1, Ex H H1 → rL K R H1 xs v → ∀ a, v = .ref a → Fl (Itl K a) g tu { D with nx := tz D } σ H1) : tSeq (tFor (iList K tl) g tu) tz D σ H := s_forL (D := { D with nx := tz D }) h k
theorem q_forR1 {ta : TE} {g : TG} {hi : Int} (h : Er rI ta σ H hi) (hb : -(2 ^ 62) ≤ hi ∧ hi < 2 ^ 62) (k : ∀ H1, Ex H H1 → Fl (Itr 0 hi.toNat) g tu { D with nx := tz D } σ H1) : tSeq (tFor (iRng1 (tCons ta tNil)) g tu) tz D σ H := s_forR1 (D := { D with nx := tz D }) h hb k
theorem q_forR2 {ta tb : TE} {g : TG} {lo hi : Int} (h : Er rI ta σ H lo) (h' : Er rI tb σ H hi) (hb : -(2 ^ 62) ≤ lo ∧ lo < 2 ^ 62 ∧ -(2 ^ 62) ≤ hi ∧ hi < 2 ^ 62) (k : ∀ H1, Ex H H1 → Fl (Itr lo (hi - lo).toNat) g tu { D with nx := tz D } σ H1) : tSeq (tFor (iRng2 (tCons ta (tCons tb tNil))) g tu) tz D σ H := s_forR2 (D := { D with nx := tz D }) h h' hb k
theorem q_forEL {ta : TE} {g : TG} {xs : List α} (h : Er (rL K R) ta σ H xs) (k : ∀ v H1, Ex H H1 → rL K R H1 xs v → ∀ a, v = .ref a → Fl (Ite K a) g tu { D with nx := tz D } σ H1) : tSeq (tFor (iEnum K (tCons ta tNil)) g tu) tz D σ H := s_forEL (D := { D with nx := tz D }) h k
end
/-! ### for, with what follows -/
section
variable {α : Type} {K : PySem.W.Frag} {H : Hp} {σ : L2.St} {R : Rp α} {D : Ends} {tu tz : TS} {j : Nat}
theorem fq_T {xs : List α} {v : V} (r : rT K R H xs v) (Pv : Nat → L2.St → Hp → Prop) (h0 : Pv 0 σ H) (hG : ∀ i σ H', i ≤ xs.length → Pv i σ H' → rT K R H' xs v)
    (hs : ∀ i x u σ H', i < xs.length → xs[i]? = some x → Pv i σ H' → R H' x u → tu { nx := Pv (i + 1), rt := D.rt, bk := tz D, ct := Pv (i + 1) } (σ.set j (some u)) H') (hd : ∀ σ H', Pv xs.length σ H' → tz D σ H') :
    ∀ a, v = .ref a → Fl (Itt K a) (gName j) tu { D with nx := tz D } σ H := fl_T (D := { D with nx := tz D }) r Pv h0 hG hs hd
theorem fq_L {xs : List α} {v : V} (r : rL K R H xs v) (Pv : Nat → L2.St → Hp → Prop) (h0 : Pv 0 σ H) (hG : ∀ i σ H', i ≤ xs.length → Pv i σ H' → rL K R H' xs v)
    (hs : ∀ i x u σ H', i < xs.length → xs[i]? = some x → Pv i σ H' → R H' x u → tu { nx := Pv (i + 1), rt := D.rt, bk := tz D, ct := Pv (i + 1) } (σ.set j (some u)) H') (hd : ∀ σ H', Pv xs.length σ H' → tz D σ H') :
    ∀ a, v = .ref a → Fl (Itl K a) (gName j) tu { D with nx := tz D } σ H := fl_L (D := { D with nx := tz D }) r Pv h0 hG hs hd
theorem fq_TI {xs : List Int} {v : V} (r : rT K rI H xs v) (Pv : Nat → L2.St → Hp → Prop) (h0 : Pv 0 σ H) (hG : ∀ i σ H', i ≤ xs.length → Pv i σ H' → rT K rI H' xs v)
    (hs : ∀ i x σ H', i < xs.length → xs[i]? = some x → Pv i σ H' → tu { nx := Pv (i + 1), rt := D.rt, bk := tz D, ct := Pv (i + 1) } (σ.set j (some (.int x))) H') (hd : ∀ σ H', Pv xs.length σ H' → tz D σ H') :
    ∀ a, v = .ref a → Fl (Itt K a) (gName j) tu { D with nx := tz D } σ H := fl_TI (D := { D with nx := tz D }) r Pv h0 hG hs hd
theorem fq_LI {xs : List Int} {v : V} (r : rL K rI H xs v) (Pv : Nat → L2.St → Hp → Prop) (h0 : Pv 0 σ H) (hG : ∀ i σ H', i ≤ xs.length → Pv i σ H' → rL K rI H' xs v)
    (hs : ∀ i x σ H', i < xs.length → xs[i]? = some x → Pv i σ H' → tu { nx := Pv (i + 1), rt := D.rt, bk := tz D, ct := Pv (i + 1) } (σ.set j (some (.int x))) H') (hd : ∀ σ H', Pv xs.length σ H' → tz D σ H') :
    ∀ a, v = .ref a → Fl (Itl K a) (gName j) tu { D with nx := tz D } σ H := fl_LI (D := { D with nx := tz D }) r Pv h0 hG hs hd
theorem fq_R {lo hi : Int} {n : Nat} (hn : n = (hi - lo).toNat) (Pv : Nat → L2.St → Hp → Prop) (h0 : Pv 0 σ H)
    (hs : ∀ i x σ H', i < (rng lo hi).length → (rng lo hi)[i]? = some x → Pv i σ H' → tu { nx := Pv (i + 1), rt := D.rt, bk := tz D, ct := Pv (i + 1) } (σ.set j (some (.int x))) H') (hd : ∀ σ H', Pv (rng lo hi).length σ H' → tz D σ H') :
    Fl (Itr lo n) (gName j) tu { D with nx := tz D } σ H := fl_R (D := { D with nx := tz D }) hn Pv h0 hs hd
theorem fq_EL {i0 : Nat} {xs : List α} {v : V} (r : rL K R H xs v) (Pv : Nat → L2.St → Hp → Prop) (h0 : Pv 0 σ H) (hG : ∀ i σ H', i ≤ xs.length → Pv i σ H' → rL K R H' xs v)
    (hs : ∀ i x u σ H' H'', i < (enm xs).length → (enm xs)[i]? = some x → Pv i σ H' → Ex H' H'' → R H' x.2 u → tu { nx := Pv (i + 1), rt := D.rt, bk := tz D, ct := Pv (i + 1) } ((σ.set i0 (some (.int x.1))).set j (some u)) H'') (hd : ∀ σ H', Pv (enm xs).length σ H' → tz D σ H') :
    ∀ a, v = .ref a → Fl (Ite K a) (g2 K i0 j) tu { D with nx := tz D } σ H := fl_EL (D := { D with nx := tz D }) r Pv h0 hG hs hd
theorem fq_ELI {i0 : Nat} {xs : List Int} {v : V} (r : rL K rI H xs v) (Pv : Nat → L2.St → Hp → Prop) (h0 : Pv 0 σ H) (hG : ∀ i σ H', i ≤ xs.length → Pv i σ H' → rL K rI H' xs v)
    (hs : ∀ i x σ H' H'', i < (enm xs).length → (enm xs)[i]? = some x → Pv i σ H' → Ex H' H'' → tu { nx := Pv (i + 1), rt := D.rt, bk := tz D, ct := Pv (i + 1) } ((σ.set i0 (some (.int x.1))).set j (some (.int x.2))) H'') (hd : ∀ σ H', Pv (enm xs).length σ H' → tz D σ H') :
    ∀ a, v = .ref a → Fl (Ite K a) (g2 K i0 j) tu { D with nx := tz D } σ H := fl_ELI (D := { D with nx := tz D }) r Pv h0 hG hs hd
end
/-! ### comprehensions -/
section
variable {α β ι : Type} {K : PySem.W.Frag} {H : Hp} {σ : L2.St} {ta tb te tl : TE} {tt : TT} {R : Rp α} {Ri : Rp β} {vs : List Nat} {j : Nat}
def Good (R : Rp α) (σ : L2.St) (vs : List Nat) (tt : TT) (te : TE) (σ2 : L2.St) (H : Hp) (b : Bool) (y : α) : Prop := wipe σ2 vs = wipe σ vs ∧ Et tt σ2 H b ∧ (b = true → Er R te σ2 H y)
theorem el_core [Me R] [Mkt K R] {J : It} {g : TG} {xs : List ι} (c : ι → Bool) (f : ι → α) (hl : xs.length < 1000000)
    (go : ∀ i H', Ex H H' → i < xs.length → J.go i H') (stop : ∀ H', Ex H H' → J.stop xs.length H')
    (turn : ∀ i x u H' H'' (C : L2.St → Hp → Prop), xs[i]? = some x → Ex H H' → J.yld i H' u H'' → (∀ σ2 H3, Ex H' H3 → Good R σ vs tt te σ2 H3 (c x) (f x) → C σ2 H3) → g u (wipe σ vs) H'' C)
    (Q : VK) (q : ∀ p H2, H p = none → Ex H H2 → Lt R H2 p ((xs.filter c).map f) → Q (.ref p) H2) :
    ∀ D, H D = none → ∃ W : Nat → Nat → Hp → Prop, (∃ m, W 0 m (upd H D (.lst []))) ∧ ∀ i m H, W i m H →
      (J.stop i H ∧ Q (.ref D) H) ∨ (J.go i H ∧ ∃ Nx : Hp → Prop, (∀ H', Nx H' → ∃ m', m' < m ∧ W (i + 1) m' H') ∧ ∀ x H', J.yld i H x H' → g x (wipe σ vs) H' fun σ2 H2 => wipe σ2 vs = wipe σ vs ∧ tt σ2 H2 fun b H3 =>
        if b = true then te σ2 H3 fun y H4 => ∃ acc, H4 D = some (.lst acc) ∧ acc.length < sizeLine ∧ Nx (upd H4 D (.lst (acc ++ [y]))) else Nx H3) := by
  intro D hD
  refine ⟨fun i m H' => m = xs.length - i ∧ i ≤ xs.length ∧ Ex H H' ∧ Lt R H' D (((xs.take i).filter c).map f), ⟨xs.length, rfl, Nat.zero_le _, Ex.new hD, ⟨[], upd_same, .nil⟩⟩, ?_⟩
  rintro i m H1 ⟨rfl, hi, e1, l1⟩
  by_cases hlt : i < xs.length
  · have hx : xs[i]? = some xs[i] := List.getElem?_eq_getElem hlt
    refine .inr ⟨go i H1 e1 hlt, fun H' => Ex H H' ∧ Lt R H' D (((xs.take (i + 1)).filter c).map f), fun H' h => ⟨xs.length - (i + 1), by omega, rfl, hlt, h⟩, fun u H2 y => ?_⟩
    refine turn i _ u H1 H2 _ hx e1 y fun σ2 H3 e3 g => ⟨g.1, ?_⟩
    have tk : xs.take (i + 1) = xs.take i ++ [xs[i]] := by rw [List.take_add_one, hx]; rfl
    refine g.2.1 H3 (Ex.refl H3) _ fun H4 e4 => ?_
    cases hb : c xs[i] with
    | true =>
      show te σ2 H4 _
      refine g.2.2 hb H4 e4 _ fun v H5 e5 r5 => ?_
      obtain ⟨acc, a1, a2⟩ := l1.ex ((e3.trans e4).trans e5)
      have la : acc.length ≤ i := by
        rw [← paired_len a2, List.length_map]
        exact Nat.le_trans (List.length_filter_le _ _) (by rw [List.length_take]; omega)
      have kt1 : Kt K H5 (upd H5 D (.lst (acc ++ [v]))) := Kt.c1 a1 (C1.up (C1.refl D H5))
      refine ⟨acc, a1, sz0 (by omega), (fun a o h => ?_), ⟨acc ++ [v], upd_same, ?_⟩⟩
      · rw [upd_ne (ne_of_none h hD)]
        exact e5 _ _ (e4 _ _ (e3 _ _ (e1 _ _ h)))
      · rw [tk, List.filter_append, List.map_append]
        refine paired_append (pm a2 fun _ _ z => Mkt.kt kt1 z) ?_
        rw [show [xs[i]].filter c = [xs[i]] by simp [hb]]
        exact .cons (Mkt.kt kt1 r5) .nil
    | false =>
      show Ex H H4 ∧ _
      refine ⟨((e1.trans e3).trans e4), ?_⟩
      rw [tk, List.filter_append, List.filter_cons, hb]
      simpa using l1.ex (e3.trans e4)
  · have hi2 : i = xs.length := by omega
    subst hi2
    rw [List.take_length] at l1
    exact .inl ⟨stop H1 e1, q D H1 hD e1 l1⟩
theorem et_yes {σ : L2.St} {H : Hp} : Et tYes σ H true := fun H1 _ _ q => q H1 (Ex.refl H1)
/-- [e for x in range(n) (if c)] -/
theorem el_lcR1c [Me R] [Mkt K R] {hi : Int} {c : Int → Bool} {f : Int → α} (h : Er rI ta σ H hi) (hb : -(2 ^ 62) ≤ hi ∧ hi < 1000000) (hw : ∀ x, wipe ((wipe σ vs).set j (some x)) vs = wipe σ vs)
    (ht : ∀ x H1, Ex H H1 → (0 ≤ x ∧ x < hi) → Et tt ((wipe σ vs).set j (some (.int x))) H1 (c x)) (he : ∀ x H1, Ex H H1 → (0 ≤ x ∧ x < hi) → c x = true → Er R te ((wipe σ vs).set j (some (.int x))) H1 (f x)) :
    El R (tLc (iRng1 (tCons ta tNil)) (gName j) tt te vs) σ H (((rng 0 hi).filter c).map f) := fun H1 e1 Q q =>
  h H1 e1 _ fun v H2 e2 r => by
    cases r
    have hl := rng_len 0 hi
    have hn : (rng 0 hi).length = hi.toNat := by rw [hl, Int.sub_zero]
    refine ⟨hi, rfl, hb.1, by omega, el_core (K := K) (R := R) (xs := rng 0 hi) c f (by omega) (fun i H' _ h => by rw [hn] at h; exact h) (fun H' _ => by rw [hn]; exact Nat.le_refl _) (fun i x u H' H'' C hx e3 y k => ?_) Q fun p H3 n3 e3 l3 => q p H3 (fresh_back e2 n3) (e2.trans e3) l3⟩
    obtain ⟨rfl, rfl⟩ := y
    have hx2 := rng_at hx
    have ex : x = 0 + (i : Int) := hx2.1
    refine k _ H'' (Ex.refl H'') ⟨hw _, ?_, fun hc => ?_⟩
    · rw [← ex]; exact ht x H'' ((e1.trans e2).trans e3) hx2.2
    · rw [← ex]; exact he x H'' ((e1.trans e2).trans e3) hx2.2 hc
theorem el_lcR1 [Me R] [Mkt K R] {hi : Int} {f : Int → α} (h : Er rI ta σ H hi) (hb : -(2 ^ 62) ≤ hi ∧ hi < 1000000) (hw : ∀ x, wipe ((wipe σ vs).set j (some x)) vs = wipe σ vs)
    (he : ∀ x H1, Ex H H1 → (0 ≤ x ∧ x < hi) → Er R te ((wipe σ vs).set j (some (.int x))) H1 (f x)) : El R (tLc (iRng1 (tCons ta tNil)) (gName j) tYes te vs) σ H ((rng 0 hi).map f) := by
  have z := el_lcR1c (K := K) (c := fun _ => true) (f := f) h hb hw (fun _ _ _ _ => et_yes) fun x H1 e hx _ => he x H1 e hx
  rw [List.filter_eq_self.mpr fun _ _ => rfl] at z
  exact z
/-- [e for x in xs (if c)], a list; a tuple -/
theorem el_lcLc [Me R] [Mkt K R] [Me Ri] {xs : List β} {c : β → Bool} {f : β → α} (h : Er (rL K Ri) tl σ H xs) (hb : xs.length < 1000000) (hw : ∀ x, wipe ((wipe σ vs).set j (some x)) vs = wipe σ vs)
    (ht : ∀ x v H1, Ex H H1 → x ∈ xs → Ri H1 x v → Et tt ((wipe σ vs).set j (some v)) H1 (c x)) (he : ∀ x v H1, Ex H H1 → x ∈ xs → Ri H1 x v → c x = true → Er R te ((wipe σ vs).set j (some v)) H1 (f x)) :
    El R (tLc (iList K tl) (gName j) tt te vs) σ H ((xs.filter c).map f) := fun H1 e1 Q q =>
  h H1 e1 _ fun v H2 e2 r => by
    obtain ⟨a, us, rfl, hs, hp⟩ := r
    have hl := paired_len hp
    refine ⟨a, rfl, ⟨us, hs⟩, el_core (K := K) (R := R) (J := Itl K a) (xs := xs) c f hb (fun i H' e3 h => ⟨us, us[i]'(by omega), ex_l e3 hs, List.getElem?_eq_getElem _⟩) (fun H' e3 => ⟨us, ex_l e3 hs, by omega⟩) (fun i x u H' H'' C hx e3 y k => ?_) Q fun p H3 n3 e3 l3 => q p H3 (fresh_back e2 n3) (e2.trans e3) l3⟩
    obtain ⟨rfl, y⟩ := y
    obtain ⟨u', hu, ru⟩ := paired_get hp hx
    have eu := y us (ex_l e3 hs)
    rw [hu] at eu
    cases eu
    exact k _ H'' (Ex.refl H'') ⟨hw _, ht x u H'' ((e1.trans e2).trans e3) (List.mem_of_getElem? hx) (Me.ex e3 ru), fun hc => he x u H'' ((e1.trans e2).trans e3) (List.mem_of_getElem? hx) (Me.ex e3 ru) hc⟩
theorem el_lcL [Me R] [Mkt K R] [Me Ri] {xs : List β} {f : β → α} (h : Er (rL K Ri) tl σ H xs) (hb : xs.length < 1000000) (hw : ∀ x, wipe ((wipe σ vs).set j (some x)) vs = wipe σ vs)
    (he : ∀ x v H1, Ex H H1 → x ∈ xs → Ri H1 x v → Er R te ((wipe σ vs).set j (some v)) H1 (f x)) : El R (tLc (iList K tl) (gName j) tYes te vs) σ H (xs.map f) := by
  have z := el_lcLc (K := K) (c := fun _ => true) (f := f) h hb hw (fun _ _ _ _ _ _ => et_yes) fun x v H1 e hx r _ => he x v H1 e hx r
  rw [List.filter_eq_self.mpr fun _ _ => rfl] at z
  exact z
theorem el_lcTc [Me R] [Mkt K R] [Me Ri] {xs : List β} {c : β → Bool} {f : β → α} (h : Er (rT K Ri) tl σ H xs) (hb : xs.length < 1000000) (hw : ∀ x, wipe ((wipe σ vs).set j (some x)) vs = wipe σ vs)
    (ht : ∀ x v H1, Ex H H1 → x ∈ xs → Ri H1 x v → Et tt ((wipe σ vs).set j (some v)) H1 (c x)) (he : ∀ x v H1, Ex H H1 → x ∈ xs → Ri H1 x v → c x = true → Er R te ((wipe σ vs).set j (some v)) H1 (f x)) :
    El R (tLc (iTup K tl) (gName j) tt te vs) σ H ((xs.filter c).map f) := fun H1 e1 Q q =>
  h H1 e1 _ fun v H2 e2 r => by
    obtain ⟨a, us, rfl, hs, hp⟩ := r
    have hl := paired_len hp
    refine ⟨a, rfl, ⟨us, hs⟩, el_core (K := K) (R := R) (J := Itt K a) (xs := xs) c f hb (fun i H' e3 h => ⟨us, us[i]'(by omega), ex_t e3 hs, List.getElem?_eq_getElem _⟩) (fun H' e3 => ⟨us, ex_t e3 hs, by omega⟩) (fun i x u H' H'' C hx e3 y k => ?_) Q fun p H3 n3 e3 l3 => q p H3 (fresh_back e2 n3) (e2.trans e3) l3⟩
    obtain ⟨rfl, y⟩ := y
    obtain ⟨u', hu, ru⟩ := paired_get hp hx
    have eu := y us (ex_t e3 hs)
    rw [hu] at eu
    cases eu
    exact k _ H'' (Ex.refl H'') ⟨hw _, ht x u H'' ((e1.trans e2).trans e3) (List.mem_of_getElem? hx) (Me.ex e3 ru), fun hc => he x u H'' ((e1.trans e2).trans e3) (List.mem_of_getElem? hx) (Me.ex e3 ru) hc⟩
theorem el_lcT [Me R] [Mkt K R] [Me Ri] {xs : List β} {f : β → α} (h : Er (rT K Ri) tl σ H xs) (hb : xs.length < 1000000) (hw : ∀ x, wipe ((wipe σ vs).set j (some x)) vs = wipe σ vs)
    (he : ∀ x v H1, Ex H H1 → x ∈ xs → Ri H1 x v → Er R te ((wipe σ vs).set j (some v)) H1 (f x)) : El R (tLc (iTup K tl) (gName j) tYes te vs) σ H (xs.map f) := by
  have z := el_lcTc (K := K) (c := fun _ => true) (f := f) h hb hw (fun _ _ _ _ _ _ => et_yes) fun x v H1 e hx r _ => he x v H1 e hx r
  rw [List.filter_eq_self.mpr fun _ _ => rfl] at z
  exact z
/-- the items ints -/
theorem el_lcLI [Me R] [Mkt K R] {xs : List Int} {f : Int → α} (h : Er (rL K rI) tl σ H xs) (hb : xs.length < 1000000) (hw : ∀ x, wipe ((wipe σ vs).set j (some x)) vs = wipe σ vs)
    (he : ∀ x H1, Ex H H1 → x ∈ xs → Er R te ((wipe σ vs).set j (some (.int x))) H1 (f x)) : El R (tLc (iList K tl) (gName j) tYes te vs) σ H (xs.map f) :=
  el_lcL h hb hw fun x v H1 e hx r => by cases r; exact he x H1 e hx
theorem el_lcTI [Me R] [Mkt K R] {xs : List Int} {f : Int → α} (h : Er (rT K rI) tl σ H xs) (hb : xs.length < 1000000) (hw : ∀ x, wipe ((wipe σ vs).set j (some x)) vs = wipe σ vs)
    (he : ∀ x H1, Ex H H1 → x ∈ xs → Er R te ((wipe σ vs).set j (some (.int x))) H1 (f x)) : El R (tLc (iTup K tl) (gName j) tYes te vs) σ H (xs.map f) :=
  el_lcT h hb hw fun x v H1 e hx r => by cases r; exact he x H1 e hx
theorem el_lcLIc [Me R] [Mkt K R] {xs : List Int} {c : Int → Bool} {f : Int → α} (h : Er (rL K rI) tl σ H xs) (hb : xs.length < 1000000) (hw : ∀ x, wipe ((wipe σ vs).set j (some x)) vs = wipe σ vs)
    (ht : ∀ x H1, Ex H H1 → x ∈ xs → Et tt ((wipe σ vs).set j (some (.int x))) H1 (c x)) (he : ∀ x H1, Ex H H1 → x ∈ xs → c x = true → Er R te ((wipe σ vs).set j (some (.int x))) H1 (f x)) : El R (tLc (iList K tl) (gName j) tt te vs) σ H ((xs.filter c).map f) :=
  el_lcLc h hb hw (fun x v H1 e hx r => by cases r; exact ht x H1 e hx) fun x v H1 e hx r hc => by cases r; exact he x H1 e hx hc
theorem el_lcTIc [Me R] [Mkt K R] {xs : List Int} {c : Int → Bool} {f : Int → α} (h : Er (rT K rI) tl σ H xs) (hb : xs.length < 1000000) (hw : ∀ x, wipe ((wipe σ vs).set j (some x)) vs = wipe σ vs)
    (ht : ∀ x H1, Ex H H1 → x ∈ xs → Et tt ((wipe σ vs).set j (some (.int x))) H1 (c x)) (he : ∀ x H1, Ex H H1 → x ∈ xs → c x = true → Er R te ((wipe σ vs).set j (some (.int x))) H1 (f x)) : El R (tLc (iTup K tl) (gName j) tt te vs) σ H ((xs.filter c).map f) :=
  el_lcTc h hb hw (fun x v H1 e hx r => by cases r; exact ht x H1 e hx) fun x v H1 e hx r hc => by cases r; exact he x H1 e hx hc
end
/-! ### the rules, the written part named -/
section
variable {X : Cx}
theorem ix_listK (K : PySem.W.Frag) (h : X.K = K := by rfl) : IxR X (rIxL K) := by subst h; exact ix_list
theorem ix_tupK (K : PySem.W.Frag) (h : X.K = K := by rfl) : IxR X (rIxT K) := by subst h; exact ix_tup
theorem sl_listK (K : PySem.W.Frag) (h : X.K = K := by rfl) : SlR X (rSlL K) := by subst h; exact sl_list
theorem sl_tupAK (K : PySem.W.Frag) (h : X.K = K := by rfl) : SlR X (rSlA K) := by subst h; exact sl_tupA
theorem op_catAK (K : PySem.W.Frag) (h : X.K = K := by rfl) : OpR X (binaryOp .Add) (rCatA K) := by subst h; exact op_catA
theorem op_in_seqK (K : PySem.W.Frag) (h : X.K = K := by rfl) : OpR X (compareOp .In) (rIn K false) := by subst h; exact op_in_seq
theorem op_notIn_seqK (K : PySem.W.Frag) (h : X.K = K := by rfl) : OpR X (compareOp .NotIn) (rIn K true) := by subst h; exact op_notIn_seq
theorem call_len_seqK (K : PySem.W.Frag) (h : X.K = K := by rfl) : CallR X (.builtin "len") (rLenQ K) := by subst h; exact call_len_seq
theorem call_list_ofK (K : PySem.W.Frag) (h : X.K = K := by rfl) : CallR X (.type "list") (rListQ K) := by subst h; exact call_list_of
theorem call_tuple_ofK (K : PySem.W.Frag) (h : X.K = K := by rfl) : CallR X (.type "tuple") (rTupQ K) := by subst h; exact call_tuple_of
theorem call_isiK' (K : PySem.W.Frag) (h : X.K = K := by rfl) : CallR X (.builtin "isinstance") (rIsi K) := by subst h; exact call_isi
theorem cr_sumK (K : PySem.W.Frag) (hc : X.calm = true) (h : X.K = K := by rfl) : CallR X (.builtin "sum") (rSum K) := by subst h; exact cr_sum hc
variable {tg l e : Expr} {tl : TE} {ta : TA} {p pos apos cpos : Pos} {t : TGs} {es : List Expr} {k n : Nat}
theorem pi_listK (K : PySem.W.Frag) (hl : PE X l tl) (h : X.K = K := by rfl) : PI X tg l (iList K tl) := by subst h; exact pi_list hl
theorem pi_tupK (K : PySem.W.Frag) (hl : PE X l tl) (h : X.K = K := by rfl) : PI X tg l (iTup K tl) := by subst h; exact pi_tup hl
theorem pi_enumK (K : PySem.W.Frag) {tpos : Pos} {elts : List Expr} {kk : Nat} (hg : Gl X "enumerate") (hm : X.mg "enumerate" = none) (ha : PA X [e] ta) (h : X.K = K := by rfl) (hs : starEach [e] X.env = [(false, eval e X.env)] := by rfl) :
    PI X (.Tuple elts kk tpos) (.Call (.Name "enumerate" p) [e] [] pos) (iEnum K ta) := by subst h; exact pi_enum hg hm ha hs
theorem pg_tupK (K : PySem.W.Frag) (n : Nat) (hc : X.calm = true) (h : PGs X es t) (hK : X.K = K := by rfl)
    (hn : (assignEach es X.env).length = n := by rfl) (hst : (assignEach es X.env).findIdx? (·.1) = none := by rfl) : PG X (.Tuple es k pos) (gTup K n t) := by subst hK; exact pg_tup hc h hn hst
end
/-! ### a def as it stands; a thing; primes -/
structure Df (P : Program) (w : World) (K : PySem.W.Frag) (mg : Str → Option Value) (base : Heap) (CX : CXT) (k : Nat) (x : Str) (ps : List Str) (sp : Sp) : Type where
  f : Addr
  fd : FuncData
  ok : FnOk P w K mg base CX k f fd ps sp
  g : mg x = some (.ref f)
  kp : PySem.W.keepIn K (.ref f) = true
  b : Binds K fd ps []
/-- a written tuple by its name -/
structure Cn (K : PySem.W.Frag) (mg : Str → Option Value) (x : Str) (xs : List V) : Type where
  a : Addr
  g : mg x = some (.ref a)
  s : ∀ H, SqT K H a xs
inductive Th (K : PySem.W.Frag) (H : Hp) : V → Prop where
  | non : Th K H .non
  | bl (b : Bool) : Th K H (.bl b)
  | int (i : Int) : Th K H (.int i)
  | str (s : Str) : Th K H (.str s)
  | tup {a : Addr} {xs : List V} (h : SqT K H a xs) : Th K H (.ref a)
theorem sqT_ty {K : PySem.W.Frag} {H : Hp} {a : Addr} {xs : List V} (h : SqT K H a xs) : TyX K H (.ref a) (.type "tuple") := by
  rcases h with (h | ⟨o, h⟩) | ⟨o, its, n, h, c, _⟩
  · exact .base (.tup h)
  · exact .fTuple h
  · exact .kTuple h c
def isW : V → Bool
  | .int _ => true
  | _ => false
def Pr (p : Int) : Prop := p = 2 ∨ p = 3 ∨ p = 5
instance (p : Int) : Decidable (Pr p) := inferInstanceAs (Decidable (_ ∨ _ ∨ _))
def isPr : V → Bool
  | .int p => decide (Pr p)
  | _ => false
theorem Pr.is {p : Int} (h : Pr p) : isPr (.int p) = true := decide_eq_true h
theorem isPr_int {x : V} (h : isPr x = true) : ∃ p, x = .int p ∧ Pr p := by
  cases x <;> first | exact ⟨_, rfl, of_decide_eq_true h⟩ | cases h
theorem isPr_W {x : V} (h : isW x = false) : isPr x = false := by
  cases x <;> first | rfl | cases h
theorem Th.kt {K : PySem.W.Frag} {H H' : Hp} {x : V} (e : Kt K H H') (h : Th K H x) : Th K H' x := by
  cases h with
  | non => exact .non
  | bl b => exact .bl b
  | int i => exact .int i
  | str s => exact .str s
  | tup h => exact .tup (e _ _ h)
theorem Th.mono {K : PySem.W.Frag} {H H' : Hp} {x : V} (e : Ex H H') (h : Th K H x) : Th K H' x := h.kt (Kt.ex e)
/-- what is no prime -/
def rBad (K : PySem.W.Frag) : Rp Unit := fun H _ v => Th K H v ∧ isPr v = false
instance {K : PySem.W.Frag} : Me (rBad K) := ⟨fun e h => ⟨h.1.mono e, h.2⟩⟩
instance {K : PySem.W.Frag} : Mkt K (rBad K) := ⟨fun e h => ⟨h.1.kt e, h.2⟩⟩
theorem er_bad {K : PySem.W.Frag} {α : Type} {R : Rp α} {t : TE} {σ : L2.St} {H : Hp} {x : α} (h : Er R t σ H x) (k : ∀ v H1, R H1 x v → Th K H1 v ∧ isPr v = false) : Er (rBad K) t σ H () := fun H1 e Q q => h H1 e Q fun v H2 e2 r => q v H2 e2 (k v H2 r)
theorem er_badI {K : PySem.W.Frag} {t : TE} {σ : L2.St} {H : Hp} {x : Int} (h : Er rI t σ H x) (k : isPr (.int x) = false := by decide) : Er (rBad K) t σ H () := er_bad h fun v H1 r => by cases r; exact ⟨.int x, k⟩
theorem er_badB {K : PySem.W.Frag} {t : TE} {σ : L2.St} {H : Hp} {x : Bool} (h : Er rB t σ H x) : Er (rBad K) t σ H () := er_bad h fun v H1 r => by cases r; exact ⟨.bl x, rfl⟩
theorem er_badN {K : PySem.W.Frag} {t : TE} {σ : L2.St} {H : Hp} (h : Er rN t σ H ()) : Er (rBad K) t σ H () := er_bad h fun v H1 r => by cases r; exact ⟨.non, rfl⟩
theorem er_badS {K : PySem.W.Frag} {t : TE} {σ : L2.St} {H : Hp} {x : Str} (h : Er rS t σ H x) : Er (rBad K) t σ H () := er_bad h fun v H1 r => by cases r; exact ⟨.str x, rfl⟩
theorem er_badT {K : PySem.W.Frag} {α : Type} {R : Rp α} {t : TE} {σ : L2.St} {H : Hp} {x : List α} (h : Er (rT K R) t σ H x) : Er (rBad K) t σ H () := er_bad h fun v H1 r => by
  obtain ⟨a, vs, rfl, h2, _⟩ := r
  exact ⟨.tup h2, rfl⟩
/-- a thing's kind among built-in classes -/
def isIB : V → Bool
  | .int _ => true
  | .bl _ => true
  | _ => false
def isB : V → Bool
  | .bl _ => true
  | _ => false
theorem isW_eq (x : V) : isW x = (isIB x && !isB x) := by cases x <;> rfl
theorem Th.ty {K : PySem.W.Frag} {H : Hp} {x : V} (h : Th K H x) : ∃ t : String, TyX K H x (.type t) ∧ kitB t "int" = some (isIB x) ∧ kitB t "bool" = some (isB x) := by
  cases h with
  | non => exact ⟨_, .base .non, (show kitB _ "int" = some false by decide +kernel), (show kitB _ "bool" = some false by decide +kernel)⟩
  | bl b => exact ⟨_, .base (.bl b), (show kitB _ "int" = some true by decide +kernel), (show kitB _ "bool" = some true by decide +kernel)⟩
  | int i => exact ⟨_, .base (.int i), (show kitB _ "int" = some true by decide +kernel), (show kitB _ "bool" = some false by decide +kernel)⟩
  | str s => exact ⟨_, .base (.str s), (show kitB _ "int" = some false by decide +kernel), (show kitB _ "bool" = some false by decide +kernel)⟩
  | tup h => exact ⟨_, sqT_ty h, (show kitB _ "int" = some false by decide +kernel), (show kitB _ "bool" = some false by decide +kernel)⟩

/-! ### the bag of a law: four numbers (three) -/
def Bag (H : Hp) (b : Addr) : Prop := ∃ b0 b1 pr c : Int, Lt rI H b [b0, b1, pr, c] ∧ 0 ≤ b0 ∧ 0 ≤ b1 ∧ b1 < 4294967296 ∧ 0 < pr ∧ pr < 4294967296
theorem Bag.ex {H H' : Hp} {b : Addr} (h : Bag H b) (e : Ex H H') : Bag H' b := let ⟨a, c, d, f, l, r⟩ := h; ⟨a, c, d, f, l.ex e, r⟩
theorem Bag.kt {K : PySem.W.Frag} {H H' : Hp} {b : Addr} (h : Bag H b) (c : C1 b H H') : Kt K H H' := let ⟨_, _, _, _, l, _⟩ := h; l.kt c
theorem Bag.keep {H H' : Hp} {b p : Addr} (h : Bag H b) (c : C1 p H H') (n : b ≠ p) : Bag H' b := let ⟨a, d, e, f, ⟨vs, h1, h2⟩, r⟩ := h; ⟨a, d, e, f, ⟨vs, c _ _ n h1, h2⟩, r⟩
theorem Bag.there {H : Hp} {b : Addr} (h : Bag H b) : ∃ xs, H b = some (.lst xs) := let ⟨_, _, _, _, ⟨vs, h1, _⟩, _⟩ := h; ⟨vs, h1⟩
theorem Bag.ne {H : Hp} {b q : Addr} (h : Bag H b) (hq : H q = none) : b ≠ q := let ⟨_, h1⟩ := h.there; ne_of_none h1 hq
/-- what was fresh -/
theorem fb {H H' : Hp} {b p : Addr} (c : C1 b H H') (h : Bag H' b) (hp : H' p = none) : H p = none := by
  by_cases z : p = b
  · obtain ⟨xs, q⟩ := h.there
    rw [z, q] at hp
    cases hp
  · cases q : H p with
    | none => rfl
    | some o =>
      rw [c p o z q] at hp
      cases hp
/-- a list that is read by whoever holds it -/
theorem rl_of {K : PySem.W.Frag} {H : Hp} {a : Addr} {ns : List Int} (h : SqL K H a (ns.map V.int)) : rL K rI H ns (.ref a) := ⟨a, _, rfl, h, pI' ns⟩

/-! ### steps one by one -/
section
variable {α : Type} {K : PySem.W.Frag} {H : Hp} {σ : L2.St} {ta tb te : TE} {t u : TT} {R : Rp α} {x : α} {D : Ends} {tu tw tz : TS} {j : Nat}
theorem q_asg0 (h : te σ H fun x H1 => tz D (σ.set j (some x)) H1) : tSeq (tAsg te (gName j)) tz D σ H := h
theorem s_asg0 (h : te σ H fun x H1 => D.nx (σ.set j (some x)) H1) : tAsg te (gName j) D σ H := h
theorem q_if0 (h : t σ H fun b H1 => if b = true then tu { D with nx := tz D } σ H1 else tw { D with nx := tz D } σ H1) : tSeq (tIfS t tu tw) tz D σ H := h
theorem q_when0 (h : t σ H fun b H1 => if b = true then tu { D with nx := tz D } σ H1 else tz D σ H1) : tSeq (tIfS t tu tNext) tz D σ H := h
theorem s_when0 (h : t σ H fun b H1 => if b = true then tu D σ H1 else D.nx σ H1) : tIfS t tu tNext D σ H := h
theorem q_for0 {wi : TI} {g : TG} (h : wi σ H fun J H1 => Fl J g tu { D with nx := tz D } σ H1) : tSeq (tFor wi g tu) tz D σ H := h
theorem s_for0 {wi : TI} {g : TG} (h : wi σ H fun J H1 => Fl J g tu D σ H1) : tFor wi g tu D σ H := h
theorem q_drop0 (h : te σ H fun _ H1 => tz D σ H1) : tSeq (tDrop te) tz D σ H := h
theorem go_call1 {sp : Sp} {E : XK} {Q : VK} (h : ta σ H fun x H1 => sp [x] H1 Q E) : tCall sp [] E (tCons ta tNil) σ H Q := h
theorem go_call2 {sp : Sp} {E : XK} {Q : VK} (h : ta σ H fun x H1 => tb σ H1 fun y H2 => sp [x, y] H2 Q E) : tCall sp [] E (tCons ta (tCons tb tNil)) σ H Q := h
theorem go_call3 {sp : Sp} {E : XK} {Q : VK} {tc : TE} (h : ta σ H fun x H1 => tb σ H1 fun y H2 => tc σ H2 fun z H3 => sp [x, y, z] H3 Q E) : tCall sp [] E (tCons ta (tCons tb (tCons tc tNil))) σ H Q := h
theorem go_not {Q : Bool → Hp → Prop} (h : t σ H fun b H1 => Q (!b) H1) : tNot t σ H Q := h
theorem go_tB {Q : Bool → Hp → Prop} (h : te σ H fun x H1 => ∃ c, x = .bl c ∧ Q c H1) : tB te σ H Q := h
theorem go_tT {Q : Bool → Hp → Prop} (h : te σ H fun x H1 => ∃ c, x = .bl c ∧ Q c H1) : tTest te σ H Q := h
theorem go_var {Q : VK} {i : Nat} {v : V} (h : σ[i]? = some (some v)) (k : Q v H) : tVar i σ H Q := ⟨v, h, k⟩
theorem go_op {r : R2} {Q : VK} (h : ta σ H fun x H1 => tb σ H1 fun y H2 => r x y H2 Q) : tOp r ta tb σ H Q := h
theorem go_ixL [Me R] {Q : VK} {p : Addr} {xs : List α} {i : Int} (l : Lt R H p xs) (h1 : -(xs.length : Int) ≤ i) (h2 : i < xs.length) (d : α) (k : ∀ v, R H (gt0 d xs i) v → Q v H) : rIxL K (.ref p) (.int i) H Q := by
  obtain ⟨vs, e1, e2⟩ := l
  obtain ⟨u, hu, ru⟩ := paired_get e2 (gt0_some (d := d) h1 h2)
  have hl := paired_len e2
  rw [hl] at h1 h2 hu
  exact ⟨p, vs, i, u, rfl, rfl, SqL.of e1, atI_ixs h1 h2 hu, k u ru⟩
theorem er_isI {i : Int} (h : Er rI ta σ H i) : Er rB (tCB (rIsi K) (tCons ta (tCons (tC (.ty "int")) tNil))) σ H true := fun H1 e Q q =>
  h H1 e _ fun v H2 e2 r => by
    cases r
    exact ⟨_, _, _, _, true, rfl, .ty "int", .base (.int i), kit_ty (show kitB "int" "int" = some true by decide +kernel), q _ H2 e2 rfl⟩
theorem er_isIb {i : Int} (h : Er rI ta σ H i) : Er rB (tCB (rIsi K) (tCons ta (tCons (tC (.ty "bool")) tNil))) σ H false := fun H1 e Q q =>
  h H1 e _ fun v H2 e2 r => by
    cases r
    exact ⟨_, _, _, _, false, rfl, .ty "bool", .base (.int i), kit_ty (show kitB "int" "bool" = some false by decide +kernel), q _ H2 e2 rfl⟩
theorem er_chain {g g' : Int → Int → Bool} {a b c : Int} {tc : TE} (ha : Er rI ta σ H a) (hb : Er rI tb σ H b) (hc : Er rI tc σ H c) : Er rB (tChain (rI0 fun i j => V.bl (g i j)) (rI0 fun i j => V.bl (g' i j)) ta tb tc) σ H (g a b && g' b c) := fun H1 e Q q =>
  ha H1 e _ fun v H2 e2 r1 => hb H2 (e.trans e2) _ fun u H3 e3 r2 => by
    cases r1
    cases r2
    refine ⟨a, b, rfl, rfl, g a b, rfl, ?_⟩
    cases hg : g a b with
    | true => exact hc H3 ((e.trans e2).trans e3) _ fun w H4 e4 r3 => ⟨b, c, rfl, r3, q _ H4 ((e2.trans e3).trans e4) (by rw [hg]; rfl)⟩
    | false => exact q _ H3 (e2.trans e3) (by rw [hg]; rfl)
/-- a way that can't be -/
theorem q_not {b : Bool} (h : Et t σ H b) (hb : b = false) (k : ∀ H1, Ex H H1 → tz D σ H1) : tSeq (tIfS t tu tNext) tz D σ H := q_when h (fun z => by rw [hb] at z; cases z) fun _ H1 e => k H1 e
theorem s_not {b : Bool} (h : Et t σ H b) (hb : b = false) (k : ∀ H1, Ex H H1 → D.nx σ H1) : tIfS t tu tNext D σ H := s_when h (fun z => by rw [hb] at z; cases z) fun _ H1 e => k H1 e
/-- a reading of which something is known -/
theorem pss_ex {X : Cx} {st : List Stmt} {ι : Type} {P : ι → Prop} {t : ι → TS} (h : ∀ z, P z → PSs X st (t z)) : PSs X st (fun D σ H => ∃ z, P z ∧ t z D σ H) :=
  ⟨fun pins s σ H D I ⟨z, hz, q⟩ => (h z hz).run pins s σ H D I q⟩
end

/-! ### kinds of errors -/
theorem kit_self {K : PySem.W.Frag} {C : Addr} : PySem.W.kitOne K (.ref C) (.ref C) = some true := by
  unfold PySem.W.kitOne
  rw [if_pos (by simp)]
theorem kit_base {K : PySem.W.Frag} {C : Addr} {T : String} {b : Bool} (h : PySem.W.subIn K (.ref C) (.type T) = some b) (hm : PySem.W.kitMeta T = true) : PySem.W.kitOne K (.ref C) (.type T) = some b := by
  unfold PySem.W.kitOne
  rw [if_neg (by intro z; cases (eq_of_beq z))]
  show (if PySem.W.kitMeta T = true then PySem.W.subIn K (.ref C) (.type T) else none) = some b
  rw [if_pos hm, h]
theorem kit_own {K : PySem.W.Frag} {C D : Addr} {b : Bool} (hne : C ≠ D) (h1 : PySem.W.isClsIn K D = true) (h2 : PySem.W.typeIn K (.ref D) = some (.type "type")) (h : PySem.W.subIn K (.ref C) (.ref D) = some b) : PySem.W.kitOne K (.ref C) (.ref D) = some b := by
  unfold PySem.W.kitOne
  rw [if_neg (by intro z; exact hne (Value.ref.inj (eq_of_beq z)))]
  show (if ((PySem.W.clsIn K D).isSome && PySem.W.typeIn K (.ref D) == some (.type "type")) = true then PySem.W.subIn K (.ref C) (.ref D) else none) = some b
  have e : (PySem.W.clsIn K D).isSome = true := h1
  rw [e, h2, h]
  rfl
end Dg

set_option maxRecDepth 100000
set_option maxHeartbeats 4000000
namespace PySem
set_option maxRecDepth 100000
set_option maxHeartbeats 1000000 in
theorem meets_enumerate_newB1 {v : Value} {o : Obj} {H : Heap → Prop} (B : Begins v o H) :
    Meets (Builtin.«enumerate.__new__» ⟨[.type "enumerate", v], []⟩) (fun _ R s => H s.heap ∧
      R (.ok (.ret (.ref (s.heap.push o).objs.size))) { s with heap := (s.heap.push o).push { cls := .type "enumerate", data := .fields #[.none, .bool false, .ref s.heap.objs.size, rawInt 0, .none, .none] } }) :=
  .of_wp fun prog w A R s h => by
    obtain ⟨hp, g, d, tk, os⟩ := s; obtain ⟨h1, h⟩ := h
    have hsub := sub_enumerate
    have q1 : ∀ {A' : Around} {E : Value → Shared → Prop} {Q : Value → Shared → Prop}, Q (.ref hp.objs.size) ⟨hp.push o, g, d, tk, os⟩ → wpAny (model prog w) A' (pyIter v) Q E ⟨hp, g, d, tk, os⟩ :=
      fun q => B.iter prog w _ _ ⟨hp, g, d, tk, os⟩ _ h1 q
    wp_walk using q1
    refine wpAny_stack_any fun st => wpAny_pure ?_
    split
    · rename_i c _ _ _ _ _
      cases (c == Value.type "enumerate")
      · wp_walk using q1
        exact ⟨_, rfl, h⟩
      · wp_walk using q1
        exact ⟨_, rfl, h⟩
    · wp_walk using q1
      exact ⟨_, rfl, h⟩
theorem enum_begins1 {prog : Program} {w : World} {A : Around} {E : Value → Shared → Prop} {s : Shared} {v : Value} {o : Obj} {H : Heap → Prop} {Q : Value → Shared → Prop} (B : Begins v o H) (h1 : H s.heap)
    (h : ∀ h', IsEnum h' (s.heap.objs.size + 1) s.heap.objs.size 0 .none → h'.get? s.heap.objs.size = some o → h'.objs.size = s.heap.objs.size + 2 →
      (∀ b o, s.heap.get? b = some o → h'.get? b = some o) → Q (.ref (s.heap.objs.size + 1)) { s with heap := h' }) :
    wpAny (model prog w) A (call (.type "enumerate") [v]) Q E s := by
  refine callType_new F.called_enumerate (by decide) (F.typeCall_enumerate_1 _) (F.newCall_enumerate_1 _) (fun obj => F.args_object_init_2 obj _) F.entry_enumerate_new
    (meets_enumerate_newB1 B) ⟨h1, ?_⟩
  have hz : (s.heap.push o).objs.size = s.heap.objs.size + 1 := Heap.size_push ..
  show _ ∧ _
  rw [hz]
  have he : IsEnum ((s.heap.push o).push { cls := .type "enumerate", data := .fields #[.none, .bool false, .ref s.heap.objs.size, rawInt 0, .none, .none] }) (s.heap.objs.size + 1) s.heap.objs.size 0 .none := by
    have := Heap.get?_push_size (s.heap.push o) (o := { cls := .type "enumerate", data := .fields #[.none, .bool false, .ref s.heap.objs.size, rawInt 0, .none, .none] }) rfl
    rw [hz] at this; exact this
  refine ⟨⟨_, he, rfl⟩, h _ he (Heap.get?_push_of_some _ (Heap.get?_push_size _ B.free)) (by rw [Heap.size_push, hz]) fun b o x => Heap.get?_push_of_some _ (Heap.get?_push_of_some _ x)⟩
end PySem
namespace Dg
open PySem PySem.Spec PyProof.Rows L2 Evl
/-! ### enumerate(tuple) -/
def IteT (K : PySem.W.Frag) (a : Addr) : It :=
  ⟨fun i H => ∃ (xs : List V) (x : V), SqT K H a xs ∧ xs[i]? = some x, fun i H v H' => ∃ T x, v = .ref T ∧ H T = none ∧ H' = upd H T (.tup [.int (i : Nat), x]) ∧ ∀ xs, SqT K H a xs → xs[i]? = some x, fun i H => ∃ xs : List V, SqT K H a xs ∧ xs.length ≤ i⟩
theorem tup_ne_iter {h : Heap} {a it : Addr} {i : Nat} {its : Array Value} (p : IsTup h a its) (q : h.IsTupleIter it a i) : a ≠ it := by
  rintro rfl
  obtain ⟨o, ho, hc, _⟩ := q
  obtain ⟨o', ho', hc', _⟩ := p
  rw [ho] at ho'
  cases ho'
  rw [hc] at hc'
  exact absurd (Value.type.inj hc') (by decide)
theorem enum_ne_tup {h : Heap} {a e it : Addr} {i : Int} {old : Value} {its : Array Value} (p : IsTup h a its) (q : IsEnum h e it i old) : e ≠ a := by
  rintro rfl
  obtain ⟨o', ho', hc', _⟩ := p
  have q' : h.get? e = some _ := q
  rw [q'] at ho'
  cases ho'
  exact absurd (Value.type.inj hc') (by decide)
theorem turn_enumT {P : Program} {w : World} {K : PySem.W.Frag} {elts : List Expr} {kk : Nat} {tpos : Pos} (a e it : Addr) :
    Turn P w K (.Tuple elts kk tpos) (IteT K a) [e, it] e (fun i h => (∃ old, IsEnum h e it ((i : Nat) : Int) old) ∧ h.IsTupleIter it a i ∧ e ≠ it) where
  mem := by simp
  obj := fun i h st b hb => by
    obtain ⟨⟨old, he⟩, ⟨o, ho, hc, hd⟩, _⟩ := st
    have e' : b = e ∨ b = it := by simpa using hb
    rcases e' with z | z
    · rw [z]; exact ⟨_, he, fun v q => nomatch q⟩
    · rw [z]; exact ⟨o, ho, fun v q => by rw [hd] at q; cases q⟩
  keep := fun i h h' st k => let ⟨⟨old, he⟩, hi, hne⟩ := st; ⟨⟨old, k e (by simp) _ he⟩, hi.at fun o q => k it (by simp) o q, hne⟩
  item := by
    intro X hP hw hK hc i pins s σ H E I hf st hg
    subst hP hw hK
    obtain ⟨⟨old, he⟩, hit, hne⟩ := st
    obtain ⟨xs, x, hq, hx⟩ := hg
    obtain ⟨its, rv, p, hz⟩ := I.tuple hq
    obtain ⟨u, hu, ru⟩ := rv.get hx
    have hel : e < s.heap.objs.size := Heap.lt_size he
    have hil : it < s.heap.objs.size := by obtain ⟨_, q, _⟩ := hit; exact Heap.lt_size q
    have hai := tup_ne_iter p hit
    have hea := enum_ne_tup p he
    have hlt : i < its.toArray.size := by
      have := List.getElem?_eq_some_iff.mp hu
      simpa using this.1
    refine wpAny_pyNext_enum_itemD (Draws.tuple (A := X.A.in1) (I.ok.hd hc) it a hai its.toArray) he ⟨hit, p⟩ hlt hne (by simp; exact ⟨hne, hea⟩) fun x' h' tk hx' ho hit' hT hsz hk => ?_
    have ex : x' = u := by
      have hx2 : its.toArray[i]? = some x' := hx'
      have hu2 : its.toArray[i]? = some u := by simpa using hu
      rw [hu2] at hx2
      exact (Option.some.inj hx2).symm
    subst ex
    refine ⟨_, rfl, wpAny_letOwnedTupleGo_enum (s := { s with heap := h', toks := tk + 1 }) ho fun h'' he' sb => ?_⟩
    have hT2 : h''.get? s.heap.objs.size = some { cls := .type "tuple", data := .seq #[.int i tk, x'] } := (sb.2 _ (Nat.ne_of_gt hel)).trans hT
    have new : ObjOk X.prog X.w (upd H s.heap.objs.size (.tup [.int (i : Nat), x])) h'' s.heap.objs.size (.tup [.int (i : Nat), x]) :=
      ⟨by show 2 ≤ sizeLine; decide, [.int i tk, x'], .cons ⟨_, rfl⟩ (.cons ru .nil), ⟨_, hT2, rfl, _, rfl⟩⟩
    have I1 : Inv X pins σ (upd H s.heap.objs.size (.tup [.int (i : Nat), x])) { s with heap := h'', toks := tk + 1 } :=
      I.turnedNew (ch := [e, it]) (fun b ob hb q => (sb.2 b (fun z => hb (by simp [z]))).trans (hk b ob (fun z => hb (by simp [z])) (fun z => hb (by simp [z])) q)) hf (Nat.le_refl _) new
    refine ⟨.ref s.heap.objs.size, _, I1, rfl, ⟨_, x, rfl, I.hok.fresh (Nat.le_refl _), rfl, fun ys hy => by rw [I.tuple_inj hy hq]; exact hx⟩, ⟨⟨x', ?_⟩, hit'.1.at fun o q => (sb.2 it (Ne.symm hne)).trans q, hne⟩, fun b hb => ?_⟩
    · have e1 : ((i + 1 : Nat) : Int) = (i : Int) + 1 := by omega
      rw [e1]; exact he'
    · have hb' : b < s.heap.objs.size := by
        have e' : b = e ∨ b = it := by simpa using hb
        rcases e' with z | z
        · rw [z]; exact hel
        · rw [z]; exact hil
      rw [upd_ne (Nat.ne_of_lt hb')]
      exact (hf b hb).1
  done := by
    intro X hP hw hK hc i pins s σ H E I hf st hg
    subst hP hw hK
    obtain ⟨⟨old, he⟩, hit, hne⟩ := st
    obtain ⟨xs, hq, hx⟩ := hg
    obtain ⟨its, rv, p, hz⟩ := I.tuple hq
    obtain ⟨f0, f1, f2, f3, f4, f5⟩ := hf it (by simp)
    have hl := rv.length
    have hT : s.TypeIs (.ref e) "enumerate" := ⟨_, he, rfl⟩
    unfold pyNext
    refine wpAny_bind (wpAny_attempt (wpAny_callSpecial?_slot (name := Str.ofString "__next__") hT F.slot_enumerate_next
      (wpAny_call_entry F.slot_enumerate_next hT F.entry_enumerate_next ?_ (F.args_enumerate_next_1 _))))
    show wpAny _ _ (field (.ref e) 2 >>= _) _ _ _
    refine wpAny_bind (wpAny_field he rfl (x := .ref it) rfl ?_)
    refine wpAny_bind (wpAny_nextOf_tuple_end (A := X.A.in1) (I.ok.hd hc) hit p (by simp; omega) fun h' x he' hx' => ?_)
    obtain ⟨o, ho, hcl⟩ := hx'
    refine wpAny_bind (wpAny_isInstance (T := "StopIteration") (b := true) ⟨o, ho, hcl⟩ isSubtype_stop ?_)
    exact wpAny_pure ⟨rfl, I.turned (t' := s.toks) (fun b o hb q => he' b o hb q) f0 f1 f3 f4 f5⟩
  self := fun A i s Q E st h => let ⟨⟨_, he⟩, _⟩ := st; wpAny_pyIter_enum he h
def iEnumT (K : PySem.W.Frag) (ta : TA) : TI := fun σ H R => ta σ H fun vs H1 => ∃ a xs, vs = [.ref a] ∧ SqT K H1 a xs ∧ R (IteT K a) H1
theorem pi_enumT {X : Cx} {e : Expr} {ta : TA} {p pos tpos : Pos} {elts : List Expr} {kk : Nat} (hg : Gl X "enumerate") (hm : X.mg "enumerate" = none) (ha : PA X [e] ta) (hs : starEach [e] X.env = [(false, eval e X.env)] := by rfl) :
    PI X (.Tuple elts kk tpos) (.Call (.Name "enumerate" p) [e] [] pos) (iEnumT X.K ta) := by
  refine ⟨fun pins s σ H R I h => ?_⟩
  refine Call_ (ld_blt I hg hm boot_enumerate (PyProof.Rows.callWith_type1 (thn (ha.run pos pins s σ H _ I h) fun us s1 ⟨vs, H1, I1, r1, q1⟩ => ?_) hs rfl))
  obtain ⟨a, xs, ex, hq, q⟩ := q1
  subst ex
  cases r1 with
  | cons r rr =>
    cases rr
    cases r
    obtain ⟨its, rv, p', hz⟩ := I1.tuple hq
    refine enum_begins1 (begins_tuple a its.toArray) p' fun h' he hit hsz hk => wpAny_pyIter_enum he ?_
    have I2 : Inv X pins σ H1 { s1 with heap := h' } := I1.kept (t' := s1.toks) hk
    refine ⟨s1.heap.objs.size + 1, [s1.heap.objs.size + 1, s1.heap.objs.size], _, _, H1, rfl, I2, turn_enumT a (s1.heap.objs.size + 1) s1.heap.objs.size, ⟨⟨.none, he⟩, ⟨_, hit, rfl, rfl⟩, Nat.succ_ne_self _⟩, fun b hb => ?_, q⟩
    have e' : b = s1.heap.objs.size + 1 ∨ b = s1.heap.objs.size := by simpa using hb
    have hle : s1.heap.objs.size ≤ b := by
      rcases e' with z | z
      · rw [z]; exact Nat.le_add_right _ _
      · rw [z]; exact Nat.le_refl _
    exact I1.fpOk hle (I1.hok.fresh hle)
theorem pi_enumTK {X : Cx} {e : Expr} {ta : TA} {p pos : Pos} (K : PySem.W.Frag) {tpos : Pos} {elts : List Expr} {kk : Nat} (hg : Gl X "enumerate") (hm : X.mg "enumerate" = none) (ha : PA X [e] ta) (h : X.K = K := by rfl) (hs : starEach [e] X.env = [(false, eval e X.env)] := by rfl) :
    PI X (.Tuple elts kk tpos) (.Call (.Name "enumerate" p) [e] [] pos) (iEnumT K ta) := by subst h; exact pi_enumT hg hm ha hs

/-! ### tuple * int -/
end Dg
namespace PySem
set_option maxRecDepth 100000
set_option maxHeartbeats 1000000
theorem tuple_mulS (l : Addr) (items : Array Value) (n : Nat) (dd : Option Addr) (sl : Array (Option Value)) (x : Int) (u : Tok) (c0 : (decide (x < -(2 ^ 63)) || decide (x ≥ 2 ^ 63)) = false) (c1 : (items.isEmpty || x == 1) = true) :
    Meets (Builtin.«tuple.__mul__» ⟨[.ref l, .int x u], []⟩) (fun _ R s => s.heap.get? l = some { cls := .type "tuple", dict := dd, data := .seq items n, slots := sl } ∧ R (.ok (.ret (Value.ref l))) s) :=
  .of_wp fun prog w A R s h => by
    obtain ⟨hp, g, d, tk, os⟩ := s
    obtain ⟨hl, h⟩ := h
    have f1 := AutoSeq1.idx_int
    wp_walk using AutoSeq1.wpAny_loadPart' hl
    repeat (first
      | (refine wpAny_ite_false (decide_eq_false (by rw [c0]; exact Bool.false_ne_true)) ?_; wp_walk using AutoSeq1.wpAny_loadPart' hl)
      | (refine wpAny_ite_true (decide_eq_true (by exact c1)) ?_; wp_walk using AutoSeq1.wpAny_loadPart' hl))
    exact ⟨_, rfl, h⟩
theorem tuple_mul0 (l : Addr) (items : Array Value) (n : Nat) (dd : Option Addr) (sl : Array (Option Value)) (x : Int) (u : Tok) (c0 : (decide (x < -(2 ^ 63)) || decide (x ≥ 2 ^ 63)) = false) (c1 : (items.isEmpty || x == 1) = false) (c2 : (decide (x ≤ 0) || items.isEmpty) = true) :
    Meets (Builtin.«tuple.__mul__» ⟨[.ref l, .int x u], []⟩) (fun _ R s => s.heap.get? l = some { cls := .type "tuple", dict := dd, data := .seq items n, slots := sl } ∧
      R (.ok (.ret (Value.ref s.heap.objs.size))) { s with heap := s.heap.push { cls := Value.type "tuple", data := Data.seq #[] }, toks := s.toks }) :=
  .of_wp fun prog w A R s h => by
    obtain ⟨hp, g, d, tk, os⟩ := s
    obtain ⟨hl, h⟩ := h
    have f1 := AutoSeq1.idx_int
    wp_walk using AutoSeq1.wpAny_loadPart' hl
    repeat (first
      | (refine wpAny_ite_false (decide_eq_false (by rw [c0]; exact Bool.false_ne_true)) ?_; wp_walk using AutoSeq1.wpAny_loadPart' hl)
      | (refine wpAny_ite_false (decide_eq_false (by rw [c1]; exact Bool.false_ne_true)) ?_; wp_walk using AutoSeq1.wpAny_loadPart' hl)
      | (refine wpAny_ite_true (decide_eq_true (by exact c2)) ?_; wp_walk using AutoSeq1.wpAny_loadPart' hl))
    exact ⟨_, rfl, h⟩
end PySem
namespace Dg
open PySem PySem.Spec PyProof.Rows L2 Evl
section
variable {X : Cx}
def rRepTA (K : PySem.W.Frag) : R2 := fun x y H Q => ∃ l k xs, x = .ref l ∧ y = .int k ∧ SqT K H l xs ∧ -1000000 ≤ k ∧ k ≤ 1000 ∧ xs.length ≤ 1000 ∧
  (xs = [] ∨ k = 1 → Q (.ref l) H) ∧ (xs ≠ [] → k ≠ 1 → ∀ p, H p = none → Q (.ref p) (upd H p (.tup (List.replicate k.toNat xs).flatten)))
theorem op_repTA : OpR X (binaryOp .Mult) (rRepTA X.K) := by
  intro pins s σ H x y v u Q I rx ry h
  obtain ⟨l, k, xs, rfl, rfl, hT, h0, h1, hz, q1, q2⟩ := h
  by_cases hs : xs = [] ∨ k = 1
  · cases rx
    obtain ⟨t, rfl⟩ := ry
    obtain ⟨its, r, ⟨⟨cls, dd, data, sl⟩, ho, hc, n, hd⟩, hz'⟩ := I.tuple hT
    simp only at hc hd
    subst hc hd
    have c0 : (decide (k < -(2 ^ 63)) || decide (k ≥ 2 ^ 63)) = false := by
      rw [decide_eq_false (by omega), decide_eq_false (by omega)] <;> rfl
    have c1 : (its.toArray.isEmpty || k == 1) = true := by
      rcases hs with hs | hs
      · subst hs
        cases r
        rfl
      · rw [hs, Bool.or_eq_true]
        exact .inr rfl
    exact wpAny_binaryOp_repeat_ref (T := "tuple") (U := "int") (by decide) ⟨_, ho, rfl⟩ (fun s' => typeIs_int s' k t) noFill_tuple_mul F.fills_int_mul F.slot_int_rmul repeat_tuple F.slot_int_index.lookup
      (call_meets F.slot_int_rmul (typeIs_int s k t) F.entry_int_rmul (F.args_int_rmul_2 _ _) (int_rmul_tuple k t l its.toArray n dd sl)
        ⟨ho, rfl, ⟨_, ho, rfl⟩, call_meets F.slot_tuple_mul ⟨_, ho, rfl⟩ F.entry_tuple_mul (F.args_tuple_mul_2 _ _) (tuple_mulS l its.toArray n dd sl k t c0 c1) ⟨ho, ⟨.ref l, H, I, rfl, q1 hs⟩⟩⟩)
  · have hne : xs ≠ [] := fun z => hs (.inl z)
    have hk1 : k ≠ 1 := fun z => hs (.inr z)
    by_cases h2 : 2 ≤ k
    · exact op_repT pins s σ H _ _ v u Q I rx ry ⟨l, k, xs, rfl, rfl, hT, hne, h2, h1, hz, q2 hne hk1⟩
    · cases rx
      obtain ⟨t, rfl⟩ := ry
      obtain ⟨its, r, ⟨⟨cls, dd, data, sl⟩, ho, hc, n, hd⟩, hz'⟩ := I.tuple hT
      simp only at hc hd
      subst hc hd
      have c0 : (decide (k < -(2 ^ 63)) || decide (k ≥ 2 ^ 63)) = false := by
        rw [decide_eq_false (by omega), decide_eq_false (by omega)] <;> rfl
      have hi : its.toArray.isEmpty = false := by
        cases its with
        | nil => cases r; exact absurd rfl hne
        | cons a b => rfl
      have c1 : (its.toArray.isEmpty || k == 1) = false := by
        rw [hi, Bool.false_or]
        exact beq_eq_false_iff_ne.mpr hk1
      have c2 : (decide (k ≤ 0) || its.toArray.isEmpty) = true := by
        rw [decide_eq_true (show k ≤ 0 by omega)] <;> rfl
      refine wpAny_binaryOp_repeat_ref (T := "tuple") (U := "int") (by decide) ⟨_, ho, rfl⟩ (fun s' => typeIs_int s' k t) noFill_tuple_mul F.fills_int_mul F.slot_int_rmul repeat_tuple F.slot_int_index.lookup
        (call_meets F.slot_int_rmul (typeIs_int s k t) F.entry_int_rmul (F.args_int_rmul_2 _ _) (int_rmul_tuple k t l its.toArray n dd sl)
          ⟨ho, rfl, ⟨_, ho, rfl⟩, call_meets F.slot_tuple_mul ⟨_, ho, rfl⟩ F.entry_tuple_mul (F.args_tuple_mul_2 _ _) (tuple_mul0 l its.toArray n dd sl k t c0 c1 c2) ⟨ho, ?_⟩⟩)
      have ek : k.toNat = 0 := by omega
      have q3 := q2 hne hk1 _ (I.hok.fresh (Nat.le_refl _))
      rw [ek] at q3
      refine ⟨.ref s.heap.objs.size, _, I.laid (t' := s.toks) (o := .tup []) (fun b ob q => Heap.get?_push_of_some _ q) (Nat.le_refl _) ⟨Nat.zero_le _, [], .nil, IsTup.new _ _⟩, rfl, q3⟩
theorem op_repTAK (K : PySem.W.Frag) (h : X.K = K := by rfl) : OpR X (binaryOp .Mult) (rRepTA K) := by subst h; exact op_repTA
end
section
variable {α : Type} {K : PySem.W.Frag} {H : Hp} {σ : L2.St} {ta tb te tl : TE} {R : Rp α}
theorem repL_one (x : α) (k : Int) : repL [x] k = List.replicate k.toNat x := by
  unfold repL
  induction k.toNat with
  | zero => rfl
  | succ n ih => rw [List.replicate_succ, List.flatten_cons, ih, List.replicate_succ]; rfl
theorem er_repT [Me R] {xs : List α} {k : Int} (ha : Er (rT K R) ta σ H xs) (hb : Er rI tb σ H k) (h0 : -1000000 ≤ k ∧ k ≤ 1000) (hl : xs.length ≤ 1000) : Er (rT K R) (tOp (rRepTA K) ta tb) σ H (repL xs k) := fun H1 e Q q =>
  ha H1 e _ fun v H2 e2 r1 => hb H2 (e.trans e2) _ fun w H3 e3 r2 => by
    cases r2
    obtain ⟨a, vs, rfl, h1, h2⟩ := r1
    refine ⟨a, k, vs, rfl, rfl, ex_t e3 h1, h0.1, h0.2, by rw [← paired_len h2]; exact hl, fun z => ?_, fun _ _ p np => ?_⟩
    · refine q _ H3 (e2.trans e3) ⟨a, vs, rfl, ex_t e3 h1, ?_⟩
      rcases z with z | z
      · subst z
        cases h2
        unfold repL
        simp
        exact .nil
      · subst z
        unfold repL
        simp
        exact pm h2 fun _ _ z => Me.ex e3 z
    · exact q _ _ ((e2.trans e3).trans (Ex.new np)) ⟨p, _, rfl, SqT.of upd_same, paired_flat (pm h2 fun _ _ z => Me.ex (e3.trans (Ex.new np)) z) k.toNat⟩
end
/-! ### max with a default -/
theorem holdI {h : Heap} : ∀ {us : List Value} {ns : List Int}, IntsAre us ns → ReadsAll h us (ns.map PySem.W.Datum.toD) ((ns.map fun _ => []).flatten)
  | [], [], .nil => ReadsAll.nil
  | _ :: _, n :: ns, .cons _ k r => by
    show ReadsAll h _ _ ([] ++ (ns.map fun _ => []).flatten)
    exact ReadsAll.cons (Reads.int n k) (holdI r)
def mxI (x : Int) (xs : List Int) : Int := xs.foldl (fun a b => if a < b then b else a) x
def mxD (d : Int) : List Int → Int
  | [] => d
  | x :: xs => mxI x xs
theorem mxI_eq (x : Int) (xs : List Int) : PySem.W.maxOf x xs = mxI x xs := by
  unfold PySem.W.maxOf mxI
  congr 1
  funext a y
  show (if PySem.W.DatumOrd.lt a y = true then y else a) = _
  show (if decide (a < y) = true then y else a) = _
  simp only [decide_eq_true_eq]
theorem mxI_le : ∀ (xs : List Int) (x : Int), x ≤ mxI x xs ∧ ∀ y ∈ xs, y ≤ mxI x xs
  | [], x => ⟨Int.le_refl _, fun _ h => nomatch h⟩
  | z :: xs, x => by
    have h := mxI_le xs (if x < z then z else x)
    have e : mxI x (z :: xs) = mxI (if x < z then z else x) xs := rfl
    rw [e]
    refine ⟨?_, fun y hy => ?_⟩
    · have := h.1
      split at this <;> split <;> omega
    · rcases List.mem_cons.mp hy with hy | hy
      · subst hy
        have := h.1
        split at this <;> split <;> omega
      · exact h.2 y hy
theorem mxI_mem : ∀ (xs : List Int) (x : Int), mxI x xs = x ∨ mxI x xs ∈ xs
  | [], x => .inl rfl
  | z :: xs, x => by
    have e : mxI x (z :: xs) = mxI (if x < z then z else x) xs := rfl
    rw [e]
    rcases mxI_mem xs (if x < z then z else x) with h | h
    · rw [h]
      split
      · exact .inr (List.mem_cons_self ..)
      · exact .inl rfl
    · exact .inr (List.mem_cons_of_mem _ h)
section
variable {X : Cx} {e d : Expr} {te td : TE} {x : Str} {p pos kpos : Pos}
def tMaxd (K : PySem.W.Frag) (ta tk : TA) : TE := fun σ H Q => ta σ H fun vs H1 => tk σ H1 fun ws H2 => ∃ (a : Addr) (ns : List Int) (k : Int), vs = [.ref a] ∧ ws = [.int k] ∧ SqL K H2 a (ns.map V.int) ∧ Q (.int (mxD k ns)) H2
theorem pe_maxd (hg : Gl X "max") (hm : X.mg "max" = none) (hb : bootBuiltins "max" = some (.builtin "max")) (hu : X.A.units + 64 < cLine) (hc : X.calm = true) (he : PE X e te) (hd : PE X d td)
    (hs : starEach [e] X.env = (false, eval e X.env) :: starEach [] X.env := by rfl) : PE X (.Call (.Name "max" p) [e] [⟨some "default", d, kpos⟩] pos) (tMaxd X.K (tCons te tNil) (tCons td tNil)) := by
  refine ⟨fun pins s σ H Q I h => ?_⟩
  refine wpAny_Call_Name_kw (ld_blt I hg hm hb ?_)
  refine PyProof.Rows.callWith_kw ?_ (by rw [hs]; rfl) (by rw [hs]; rfl)
  refine thn ((pa_cons he pa_nil hs).run pos pins s σ H _ I h) fun us s1 ⟨vs, H1, I1, r1, q1⟩ => ?_
  refine thn ((pk_cons (nm := some "default") (kpos := kpos) hd pk_nil).run pos pins s1 σ H1 _ I1 q1) fun ws s2 ⟨zs, H2, I2, rz, a, ns, k, e1, e2, hL, q2⟩ => ?_
  subst e1 e2
  obtain ⟨its, rv, hl, _⟩ := I2.list hL
  rw [Vals.ref1 r1]
  cases rz with
  | cons r rr =>
    cases rr
    obtain ⟨t, rfl⟩ := r
    refine PySem.W.max_list_datum_default (xs := ns) (I2.ok.hd hc) hl.isList ⟨_, holdI rv.ints⟩ (by show X.A.units + 1 + 0 < cLine; omega) (fun e h' tk hk => ?_) fun y ys i v h' tk e hi hv hk => ?_
    · subst e
      exact ⟨.int k, H2, I2.kept hk, ⟨_, rfl⟩, q2⟩
    · subst e
      obtain ⟨as, rd⟩ := hv
      rw [mxI_eq] at rd
      cases rd
      exact ⟨.int _, H2, I2.kept hk, ⟨_, rfl⟩, q2⟩
theorem pe_maxdK (K : PySem.W.Frag) (hg : Gl X "max") (hm : X.mg "max" = none) (hb : bootBuiltins "max" = some (.builtin "max")) (hu : X.A.units + 64 < cLine) (hc : X.calm = true) (he : PE X e te) (hd : PE X d td) (h : X.K = K := by rfl)
    (hs : starEach [e] X.env = (false, eval e X.env) :: starEach [] X.env := by rfl) : PE X (.Call (.Name "max" p) [e] [⟨some "default", d, kpos⟩] pos) (tMaxd K (tCons te tNil) (tCons td tNil)) := by subst h; exact pe_maxd hg hm hb hu hc he hd hs
end
section
variable {K : PySem.W.Frag} {H : Hp} {σ : L2.St} {ta tb te tl : TE}
theorem er_maxd {xs : List Int} {k : Int} (ha : Er (rL K rI) ta σ H xs) (hb : Er rI tb σ H k) : Er rI (tMaxd K (tCons ta tNil) (tCons tb tNil)) σ H (mxD k xs) := fun H1 e Q q =>
  ha H1 e _ fun v H2 e2 r1 => hb H2 (e.trans e2) _ fun w H3 e3 r2 => by
    cases r2
    obtain ⟨a, vs, rfl, h1, h2⟩ := r1
    have e4 := pI h2
    subst e4
    exact ⟨a, xs, k, rfl, rfl, ex_l e3 h1, q _ H3 (e2.trans e3) rfl⟩
end
/-! ### data compared -/
class Rd {α : Type} (K : PySem.W.Frag) (R : Rp α) where
  to : α → PyData
  dep : Nat
  dp : ∀ {H : Hp} {x : α} {v : V}, R H x v → Dp K H v (to x)
  lay : ∀ x, (to x).canLay0 = true
  dle : ∀ x, (to x).depth ≤ dep
  eqv : ∀ x y, (PyData.eqv (to x) (to y) = true) ↔ x = y
section
variable {α β : Type} {K : PySem.W.Frag}
instance : Rd K rI where
  to := .int
  dep := 0
  dp h := by cases h; exact .int _
  lay _ := by simp only [PyData.canLay0]
  dle _ := by simp only [PyData.depth]; exact Nat.le_refl _
  eqv x y := by simp only [PyData.eqv, beq_iff_eq]
instance : Rd K rB where
  to := .bool
  dep := 0
  dp h := by cases h; exact .bl _
  lay _ := by simp only [PyData.canLay0]
  dle _ := by simp only [PyData.depth]; exact Nat.le_refl _
  eqv x y := by simp only [PyData.eqv, beq_iff_eq]
instance : Rd K rN where
  to _ := .none
  dep := 0
  dp h := by cases h; exact .non
  lay _ := by simp only [PyData.canLay0]
  dle _ := by simp only [PyData.depth]; exact Nat.le_refl _
  eqv x y := by simp only [PyData.eqv]
theorem dpAll_of {R : Rp α} (f : α → PyData) {H : Hp} (h : ∀ {x v}, R H x v → Dp K H v (f x)) : ∀ {xs : List α} {vs : List V}, Paired (R H) xs vs → DpAll K H vs (xs.map f)
  | _, _, .nil => .nil
  | _, _, .cons r t => .cons (h r) (dpAll_of f h t)
theorem layAll_of (f : α → PyData) (h : ∀ x, (f x).canLay0 = true) : ∀ xs : List α, PyData.canLayAll0 (xs.map f) = true
  | [] => by simp only [List.map_nil, PyData.canLayAll0]
  | x :: xs => by simp only [List.map_cons, PyData.canLayAll0, h x, layAll_of f h xs, Bool.and_self]
theorem depAll_of (f : α → PyData) {n : Nat} (h : ∀ x, (f x).depth ≤ n) : ∀ xs : List α, PyData.depthAll (xs.map f) ≤ n
  | [] => by simp only [List.map_nil, PyData.depthAll]; omega
  | x :: xs => by
    have h1 := h x
    have h2 := depAll_of f h xs
    simp only [List.map_cons, PyData.depthAll]
    omega
theorem eqvAll_of (f : α → PyData) (h : ∀ x y, (PyData.eqv (f x) (f y) = true) ↔ x = y) : ∀ xs ys : List α, (PyData.eqvAll (xs.map f) (ys.map f) = true) ↔ xs = ys
  | [], [] => by simp [PyData.eqvAll]
  | [], _ :: _ => by simp [PyData.eqvAll]
  | _ :: _, [] => by simp [PyData.eqvAll]
  | x :: xs, y :: ys => by simp only [List.map_cons, PyData.eqvAll, Bool.and_eq_true, h x y, eqvAll_of f h xs ys, List.cons.injEq]
instance {R : Rp α} [r : Rd K R] : Rd K (rT K R) where
  to xs := .tuple (xs.map r.to)
  dep := r.dep + 1
  dp h := by obtain ⟨a, vs, rfl, h1, h2⟩ := h; exact .tup h1 (dpAll_of r.to (fun q => r.dp q) h2)
  lay xs := by simp only [PyData.canLay0]; exact layAll_of _ r.lay xs
  dle xs := by simp only [PyData.depth]; exact Nat.succ_le_succ (depAll_of _ r.dle xs)
  eqv xs ys := by simp only [PyData.eqv]; exact eqvAll_of _ r.eqv xs ys
instance {R : Rp α} [r : Rd K R] : Rd K (rL K R) where
  to xs := .list (xs.map r.to)
  dep := r.dep + 1
  dp h := by obtain ⟨a, vs, rfl, h1, h2⟩ := h; exact .lst h1 (dpAll_of r.to (fun q => r.dp q) h2)
  lay xs := by simp only [PyData.canLay0]; exact layAll_of _ r.lay xs
  dle xs := by simp only [PyData.depth]; exact Nat.succ_le_succ (depAll_of _ r.dle xs)
  eqv xs ys := by simp only [PyData.eqv]; exact eqvAll_of _ r.eqv xs ys
instance {R : Rp α} {S : Rp β} [r : Rd K R] [s : Rd K S] : Rd K (r2 K R S) where
  to x := .tuple [r.to x.1, s.to x.2]
  dep := max r.dep s.dep + 1
  dp h := by obtain ⟨a, u, w, rfl, h1, h2, h3⟩ := h; exact .tup h1 (.cons (r.dp h2) (.cons (s.dp h3) .nil))
  lay x := by simp only [PyData.canLay0, PyData.canLayAll0, r.lay, s.lay, Bool.and_self]
  dle x := by
    have h1 := r.dle x.1
    have h2 := s.dle x.2
    simp only [PyData.depth, PyData.depthAll]
    omega
  eqv x y := by
    simp only [PyData.eqv, PyData.eqvAll, Bool.and_eq_true, r.eqv, s.eqv, and_true]
    exact ⟨fun h => Prod.ext h.1 h.2, fun h => by rw [h]; exact ⟨rfl, rfl⟩⟩
variable {R : Rp α} {H : Hp} {σ : L2.St} {ta tb : TE} {x y : α}
theorem Rd.shaped [r : Rd K R] (h : r.dep ≤ 64 := by exact Nat.le_of_ble_eq_true rfl) (x : α) : SeqAt.shaped (r.to x) = true := by
  unfold SeqAt.shaped
  rw [r.lay x, Bool.true_and]
  exact decide_eq_true (Nat.le_trans (r.dle x) h)
theorem er_eqD [DecidableEq α] [Me R] [r : Rd K R] (ha : Er R ta σ H x) (hb : Er R tb σ H y) (h : r.dep ≤ 64 := by exact Nat.le_of_ble_eq_true rfl) : Er rB (tOp (rEqD K) ta tb) σ H (decide (x = y)) := fun H1 e Q q =>
  ha H1 e _ fun v H2 e2 r1 => hb H2 (e.trans e2) _ fun w H3 e3 r2 => ⟨r.to x, r.to y, r.dp (Me.ex e3 r1), r.dp r2, Rd.shaped h x, Rd.shaped h y, by
    rw [show PyData.eqv (r.to x) (r.to y) = decide (x = y) by rw [Bool.eq_iff_iff, decide_eq_true_eq]; exact r.eqv x y]
    exact q _ H3 (e2.trans e3) rfl⟩
theorem er_neD [DecidableEq α] [Me R] [r : Rd K R] (ha : Er R ta σ H x) (hb : Er R tb σ H y) (h : r.dep ≤ 64 := by exact Nat.le_of_ble_eq_true rfl) : Er rB (tOp (rNeD K) ta tb) σ H (!decide (x = y)) := fun H1 e Q q =>
  ha H1 e _ fun v H2 e2 r1 => hb H2 (e.trans e2) _ fun w H3 e3 r2 => ⟨r.to x, r.to y, r.dp (Me.ex e3 r1), r.dp r2, Rd.shaped h x, Rd.shaped h y, by
    rw [show PyData.eqv (r.to x) (r.to y) = decide (x = y) by rw [Bool.eq_iff_iff, decide_eq_true_eq]; exact r.eqv x y]
    exact q _ H3 (e2.trans e3) rfl⟩
end
section
variable {X : Cx}
theorem op_eqDK (K : PySem.W.Frag) (hu : X.A.units + 64 < cLine) (h : X.K = K := by rfl) : OpR X (compareOp .Eq) (rEqD K) := by subst h; exact op_eqD hu
theorem op_neDK (K : PySem.W.Frag) (hu : X.A.units + 64 < cLine) (h : X.K = K := by rfl) : OpR X (compareOp .NotEq) (rNeD K) := by subst h; exact op_neD hu
end
section
variable {α : Type} {K : PySem.W.Frag} {H : Hp} {σ : L2.St} {R : Rp α} {D : Ends} {tu tz : TS} {j : Nat}
theorem s_forET {ta : TE} {g : TG} {xs : List α} (h : Er (rT K R) ta σ H xs) (k : ∀ v H1, Ex H H1 → rT K R H1 xs v → ∀ a, v = .ref a → Fl (IteT K a) g tu D σ H1) : tFor (iEnumT K (tCons ta tNil)) g tu D σ H :=
  h H (Ex.refl H) _ fun v H1 e r => by
    obtain ⟨a, vs, h1, h2, h3⟩ := id r
    exact ⟨a, vs, by rw [h1], h2, k v H1 e r a h1⟩
theorem fl_ET {i0 : Nat} {xs : List α} {v : V} (r : rT K R H xs v) (Pv : Nat → L2.St → Hp → Prop) (h0 : Pv 0 σ H) (hG : ∀ i σ H', i ≤ xs.length → Pv i σ H' → rT K R H' xs v)
    (hs : ∀ i x u σ H' H'', i < (enm xs).length → (enm xs)[i]? = some x → Pv i σ H' → Ex H' H'' → R H' x.2 u → tu { D with nx := Pv (i + 1), ct := Pv (i + 1), bk := D.nx } ((σ.set i0 (some (.int x.1))).set j (some u)) H'') (hd : ∀ σ H', Pv (enm xs).length σ H' → D.nx σ H') :
    ∀ a, v = .ref a → Fl (IteT K a) (g2 K i0 j) tu D σ H := by
  rintro a rfl
  have hle := enm_len xs
  refine fl_core (n := xs.length) Pv h0 (fun i σ H' hi p => ?_) (fun σ H' p => ?_) (fun i x σ H' H'' hi p y => ?_) (fun σ H' p => hd σ H' (by rw [hle]; exact p))
  · obtain ⟨_, vs, h1, h2, h3⟩ := hG i σ H' (by omega) p
    cases h1
    have hl := paired_len h3
    exact ⟨vs, vs[i]'(by omega), h2, List.getElem?_eq_getElem _⟩
  · obtain ⟨_, vs, h1, h2, h3⟩ := hG _ σ H' (Nat.le_refl _) p
    cases h1
    exact ⟨vs, h2, by rw [paired_len h3]; exact Nat.le_refl _⟩
  · obtain ⟨_, vs, h1, h2, h3⟩ := hG i σ H' (by omega) p
    cases h1
    obtain ⟨T, u, rfl, nT, rfl, y⟩ := y
    have hx := y vs h2
    obtain ⟨z, hz, rz⟩ := paired_get' h3 hx
    exact ⟨T, [.int (i : Nat), u], rfl, SqT.of upd_same, rfl, _, _, rfl, _, _, rfl, rfl, hs i ((i : Int), z) u σ H' _ (by omega) (enm_get hz) p (Ex.new nT) rz⟩
theorem fl_ETI {i0 : Nat} {xs : List Int} {v : V} (r : rT K rI H xs v) (Pv : Nat → L2.St → Hp → Prop) (h0 : Pv 0 σ H) (hG : ∀ i σ H', i ≤ xs.length → Pv i σ H' → rT K rI H' xs v)
    (hs : ∀ i x σ H' H'', i < (enm xs).length → (enm xs)[i]? = some x → Pv i σ H' → Ex H' H'' → tu { D with nx := Pv (i + 1), ct := Pv (i + 1), bk := D.nx } ((σ.set i0 (some (.int x.1))).set j (some (.int x.2))) H'') (hd : ∀ σ H', Pv (enm xs).length σ H' → D.nx σ H') :
    ∀ a, v = .ref a → Fl (IteT K a) (g2 K i0 j) tu D σ H := fl_ET r Pv h0 hG (fun i x u σ H' H'' hi hx p e r => by cases r; exact hs i x σ H' H'' hi hx p e) hd

theorem q_forET {ta : TE} {g : TG} {xs : List α} (h : Er (rT K R) ta σ H xs) (k : ∀ v H1, Ex H H1 → rT K R H1 xs v → ∀ a, v = .ref a → Fl (IteT K a) g tu { D with nx := tz D } σ H1) : tSeq (tFor (iEnumT K (tCons ta tNil)) g tu) tz D σ H := s_forET (D := { D with nx := tz D }) h k
theorem fq_ET {i0 : Nat} {xs : List α} {v : V} (r : rT K R H xs v) (Pv : Nat → L2.St → Hp → Prop) (h0 : Pv 0 σ H) (hG : ∀ i σ H', i ≤ xs.length → Pv i σ H' → rT K R H' xs v)
    (hs : ∀ i x u σ H' H'', i < (enm xs).length → (enm xs)[i]? = some x → Pv i σ H' → Ex H' H'' → R H' x.2 u → tu { nx := Pv (i + 1), rt := D.rt, bk := tz D, ct := Pv (i + 1) } ((σ.set i0 (some (.int x.1))).set j (some u)) H'') (hd : ∀ σ H', Pv (enm xs).length σ H' → tz D σ H') :
    ∀ a, v = .ref a → Fl (IteT K a) (g2 K i0 j) tu { D with nx := tz D } σ H := fl_ET (D := { D with nx := tz D }) r Pv h0 hG hs hd
theorem fq_ETI {i0 : Nat} {xs : List Int} {v : V} (r : rT K rI H xs v) (Pv : Nat → L2.St → Hp → Prop) (h0 : Pv 0 σ H) (hG : ∀ i σ H', i ≤ xs.length → Pv i σ H' → rT K rI H' xs v)
    (hs : ∀ i x σ H' H'', i < (enm xs).length → (enm xs)[i]? = some x → Pv i σ H' → Ex H' H'' → tu { nx := Pv (i + 1), rt := D.rt, bk := tz D, ct := Pv (i + 1) } ((σ.set i0 (some (.int x.1))).set j (some (.int x.2))) H'') (hd : ∀ σ H', Pv (enm xs).length σ H' → tz D σ H') :
    ∀ a, v = .ref a → Fl (IteT K a) (g2 K i0 j) tu { D with nx := tz D } σ H := fl_ETI (D := { D with nx := tz D }) r Pv h0 hG hs hd
end
section
variable {α β ι : Type} {K : PySem.W.Frag} {H : Hp} {σ : L2.St} {ta tb te tl : TE} {tt : TT} {R : Rp α} {Ri : Rp β} {vs : List Nat} {j : Nat}
theorem el_lcELc [Me R] [Mkt K R] [Me Ri] {i0 : Nat} {xs : List β} {c : Int × β → Bool} {f : Int × β → α} (h : Er (rL K Ri) tl σ H xs) (hb : xs.length < 1000000) (hw : ∀ x y, wipe (((wipe σ vs).set i0 (some x)).set j (some y)) vs = wipe σ vs)
    (ht : ∀ x v H1, Ex H H1 → x ∈ enm xs → Ri H1 x.2 v → Et tt (((wipe σ vs).set i0 (some (.int x.1))).set j (some v)) H1 (c x)) (he : ∀ x v H1, Ex H H1 → x ∈ enm xs → Ri H1 x.2 v → c x = true → Er R te (((wipe σ vs).set i0 (some (.int x.1))).set j (some v)) H1 (f x)) :
    El R (tLc (iEnum K (tCons tl tNil)) (g2 K i0 j) tt te vs) σ H (((enm xs).filter c).map f) := fun H1 e1 Q q =>
  h H1 e1 _ fun v H2 e2 r => by
    obtain ⟨a, us, rfl, hs, hp⟩ := r
    have hl := paired_len hp
    have hle := enm_len xs
    refine ⟨a, us, rfl, hs, el_core (K := K) (R := R) (J := Ite K a) (xs := enm xs) c f (by omega) (fun i H' e3 h => ⟨us, us[i]'(by omega), ex_l e3 hs, List.getElem?_eq_getElem _⟩) (fun H' e3 => ⟨us, ex_l e3 hs, by omega⟩) (fun i x u H' H'' C hx e3 y k => ?_) Q fun p H3 n3 e3 l3 => q p H3 (fresh_back e2 n3) (e2.trans e3) l3⟩
    obtain ⟨T, u', rfl, nT, rfl, y⟩ := y
    obtain ⟨n0, z0⟩ := x
    have ea := enm_at hx
    obtain rfl : n0 = (i : Int) := ea.1
    obtain ⟨u2, hu, ru⟩ := paired_get hp ea.2
    have eu := y us (ex_l e3 hs)
    rw [hu] at eu
    cases eu
    have eN := Ex.new (o := .tup [.int (i : Nat), u']) nT
    have e9 := ((e1.trans e2).trans e3).trans eN
    have hm := List.mem_of_getElem? hx
    refine ⟨T, [.int (i : Nat), u'], rfl, SqT.of upd_same, rfl, _, _, rfl, _, _, rfl, rfl, k _ _ eN ⟨hw _ _, ?_, fun hc => ?_⟩⟩
    · exact ht ((i : Int), z0) u' _ e9 hm (Me.ex (e3.trans eN) ru)
    · exact he ((i : Int), z0) u' _ e9 hm (Me.ex (e3.trans eN) ru) hc
theorem el_lcEL [Me R] [Mkt K R] [Me Ri] {i0 : Nat} {xs : List β} {f : Int × β → α} (h : Er (rL K Ri) tl σ H xs) (hb : xs.length < 1000000) (hw : ∀ x y, wipe (((wipe σ vs).set i0 (some x)).set j (some y)) vs = wipe σ vs)
    (he : ∀ x v H1, Ex H H1 → x ∈ enm xs → Ri H1 x.2 v → Er R te (((wipe σ vs).set i0 (some (.int x.1))).set j (some v)) H1 (f x)) :
    El R (tLc (iEnum K (tCons tl tNil)) (g2 K i0 j) tYes te vs) σ H ((enm xs).map f) := by
  have z := el_lcELc (K := K) (c := fun _ => true) (f := f) h hb hw (fun _ _ _ _ _ _ => et_yes) fun x v H1 e hx r _ => he x v H1 e hx r
  rw [List.filter_eq_self.mpr fun _ _ => rfl] at z
  exact z
theorem el_lcELIc [Me R] [Mkt K R] {i0 : Nat} {xs : List Int} {c : Int × Int → Bool} {f : Int × Int → α} (h : Er (rL K rI) tl σ H xs) (hb : xs.length < 1000000) (hw : ∀ x y, wipe (((wipe σ vs).set i0 (some x)).set j (some y)) vs = wipe σ vs)
    (ht : ∀ x H1, Ex H H1 → x ∈ enm xs → Et tt (((wipe σ vs).set i0 (some (.int x.1))).set j (some (.int x.2))) H1 (c x)) (he : ∀ x H1, Ex H H1 → x ∈ enm xs → c x = true → Er R te (((wipe σ vs).set i0 (some (.int x.1))).set j (some (.int x.2))) H1 (f x)) :
    El R (tLc (iEnum K (tCons tl tNil)) (g2 K i0 j) tt te vs) σ H (((enm xs).filter c).map f) :=
  el_lcELc h hb hw (fun x v H1 e hx r => by cases r; exact ht x H1 e hx) fun x v H1 e hx r hc => by cases r; exact he x H1 e hx hc
theorem el_lcELI [Me R] [Mkt K R] {i0 : Nat} {xs : List Int} {f : Int × Int → α} (h : Er (rL K rI) tl σ H xs) (hb : xs.length < 1000000) (hw : ∀ x y, wipe (((wipe σ vs).set i0 (some x)).set j (some y)) vs = wipe σ vs)
    (he : ∀ x H1, Ex H H1 → x ∈ enm xs → Er R te (((wipe σ vs).set i0 (some (.int x.1))).set j (some (.int x.2))) H1 (f x)) :
    El R (tLc (iEnum K (tCons tl tNil)) (g2 K i0 j) tYes te vs) σ H ((enm xs).map f) :=
  el_lcEL h hb hw fun x v H1 e hx r => by cases r; exact he x H1 e hx
theorem el_lcETc [Me R] [Mkt K R] [Me Ri] {i0 : Nat} {xs : List β} {c : Int × β → Bool} {f : Int × β → α} (h : Er (rT K Ri) tl σ H xs) (hb : xs.length < 1000000) (hw : ∀ x y, wipe (((wipe σ vs).set i0 (some x)).set j (some y)) vs = wipe σ vs)
    (ht : ∀ x v H1, Ex H H1 → x ∈ enm xs → Ri H1 x.2 v → Et tt (((wipe σ vs).set i0 (some (.int x.1))).set j (some v)) H1 (c x)) (he : ∀ x v H1, Ex H H1 → x ∈ enm xs → Ri H1 x.2 v → c x = true → Er R te (((wipe σ vs).set i0 (some (.int x.1))).set j (some v)) H1 (f x)) :
    El R (tLc (iEnumT K (tCons tl tNil)) (g2 K i0 j) tt te vs) σ H (((enm xs).filter c).map f) := fun H1 e1 Q q =>
  h H1 e1 _ fun v H2 e2 r => by
    obtain ⟨a, us, rfl, hs, hp⟩ := r
    have hl := paired_len hp
    have hle := enm_len xs
    refine ⟨a, us, rfl, hs, el_core (K := K) (R := R) (J := IteT K a) (xs := enm xs) c f (by omega) (fun i H' e3 h => ⟨us, us[i]'(by omega), ex_t e3 hs, List.getElem?_eq_getElem _⟩) (fun H' e3 => ⟨us, ex_t e3 hs, by omega⟩) (fun i x u H' H'' C hx e3 y k => ?_) Q fun p H3 n3 e3 l3 => q p H3 (fresh_back e2 n3) (e2.trans e3) l3⟩
    obtain ⟨T, u', rfl, nT, rfl, y⟩ := y
    obtain ⟨n0, z0⟩ := x
    have ea := enm_at hx
    obtain rfl : n0 = (i : Int) := ea.1
    obtain ⟨u2, hu, ru⟩ := paired_get hp ea.2
    have eu := y us (ex_t e3 hs)
    rw [hu] at eu
    cases eu
    have eN := Ex.new (o := .tup [.int (i : Nat), u']) nT
    have e9 := ((e1.trans e2).trans e3).trans eN
    have hm := List.mem_of_getElem? hx
    refine ⟨T, [.int (i : Nat), u'], rfl, SqT.of upd_same, rfl, _, _, rfl, _, _, rfl, rfl, k _ _ eN ⟨hw _ _, ?_, fun hc => ?_⟩⟩
    · exact ht ((i : Int), z0) u' _ e9 hm (Me.ex (e3.trans eN) ru)
    · exact he ((i : Int), z0) u' _ e9 hm (Me.ex (e3.trans eN) ru) hc
theorem el_lcET [Me R] [Mkt K R] [Me Ri] {i0 : Nat} {xs : List β} {f : Int × β → α} (h : Er (rT K Ri) tl σ H xs) (hb : xs.length < 1000000) (hw : ∀ x y, wipe (((wipe σ vs).set i0 (some x)).set j (some y)) vs = wipe σ vs)
    (he : ∀ x v H1, Ex H H1 → x ∈ enm xs → Ri H1 x.2 v → Er R te (((wipe σ vs).set i0 (some (.int x.1))).set j (some v)) H1 (f x)) :
    El R (tLc (iEnumT K (tCons tl tNil)) (g2 K i0 j) tYes te vs) σ H ((enm xs).map f) := by
  have z := el_lcETc (K := K) (c := fun _ => true) (f := f) h hb hw (fun _ _ _ _ _ _ => et_yes) fun x v H1 e hx r _ => he x v H1 e hx r
  rw [List.filter_eq_self.mpr fun _ _ => rfl] at z
  exact z
theorem el_lcETIc [Me R] [Mkt K R] {i0 : Nat} {xs : List Int} {c : Int × Int → Bool} {f : Int × Int → α} (h : Er (rT K rI) tl σ H xs) (hb : xs.length < 1000000) (hw : ∀ x y, wipe (((wipe σ vs).set i0 (some x)).set j (some y)) vs = wipe σ vs)
    (ht : ∀ x H1, Ex H H1 → x ∈ enm xs → Et tt (((wipe σ vs).set i0 (some (.int x.1))).set j (some (.int x.2))) H1 (c x)) (he : ∀ x H1, Ex H H1 → x ∈ enm xs → c x = true → Er R te (((wipe σ vs).set i0 (some (.int x.1))).set j (some (.int x.2))) H1 (f x)) :
    El R (tLc (iEnumT K (tCons tl tNil)) (g2 K i0 j) tt te vs) σ H (((enm xs).filter c).map f) :=
  el_lcETc h hb hw (fun x v H1 e hx r => by cases r; exact ht x H1 e hx) fun x v H1 e hx r hc => by cases r; exact he x H1 e hx hc
theorem el_lcETI [Me R] [Mkt K R] {i0 : Nat} {xs : List Int} {f : Int × Int → α} (h : Er (rT K rI) tl σ H xs) (hb : xs.length < 1000000) (hw : ∀ x y, wipe (((wipe σ vs).set i0 (some x)).set j (some y)) vs = wipe σ vs)
    (he : ∀ x H1, Ex H H1 → x ∈ enm xs → Er R te (((wipe σ vs).set i0 (some (.int x.1))).set j (some (.int x.2))) H1 (f x)) :
    El R (tLc (iEnumT K (tCons tl tNil)) (g2 K i0 j) tYes te vs) σ H ((enm xs).map f) :=
  el_lcET h hb hw fun x v H1 e hx r => by cases r; exact he x H1 e hx
end
/-! ### steps by values at hand -/
def tK (v : V) : TE := fun _ H Q => Q v H
def tKs (vs : List V) : TA := fun _ H Q => Q vs H
section
variable {α : Type} {K : PySem.W.Frag} {H : Hp} {σ : L2.St} {ta tb te : TE} {t : TA} {R : Rp α} {x : α} {Q : VK}
theorem er_K [Me R] {v : V} (r : R H x v) : Er R (tK v) σ H x := fun H1 e _ q => q v H1 (Ex.refl H1) (Me.ex e r)
theorem er_iK {i : Int} : Er rI (tK (.int i)) σ H i := fun H1 _ _ q => q _ H1 (Ex.refl H1) rfl
theorem er_bK {i : Bool} : Er rB (tK (.bl i)) σ H i := fun H1 _ _ q => q _ H1 (Ex.refl H1) rfl
theorem er_sK {i : Str} : Er rS (tK (.str i)) σ H i := fun H1 _ _ q => q _ H1 (Ex.refl H1) rfl
theorem er_nK : Er rN (tK .non) σ H () := fun H1 _ _ q => q _ H1 (Ex.refl H1) rfl
theorem go_opK {r : R2} (h : ta σ H fun x H1 => tb σ H1 fun y H2 => tOp r (tK x) (tK y) [] H2 Q) : tOp r ta tb σ H Q := h
theorem go_unK {r : V → Hp → VK → Prop} (h : ta σ H fun x H1 => tUn r (tK x) [] H1 Q) : tUn r ta σ H Q := h
theorem go_callA {sp : Sp} {E : XK} (h : t σ H fun vs H1 => sp vs H1 Q E) : tCall sp [] E t σ H Q := by
  show t σ H fun vs H1 => sp (vs ++ []) H1 Q E
  simp only [List.append_nil]
  exact h
theorem go_cbA {r : List V → Hp → VK → Prop} (h : t σ H fun vs H1 => tCB r (tKs vs) [] H1 Q) : tCB r t σ H Q := h
theorem go_lstA (h : t σ H fun vs H1 => tLst (tKs vs) [] H1 Q) : tLst t σ H Q := h
theorem go_tupA (h : t σ H fun vs H1 => tTup (tKs vs) [] H1 Q) : tTup t σ H Q := h
theorem go_cons {Q' : List V → Hp → Prop} (h : ta σ H fun x H1 => t σ H1 fun xs H2 => Q' (x :: xs) H2) : tCons ta t σ H Q' := h
theorem go_nil {Q' : List V → Hp → Prop} (h : Q' [] H) : tNil σ H Q' := h
theorem ea_K [Me R] {xs : List α} {vs : List V} (h : Paired (R H) xs vs) : Ea (tKs vs) σ H (As R xs) := fun H1 e Q q => q vs H1 (Ex.refl H1) (pm h fun _ _ z => Me.ex e z)
theorem go_B {i : Bool} (h : Er rB te σ H i) (k : ∀ H1, Ex H H1 → Q (.bl i) H1) : te σ H Q := h H (Ex.refl H) _ fun v H1 e r => by cases r; exact k H1 e
theorem go_S {i : Str} (h : Er rS te σ H i) (k : ∀ H1, Ex H H1 → Q (.str i) H1) : te σ H Q := h H (Ex.refl H) _ fun v H1 e r => by cases r; exact k H1 e
theorem go_N {u : Unit} (h : Er rN te σ H u) (k : ∀ H1, Ex H H1 → Q .non H1) : te σ H Q := h H (Ex.refl H) _ fun v H1 e r => by cases r; exact k H1 e
theorem go_tV {Q : Bool → Hp → Prop} (h : te σ H fun x H1 => ∃ c, x = .bl c ∧ Q c H1) : tTest te σ H Q := h
theorem s_ret0 {D : Ends} (h : te σ H D.rt) : tRet te D σ H := h
theorem s_drop0 {D : Ends} (h : te σ H fun _ H1 => D.nx σ H1) : tDrop te D σ H := h
theorem s_if0 {D : Ends} {t : TT} {tu tw : TS} (h : t σ H fun b H1 => if b = true then tu D σ H1 else tw D σ H1) : tIfS t tu tw D σ H := h
end
theorem ite_no {b : Bool} {X Y : Prop} (h : b = false) (k : Y) : if b = true then X else Y := by rw [h]; exact k
theorem ite_ok {b : Bool} {X Y : Prop} (h : b = true) (k : X) : if b = true then X else Y := by rw [if_pos h]; exact k
section
variable {α : Type} {K : PySem.W.Frag} {H : Hp} {σ : L2.St} {ta te : TE} {R : Rp α} {vs : List Nat} {j : Nat} {b : Addr} {Q : VK}
/-! ### a new list of drawn things -/
def LcGo (j : Nat) (te : TE) (vs : List Nat) (σ : L2.St) (H : Hp) (hi : Int) (Q : VK) : Prop := ∀ D, H D = none → ∃ W : Nat → Nat → Hp → Prop, (∃ m, W 0 m (upd H D (.lst []))) ∧ ∀ i m H, W i m H →
      ((Itr 0 hi.toNat).stop i H ∧ Q (.ref D) H) ∨ ((Itr 0 hi.toNat).go i H ∧ ∃ Nx : Hp → Prop, (∀ H', Nx H' → ∃ m', m' < m ∧ W (i + 1) m' H') ∧ ∀ x H', (Itr 0 hi.toNat).yld i H x H' → gName j x (wipe σ vs) H' fun σ2 H2 => wipe σ2 vs = wipe σ vs ∧ tYes σ2 H2 fun b H3 =>
        if b = true then te σ2 H3 fun y H4 => ∃ acc, H4 D = some (.lst acc) ∧ acc.length < sizeLine ∧ Nx (upd H4 D (.lst (acc ++ [y]))) else Nx H3)
theorem lc_open (h : ta σ H fun v H1 => ∃ hi : Int, [v] = [V.int hi] ∧ -(2 ^ 62) ≤ hi ∧ hi < 2 ^ 62 ∧ LcGo j te vs σ H1 hi Q) : tLc (iRng1 (tCons ta tNil)) (gName j) tYes te vs σ H Q := h
/-- the body of a comprehension over a range, its items drawn from the bag -/
theorem lcR1B [Me R] [Mkt K R] (Py : α → Prop) (hB : Bag H b) {hi : Int} (hh : hi < 1000000) (hw : ∀ x, wipe ((wipe σ vs).set j (some x)) vs = wipe σ vs)
    (he : ∀ x H1 (C : VK), C1 b H H1 → Bag H1 b → (0 ≤ x ∧ x < hi) → (∀ v H2 y, C1 b H1 H2 → Bag H2 b → R H2 y v → Py y → C v H2) → te ((wipe σ vs).set j (some (.int x))) H1 C)
    (q : ∀ p H2 (ys : List α), H p = none → C1 b H H2 → Bag H2 b → ys.length = hi.toNat → (∀ y ∈ ys, Py y) → Lt R H2 p ys → Q (.ref p) H2) :
    LcGo j te vs σ H hi Q := by
  intro D hD
  have hbD : b ≠ D := hB.ne hD
  refine ⟨fun i m H' => m = hi.toNat - i ∧ i ≤ hi.toNat ∧ C1 b H H' ∧ Bag H' b ∧ ∃ ys : List α, ys.length = i ∧ (∀ y ∈ ys, Py y) ∧ Lt R H' D ys, ⟨hi.toNat, rfl, Nat.zero_le _, C1.ex (Ex.new hD), hB.ex (Ex.new hD), [], rfl, (fun _ h => by cases h), ⟨[], upd_same, .nil⟩⟩, ?_⟩
  rintro i m H1 ⟨rfl, hi1, c1, B1, ys, hl, hy, l1⟩
  by_cases hlt : i < hi.toNat
  · refine .inr ⟨hlt, fun H' => C1 b H H' ∧ Bag H' b ∧ ∃ ys : List α, ys.length = i + 1 ∧ (∀ y ∈ ys, Py y) ∧ Lt R H' D ys, fun H' h => ⟨hi.toNat - (i + 1), by omega, rfl, hlt, h⟩, ?_⟩
    rintro u H2 ⟨rfl, rfl⟩
    refine ⟨hw _, ?_⟩
    show te _ H2 _
    refine he _ H2 _ c1 B1 (by omega) fun v H3 y c3 B3 r3 py => ?_
    obtain ⟨acc, a1, a2⟩ := l1.keep (B1.kt (K := K) c3) c3 (Ne.symm hbD)
    have la : acc.length = i := by rw [← paired_len a2, hl]
    have kt1 : Kt K H3 (upd H3 D (.lst (acc ++ [v]))) := Kt.c1 a1 (C1.up (C1.refl D H3))
    refine ⟨acc, a1, sz0 (by omega), fun a o n h => ?_, B3.keep (C1.up (C1.refl D H3)) hbD, ys ++ [y], by simp [hl], fun z hz => ?_, ⟨acc ++ [v], upd_same, paired_append (pm a2 fun _ _ z => Mkt.kt kt1 z) (.cons (Mkt.kt kt1 r3) .nil)⟩⟩
    · rw [upd_ne (ne_of_none h hD)]
      exact c3 _ _ n (c1 _ _ n h)
    · rcases List.mem_append.mp hz with hz | hz
      · exact hy z hz
      · rw [List.mem_singleton.mp hz]; exact py
  · have e : i = hi.toNat := by omega
    exact .inl ⟨Nat.le_of_not_lt hlt, q D H1 ys hD c1 B1 (hl.trans e) hy l1⟩
theorem go_lcR1B [Me R] [Mkt K R] (Py : α → Prop) (hB : Bag H b) {hi : Int} (h : Er rI ta σ H hi) (hh : -(2 ^ 62) ≤ hi ∧ hi < 1000000) (hw : ∀ x, wipe ((wipe σ vs).set j (some x)) vs = wipe σ vs)
    (he : ∀ x H1 (C : VK), C1 b H H1 → Bag H1 b → (0 ≤ x ∧ x < hi) → (∀ v H2 y, C1 b H1 H2 → Bag H2 b → R H2 y v → Py y → C v H2) → te ((wipe σ vs).set j (some (.int x))) H1 C)
    (q : ∀ p H2 (ys : List α), H p = none → C1 b H H2 → Bag H2 b → ys.length = hi.toNat → (∀ y ∈ ys, Py y) → Lt R H2 p ys → Q (.ref p) H2) : tLc (iRng1 (tCons ta tNil)) (gName j) tYes te vs σ H Q := by
  refine h H (Ex.refl H) _ fun v H1 e r => ?_
  cases r
  refine ⟨hi, rfl, hh.1, by omega, lcR1B (K := K) Py (hB.ex e) hh.2 hw (fun x H2 C c => he x H2 C ((C1.ex e).trans c)) fun p H2 ys n c => q p H2 ys (fresh_back e n) ((C1.ex e).trans c)⟩
/-- tuple(l) of a list of one's own -/
theorem rtup_own {l : Addr} {xs : List α} [Me R] (l1 : Lt R H l xs) (k : ∀ v H1, Ex H H1 → rT K R H1 xs v → Q v H1) : rTupQ K [.ref l] H Q := by
  obtain ⟨us, h1, h2⟩ := l1
  exact ⟨l, us, rfl, .inl ⟨SqL.of h1, fun p np => k _ _ (Ex.new np) ⟨p, us, rfl, SqT.of upd_same, pm h2 fun _ _ z => Me.ex (Ex.new np) z⟩⟩⟩
end
section
variable {α : Type} {K : PySem.W.Frag} {H : Hp} {σ : L2.St} {ta tb te : TE} {R : Rp α}
/-! ### own lists put together -/
def Ew (R : Rp α) (t : TE) (σ : L2.St) (H : Hp) (xs : List α) : Prop := ∀ H1, Ex H H1 → ∀ Q : VK, (∀ p H2, Ex H1 H2 → Lt R H2 p xs → Q (.ref p) H2) → t σ H1 Q
theorem El.ew {xs : List α} (h : El R te σ H xs) : Ew R te σ H xs := fun H1 e Q q => h H1 e Q fun p H2 _ e2 l => q p H2 e2 l
theorem ew_var [Me R] {i : Nat} {p : Addr} {xs : List α} (h : σ[i]? = some (some (.ref p))) (l : Lt R H p xs) : Ew R (tVar i) σ H xs := fun H1 e Q q => ⟨_, h, q p H1 (Ex.refl H1) (l.ex e)⟩
theorem ew_K [Me R] {p : Addr} {xs : List α} (l : Lt R H p xs) : Ew R (tK (.ref p)) σ H xs := fun H1 e Q q => q p H1 (Ex.refl H1) (l.ex e)
theorem el_catW [Me R] {xs ys : List α} (ha : Ew R ta σ H xs) (hb : Ew R tb σ H ys) (hl : xs.length + ys.length ≤ 1000000) : El R (tOp rCat ta tb) σ H (xs ++ ys) := fun H1 e Q q =>
  ha H1 e _ fun p H2 e2 l2 => hb H2 (e.trans e2) _ fun p' H3 e3 l3 => by
    obtain ⟨vs, h1, h2⟩ := l2
    obtain ⟨ws, h3, h4⟩ := l3
    refine ⟨p, p', vs, ws, rfl, rfl, e3 _ _ h1, h3, by rw [← paired_len h2, ← paired_len h4]; exact sz1 hl, fun a na => ?_⟩
    exact q a _ (fresh_back (e2.trans e3) na) ((e2.trans e3).trans (Ex.new na)) ⟨_, upd_same, paired_append (pm h2 fun _ _ z => Me.ex (e3.trans (Ex.new na)) z) (pm h4 fun _ _ z => Me.ex (Ex.new na) z)⟩
theorem s_forLw {D : Ends} {tu : TS} {g : TG} {xs : List α} (h : Ew R te σ H xs) (k : ∀ p H1, Ex H H1 → Lt R H1 p xs → Fl (Itl K p) g tu D σ H1) : tFor (iList K te) g tu D σ H :=
  h H (Ex.refl H) _ fun p H1 e l => by
    obtain ⟨vs, h1, h2⟩ := id l
    exact ⟨p, rfl, ⟨vs, SqL.of h1⟩, k p H1 e l⟩
theorem q_forLw {D : Ends} {tu tz : TS} {g : TG} {xs : List α} (h : Ew R te σ H xs) (k : ∀ p H1, Ex H H1 → Lt R H1 p xs → Fl (Itl K p) g tu { D with nx := tz D } σ H1) : tSeq (tFor (iList K te) g tu) tz D σ H := s_forLw (D := { D with nx := tz D }) h k
theorem s_forELw {D : Ends} {tu : TS} {g : TG} {xs : List α} (h : Ew R te σ H xs) (k : ∀ p H1, Ex H H1 → Lt R H1 p xs → Fl (Ite K p) g tu D σ H1) : tFor (iEnum K (tCons te tNil)) g tu D σ H :=
  h H (Ex.refl H) _ fun p H1 e l => by
    obtain ⟨vs, h1, h2⟩ := id l
    exact ⟨p, vs, rfl, SqL.of h1, k p H1 e l⟩
theorem q_forELw {D : Ends} {tu tz : TS} {g : TG} {xs : List α} (h : Ew R te σ H xs) (k : ∀ p H1, Ex H H1 → Lt R H1 p xs → Fl (Ite K p) g tu { D with nx := tz D } σ H1) : tSeq (tFor (iEnum K (tCons te tNil)) g tu) tz D σ H := s_forELw (D := { D with nx := tz D }) h k
theorem s_forLn {D : Ends} {tu : TS} {g : TG} {xs : List α} (h : El R te σ H xs) (k : ∀ p H1, H p = none → Ex H H1 → Lt R H1 p xs → Fl (Itl K p) g tu D σ H1) : tFor (iList K te) g tu D σ H :=
  h H (Ex.refl H) _ fun p H1 n e l => by
    obtain ⟨vs, h1, h2⟩ := id l
    exact ⟨p, rfl, ⟨vs, SqL.of h1⟩, k p H1 n e l⟩
theorem q_forLn {D : Ends} {tu tz : TS} {g : TG} {xs : List α} (h : El R te σ H xs) (k : ∀ p H1, H p = none → Ex H H1 → Lt R H1 p xs → Fl (Itl K p) g tu { D with nx := tz D } σ H1) : tSeq (tFor (iList K te) g tu) tz D σ H := s_forLn (D := { D with nx := tz D }) h k
theorem s_forELn {D : Ends} {tu : TS} {g : TG} {xs : List α} (h : El R te σ H xs) (k : ∀ p H1, H p = none → Ex H H1 → Lt R H1 p xs → Fl (Ite K p) g tu D σ H1) : tFor (iEnum K (tCons te tNil)) g tu D σ H :=
  h H (Ex.refl H) _ fun p H1 n e l => by
    obtain ⟨vs, h1, h2⟩ := id l
    exact ⟨p, vs, rfl, SqL.of h1, k p H1 n e l⟩
theorem q_forELn {D : Ends} {tu tz : TS} {g : TG} {xs : List α} (h : El R te σ H xs) (k : ∀ p H1, H p = none → Ex H H1 → Lt R H1 p xs → Fl (Ite K p) g tu { D with nx := tz D } σ H1) : tSeq (tFor (iEnum K (tCons te tNil)) g tu) tz D σ H := s_forELn (D := { D with nx := tz D }) h k
theorem s_forLv {D : Ends} {tu : TS} {g : TG} {xs : List α} {i : Nat} {p : Addr} (h : σ[i]? = some (some (.ref p))) (l : Lt R H p xs) (k : Fl (Itl K p) g tu D σ H) : tFor (iList K (tVar i)) g tu D σ H := by
  obtain ⟨vs, h1, h2⟩ := l
  exact ⟨_, h, p, rfl, ⟨vs, SqL.of h1⟩, k⟩
theorem q_forLv {D : Ends} {tu tz : TS} {g : TG} {xs : List α} {i : Nat} {p : Addr} (h : σ[i]? = some (some (.ref p))) (l : Lt R H p xs) (k : Fl (Itl K p) g tu { D with nx := tz D } σ H) : tSeq (tFor (iList K (tVar i)) g tu) tz D σ H := s_forLv (D := { D with nx := tz D }) h l k
theorem s_forELv {D : Ends} {tu : TS} {g : TG} {xs : List α} {i : Nat} {p : Addr} (h : σ[i]? = some (some (.ref p))) (l : Lt R H p xs) (k : Fl (Ite K p) g tu D σ H) : tFor (iEnum K (tCons (tVar i) tNil)) g tu D σ H := by
  obtain ⟨vs, h1, h2⟩ := l
  exact ⟨_, h, p, vs, rfl, SqL.of h1, k⟩
theorem q_forELv {D : Ends} {tu tz : TS} {g : TG} {xs : List α} {i : Nat} {p : Addr} (h : σ[i]? = some (some (.ref p))) (l : Lt R H p xs) (k : Fl (Ite K p) g tu { D with nx := tz D } σ H) : tSeq (tFor (iEnum K (tCons (tVar i) tNil)) g tu) tz D σ H := s_forELv (D := { D with nx := tz D }) h l k
end
/-! ### a sequence read: a tuple or a list -/
def rQ {α : Type} (K : PySem.W.Frag) (R : Rp α) : Rp (List α) := fun H xs v => rT K R H xs v ∨ rL K R H xs v
instance {α : Type} {K : PySem.W.Frag} {R : Rp α} [Me R] : Me (rQ K R) := ⟨fun e h => h.elim (fun h => .inl (Me.ex e h)) fun h => .inr (Me.ex e h)⟩
theorem el_listQ {α : Type} {K : PySem.W.Frag} {R : Rp α} [Me R] {ta : TE} {σ : L2.St} {H : Hp} {xs : List α} (ha : Er (rQ K R) ta σ H xs) : El R (tCB (rListQ K) (tCons ta tNil)) σ H xs := fun H1 e Q q =>
  ha H1 e _ fun v H2 e2 h => by
    rcases h with ⟨a, vs, h1, hs, hp⟩ | ⟨a, vs, h1, hs, hp⟩
    · exact ⟨a, vs, by rw [h1], .inr hs, fun l nl => q l _ (fresh_back e2 nl) (e2.trans (Ex.new nl)) ⟨_, upd_same, pm hp fun _ _ z => Me.ex (Ex.new nl) z⟩⟩
    · exact ⟨a, vs, by rw [h1], .inl hs, fun l nl => q l _ (fresh_back e2 nl) (e2.trans (Ex.new nl)) ⟨_, upd_same, pm hp fun _ _ z => Me.ex (Ex.new nl) z⟩⟩
theorem er_QT {α : Type} {K : PySem.W.Frag} {R : Rp α} {ta : TE} {σ : L2.St} {H : Hp} {xs : List α} (ha : Er (rT K R) ta σ H xs) : Er (rQ K R) ta σ H xs := fun H1 e Q q => ha H1 e Q fun v H2 e2 r => q v H2 e2 (.inl r)
theorem er_QL {α : Type} {K : PySem.W.Frag} {R : Rp α} {ta : TE} {σ : L2.St} {H : Hp} {xs : List α} (ha : Er (rL K R) ta σ H xs) : Er (rQ K R) ta σ H xs := fun H1 e Q q => ha H1 e Q fun v H2 e2 r => q v H2 e2 (.inr r)
/-! ### loops over pairs -/
section
variable {α β : Type} {K : PySem.W.Frag} {H : Hp} {σ : L2.St} {R : Rp α} {S : Rp β} {D : Ends} {tu tz : TS} {j : Nat}
theorem fl_LP {i0 : Nat} {xs : List (α × β)} {v : V} (r : rL K (r2 K R S) H xs v) (Pv : Nat → L2.St → Hp → Prop) (h0 : Pv 0 σ H) (hG : ∀ i σ H', i ≤ xs.length → Pv i σ H' → rL K (r2 K R S) H' xs v)
    (hs : ∀ i x u w σ H', i < xs.length → xs[i]? = some x → Pv i σ H' → R H' x.1 u → S H' x.2 w → tu { D with nx := Pv (i + 1), ct := Pv (i + 1), bk := D.nx } ((σ.set i0 (some u)).set j (some w)) H') (hd : ∀ σ H', Pv xs.length σ H' → D.nx σ H') :
    ∀ a, v = .ref a → Fl (Itl K a) (g2 K i0 j) tu D σ H := by
  rintro a rfl
  refine fl_core Pv h0 (fun i σ H' hi p => ?_) (fun σ H' p => ?_) (fun i x σ H' H'' hi p y => ?_) hd
  · obtain ⟨_, vs, h1, h2, h3⟩ := hG i σ H' (by omega) p
    cases h1
    have hl := paired_len h3
    exact ⟨vs, vs[i]'(by omega), h2, List.getElem?_eq_getElem _⟩
  · obtain ⟨_, vs, h1, h2, h3⟩ := hG _ σ H' (Nat.le_refl _) p
    cases h1
    exact ⟨vs, h2, by rw [paired_len h3]; exact Nat.le_refl _⟩
  · obtain ⟨_, vs, h1, h2, h3⟩ := hG i σ H' (by omega) p
    cases h1
    obtain ⟨rfl, y⟩ := y
    have hx := y vs h2
    obtain ⟨z, hz, T, u, w, rfl, hT, ru, rw'⟩ := paired_get' h3 hx
    exact ⟨T, [u, w], rfl, hT, rfl, _, _, rfl, _, _, rfl, rfl, hs i z u w σ H'' hi hz p ru rw'⟩
theorem fq_LP {i0 : Nat} {xs : List (α × β)} {v : V} (r : rL K (r2 K R S) H xs v) (Pv : Nat → L2.St → Hp → Prop) (h0 : Pv 0 σ H) (hG : ∀ i σ H', i ≤ xs.length → Pv i σ H' → rL K (r2 K R S) H' xs v)
    (hs : ∀ i x u w σ H', i < xs.length → xs[i]? = some x → Pv i σ H' → R H' x.1 u → S H' x.2 w → tu { nx := Pv (i + 1), rt := D.rt, bk := tz D, ct := Pv (i + 1) } ((σ.set i0 (some u)).set j (some w)) H') (hd : ∀ σ H', Pv xs.length σ H' → tz D σ H') :
    ∀ a, v = .ref a → Fl (Itl K a) (g2 K i0 j) tu { D with nx := tz D } σ H := fl_LP (D := { D with nx := tz D }) r Pv h0 hG hs hd
theorem fl_TP {i0 : Nat} {xs : List (α × β)} {v : V} (r : rT K (r2 K R S) H xs v) (Pv : Nat → L2.St → Hp → Prop) (h0 : Pv 0 σ H) (hG : ∀ i σ H', i ≤ xs.length → Pv i σ H' → rT K (r2 K R S) H' xs v)
    (hs : ∀ i x u w σ H', i < xs.length → xs[i]? = some x → Pv i σ H' → R H' x.1 u → S H' x.2 w → tu { D with nx := Pv (i + 1), ct := Pv (i + 1), bk := D.nx } ((σ.set i0 (some u)).set j (some w)) H') (hd : ∀ σ H', Pv xs.length σ H' → D.nx σ H') :
    ∀ a, v = .ref a → Fl (Itt K a) (g2 K i0 j) tu D σ H := by
  rintro a rfl
  refine fl_core Pv h0 (fun i σ H' hi p => ?_) (fun σ H' p => ?_) (fun i x σ H' H'' hi p y => ?_) hd
  · obtain ⟨_, vs, h1, h2, h3⟩ := hG i σ H' (by omega) p
    cases h1
    have hl := paired_len h3
    exact ⟨vs, vs[i]'(by omega), h2, List.getElem?_eq_getElem _⟩
  · obtain ⟨_, vs, h1, h2, h3⟩ := hG _ σ H' (Nat.le_refl _) p
    cases h1
    exact ⟨vs, h2, by rw [paired_len h3]; exact Nat.le_refl _⟩
  · obtain ⟨_, vs, h1, h2, h3⟩ := hG i σ H' (by omega) p
    cases h1
    obtain ⟨rfl, y⟩ := y
    have hx := y vs h2
    obtain ⟨z, hz, T, u, w, rfl, hT, ru, rw'⟩ := paired_get' h3 hx
    exact ⟨T, [u, w], rfl, hT, rfl, _, _, rfl, _, _, rfl, rfl, hs i z u w σ H'' hi hz p ru rw'⟩
theorem fq_TP {i0 : Nat} {xs : List (α × β)} {v : V} (r : rT K (r2 K R S) H xs v) (Pv : Nat → L2.St → Hp → Prop) (h0 : Pv 0 σ H) (hG : ∀ i σ H', i ≤ xs.length → Pv i σ H' → rT K (r2 K R S) H' xs v)
    (hs : ∀ i x u w σ H', i < xs.length → xs[i]? = some x → Pv i σ H' → R H' x.1 u → S H' x.2 w → tu { nx := Pv (i + 1), rt := D.rt, bk := tz D, ct := Pv (i + 1) } ((σ.set i0 (some u)).set j (some w)) H') (hd : ∀ σ H', Pv xs.length σ H' → tz D σ H') :
    ∀ a, v = .ref a → Fl (Itt K a) (g2 K i0 j) tu { D with nx := tz D } σ H := fl_TP (D := { D with nx := tz D }) r Pv h0 hG hs hd
theorem er_pr [Me R] [Me S] {ta tb : TE} {x : α} {y : β} (ha : Er R ta σ H x) (hb : Er S tb σ H y) : Er (r2 K R S) (tTup (tCons ta (tCons tb tNil))) σ H (x, y) := fun H1 e Q q =>
  ha H1 e _ fun u H2 e2 r1 => hb H2 (e.trans e2) _ fun w H3 e3 r2' => ⟨by show 2 ≤ sizeLine; decide, fun a na => q _ _ ((e2.trans e3).trans (Ex.new na)) ⟨a, u, w, rfl, SqT.of upd_same, Me.ex (e3.trans (Ex.new na)) r1, Me.ex (Ex.new na) r2'⟩⟩
end
/-- any value -/
def rV0 : Rp Unit := fun _ _ _ => True
instance : Me rV0 := ⟨fun _ h => h⟩
instance {K : PySem.W.Frag} : Mkt K rV0 := ⟨fun _ h => h⟩
theorem er_v0 {α : Type} {R : Rp α} {t : TE} {σ : L2.St} {H : Hp} {x : α} (h : Er R t σ H x) : Er rV0 t σ H () := fun H1 e Q q => h H1 e Q fun v H2 e2 _ => q v H2 e2 trivial
/-! ### what kind an error is -/
theorem er_isEc {K : PySem.W.Frag} {σ : L2.St} {H : Hp} {i : Nat} {a D C : Addr} {b : Bool} (h : σ[i]? = some (some (.ref a))) (hk : PySem.W.kitOne K (.ref D) (.ref C) = some b) : Er rB (tCB (rIsE K D a) (tCons (tVar i) (tCons (tC (.ref C)) tNil))) σ H b := fun H1 _ Q q => ⟨_, h, .ref C, .ref C, b, rfl, fun u r => r, hk, q _ H1 (Ex.refl H1) rfl⟩
theorem er_isEv {K : PySem.W.Frag} {σ : L2.St} {H : Hp} {i : Nat} {a D : Addr} {b : Bool} (h : σ[i]? = some (some (.ref a))) (hk : PySem.W.kitOne K (.ref D) (.type "ValueError") = some b) : Er rB (tCB (rIsE K D a) (tCons (tVar i) (tCons (tC (.ty "ValueError")) tNil))) σ H b := fun H1 _ Q q => ⟨_, h, .ty "ValueError", .type "ValueError", b, rfl, fun u r => r, hk, q _ H1 (Ex.refl H1) rfl⟩
end Dg

set_option maxRecDepth 100000
set_option maxHeartbeats 4000000
/-! Texts by their signs. -/
namespace Dg
open PySem PySem.Spec PyProof.Rows L2 Evl
open SX (S)
def rX : Rp (List Nat) := fun _ s v => v = .str (S s)
section
variable {α : Type} {K : PySem.W.Frag} {H : Hp} {σ : L2.St} {ta tb te : TE} {R : Rp α} {a b c : List Nat}
instance : Me rX := ⟨fun _ h => h⟩
instance : Mkt K rX := ⟨fun _ h => h⟩
theorem er_xv {i : Nat} (h : σ[i]? = some (some (.str (S a))) := by rfl) : Er rX (tVar i) σ H a := fun H1 _ _ q => ⟨_, h, q _ H1 (Ex.refl H1) rfl⟩
theorem er_xK : Er rX (tK (.str (S a))) σ H a := fun H1 _ _ q => q _ H1 (Ex.refl H1) rfl
theorem er_xc {k : Str} (a : List Nat) (h : k = S a := by decide) : Er rX (tC (.str k)) σ H a := fun H1 _ _ q => q _ H1 (Ex.refl H1) (by rw [h]; rfl)
theorem er_xs {k : Str} (h : Er rX te σ H a) (e : S a = k) : Er rS te σ H k := fun H1 e1 Q q => h H1 e1 Q fun v H2 e2 r => q v H2 e2 (by rw [← e]; exact r)
abbrev rCatS : R2 := fun x y H Q => ∃ i j, x = .str i ∧ y = .str j ∧ i.length + j.length ≤ sizeLine ∧ Q (.str (i ++ j)) H
theorem er_xadd (ha : Er rX ta σ H a) (hb : Er rX tb σ H b) (hl : a.length + b.length ≤ 1000000) : Er rX (tOp rCatS ta tb) σ H (a ++ b) := fun H1 e Q q =>
  ha H1 e _ fun v H2 e2 r1 => hb H2 (e.trans e2) _ fun w H3 e3 r2 => ⟨S a, S b, r1, r2, by rw [SX.S_len, SX.S_len]; exact sz1 hl, q _ H3 (e2.trans e3) (by rw [SX.S_cat]; rfl)⟩
/-- text * int -/
def rRepS : R2 := fun x y H Q => ∃ i k, x = .str i ∧ y = .int k ∧ -1000000 ≤ k ∧ k ≤ 1000 ∧ i.length ≤ 1000 ∧ Q (.str (S (repL i.cps.toList k))) H
end
theorem foldl_cat : ∀ (n : Nat) (x : Array Nat) (acc : Array Nat), (List.foldl (fun a b => a ++ b) acc (List.replicate n x)).toList = acc.toList ++ (List.replicate n x.toList).flatten
  | 0, x, acc => by simp
  | n + 1, x, acc => by
    rw [List.replicate_succ, List.foldl_cons, foldl_cat n x (acc ++ x), List.replicate_succ, List.flatten_cons, Array.toList_append, List.append_assoc]
theorem op_repS {X : Cx} : OpR X (binaryOp .Mult) rRepS := by
  intro pins s σ H x y v u Q I rx ry h
  obtain ⟨i, k, rfl, rfl, h0, h1, hz, q⟩ := h
  obtain ⟨t, rfl⟩ := rx
  obtain ⟨t', rfl⟩ := ry
  have hl : i.length = i.cps.toList.length := by simp [Str.length]
  refine PySem.P.mul_str ?_ (fun _ _ => ?_) (fun _ _ => ?_) ?_
  · rw [decide_eq_false (by omega), decide_eq_false (by omega)] <;> rfl
  · have : (1000 : Int) ≤ (2 ^ 63 - 1) / k := Int.le_ediv_of_mul_le (by omega) (by omega)
    omega
  · unfold Builtin.Str.tooLong
    refine decide_eq_false ?_
    have : i.length * k.toNat ≤ 1000 * 1000 := Nat.mul_le_mul hz (by omega)
    have e := sizeLine_eq
    omega
  · split
    · refine ⟨by decide, ⟨.str _, H, I.tok _, ⟨_, rfl⟩, ?_⟩⟩
      have : k.toNat = 0 := by omega
      unfold repL at q
      rw [this] at q
      exact q
    · split
      · rename_i hc
        rw [Bool.or_eq_true, beq_iff_eq, beq_iff_eq] at hc
        refine ⟨.str _, H, I, ⟨_, rfl⟩, ?_⟩
        have e : S (repL i.cps.toList k) = i := by
          refine TL.ext_tl ?_
          show repL i.cps.toList k = i.cps.toList
          unfold repL
          rcases hc with hc | hc
          · subst hc; simp
          · have : i.cps.toList = [] := List.eq_nil_of_length_eq_zero (by omega)
            rw [this]; simp
        rw [e] at q
        exact q
      · have e : (⟨(List.replicate k.toNat i.cps).foldl (· ++ ·) #[]⟩ : Str) = S (repL i.cps.toList k) := by
          refine TL.ext_tl ?_
          show (List.foldl (fun a b => a ++ b) #[] (List.replicate k.toNat i.cps)).toList = repL i.cps.toList k
          rw [foldl_cat]
          rfl
        rw [e]
        refine ⟨?_, ⟨.str _, H, I.tok _, ⟨_, rfl⟩, q⟩⟩
        rw [SX.S_len, repL_len]
        have : k.toNat * i.cps.toList.length ≤ 1000 * 1000 := Nat.mul_le_mul (by omega) (by omega)
        have e := sizeLine_eq
        omega
section
variable {α : Type} {K : PySem.W.Frag} {H : Hp} {σ : L2.St} {ta tb te : TE} {R : Rp α} {a b c : List Nat}
theorem er_xrep {k : Int} (ha : Er rX ta σ H a) (hb : Er rI tb σ H k) (h : -1000000 ≤ k ∧ k ≤ 1000) (hl : a.length ≤ 1000) : Er rX (tOp rRepS ta tb) σ H (repL a k) := fun H1 e Q q =>
  ha H1 e _ fun v H2 e2 r1 => hb H2 (e.trans e2) _ fun w H3 e3 r2 => ⟨S a, k, r1, r2, h.1, h.2, by rw [SX.S_len]; exact hl, q _ H3 (e2.trans e3) rfl⟩
theorem dec_S : decide (V.str (S a) = V.str (S b)) = decide (a = b) := decide_eq_decide.mpr ⟨fun z => SX.S_inj (V.str.inj z), fun z => by rw [z]⟩
theorem er_xeq (ha : Er rX ta σ H a) (hb : Er rX tb σ H b) : Er rB (tOp rEq ta tb) σ H (decide (a = b)) := fun H1 e Q q =>
  ha H1 e _ fun v H2 e2 r1 => hb H2 (e.trans e2) _ fun w H3 e3 r2 => by
    cases r1; cases r2
    exact ⟨rfl, q _ H3 (e2.trans e3) (by show V.bl _ = V.bl _; rw [dec_S])⟩
theorem er_xne (ha : Er rX ta σ H a) (hb : Er rX tb σ H b) : Er rB (tOp rNe ta tb) σ H (!decide (a = b)) := fun H1 e Q q =>
  ha H1 e _ fun v H2 e2 r1 => hb H2 (e.trans e2) _ fun w H3 e3 r2 => by
    cases r1; cases r2
    exact ⟨rfl, q _ H3 (e2.trans e3) (by show V.bl _ = V.bl _; rw [dec_S])⟩
abbrev rLenS : List V → Hp → VK → Prop := fun xs H Q => ∃ z, xs = [.str z] ∧ z.length ≤ sizeLine ∧ Q (.int z.length) H
theorem er_xlen (ha : Er rX ta σ H a) (hz : a.length ≤ 1000000) : Er rI (tCB rLenS (tCons ta tNil)) σ H (a.length : Int) := fun H1 e Q q =>
  ha H1 e _ fun v H2 e2 h => ⟨S a, by rw [h], by rw [SX.S_len]; exact sz1 hz, q _ H2 e2 (by rw [SX.S_len]; rfl)⟩
theorem er_xix {i : Int} {d : Nat} (ha : Er rX ta σ H a) (hb : Er rI tb σ H i) (h1 : -(a.length : Int) ≤ i) (h2 : i < a.length) (hz : a.length ≤ 1000000) (hd : a[ixs a.length i]? = some d) : Er rX (tOp rIxS ta tb) σ H [d] := fun H1 e Q q =>
  ha H1 e _ fun v H2 e2 r1 => hb H2 (e.trans e2) _ fun w H3 e3 r2 => by
    cases r1; cases r2
    refine ⟨S a, i, d, rfl, rfl, by rw [SX.S_len]; exact sz1 hz, ?_, q _ H3 (e2.trans e3) rfl⟩
    unfold atI
    show (ixN a.length i).bind _ = _
    rw [(ixN_ixs h1 h2).1]
    exact hd
theorem cutS_S (a : List Nat) (lo hi : Option Int) : cutS (S a) lo hi = S (cutL a lo hi) := rfl
theorem er_xsl {tl th : TO} {lo hi : Option Int} (h : Er rX te σ H a) (h1 : Eo tl σ H lo) (h2 : Eo th σ H hi) (hz : a.length ≤ 1000000) : Er rX (tSl rSlS te tl th) σ H (cutL a lo hi) := fun H1 e Q q =>
  h H1 e _ fun v H2 e2 r => h1 H2 (e.trans e2) _ fun H3 e3 => h2 H3 ((e.trans e2).trans e3) _ fun H4 e4 => ⟨S a, r, by rw [SX.S_len]; exact sz1 hz, q _ H4 ((e2.trans e3).trans e4) (by rw [cutS_S]; rfl)⟩
/-- part of a text -/
def subX (a b : List Nat) : Bool := !(Builtin.Str.occurrences (S b) (S a) 0 (S b).length 1).isEmpty
theorem subX_one (b : List Nat) (c : Nat) : subX [c] b = decide (c ∈ b) := SX.in_one b c
abbrev rInS : R2 := fun x y H Q => ∃ i j, x = .str i ∧ y = .str j ∧ Q (.bl (!(Builtin.Str.occurrences j i 0 j.length 1).isEmpty)) H
theorem er_xin (ha : Er rX ta σ H a) (hb : Er rX tb σ H b) : Er rB (tOp rInS ta tb) σ H (subX a b) := fun H1 e Q q =>
  ha H1 e _ fun v H2 e2 r1 => hb H2 (e.trans e2) _ fun w H3 e3 r2 => ⟨S a, S b, r1, r2, q _ H3 (e2.trans e3) rfl⟩
theorem pX : ∀ {xs : List (List Nat)} {vs : List V}, Paired (rX H) xs vs → vs = (xs.map S).map V.str
  | [], _, .nil => rfl
  | x :: xs, _, .cons r t => by
    have e : _ = V.str (S x) := r
    rw [e, pX t]
    rfl
theorem pX' : ∀ (xs : List (List Nat)), Paired (rX H) xs ((xs.map S).map V.str)
  | [] => .nil
  | _ :: xs => .cons rfl (pX' xs)
abbrev rJoinS (K : PySem.W.Frag) : V → List V → Hp → VK → Prop := fun x xs H Q => ∃ a p, ∃ ys : List Str, x = .str a ∧ xs = [.ref p] ∧ (SqL K H p (ys.map V.str) ∨ SqT K H p (ys.map V.str)) ∧
      (ys.map (·.length)).sum + ys.length * a.length ≤ 16777216 ∧ Q (.str (Txt.join a ys)) H
theorem lensS (ys : List (List Nat)) : ((ys.map S).map (·.length)).sum = (ys.map List.length).sum := by
  rw [List.map_map]
  congr 1
theorem er_xjoin {ys : List (List Nat)} (ha : Er rX ta σ H a) (hb : Er (rL K rX) tb σ H ys) (hz : (ys.map List.length).sum + ys.length * a.length ≤ 1000000) : Er rX (tM1 (rJoinS K) ta tb) σ H (TL.joinL a ys) := fun H1 e Q q =>
  ha H1 e _ fun v H2 e2 r1 => ⟨⟨_, r1⟩, hb H2 (e.trans e2) _ fun w H3 e3 ⟨p, vs, r2, h1, h2⟩ => by
    have e4 := pX h2
    subst e4
    exact ⟨S a, p, ys.map S, r1, by rw [r2], .inl h1, by rw [lensS, List.length_map, SX.S_len]; omega, q _ H3 (e2.trans e3) (by rw [SX.join_S]; rfl)⟩⟩
abbrev rSplitS : V → List V → Hp → VK → Prop := fun x xs H Q => ∃ a b, x = .str a ∧ xs = [.str b] ∧ (b.length == 0) = false ∧ a.length + 2 ≤ sizeLine ∧ rNewStrs (Txt.split a b) H Q
theorem el_xsplit (ha : Er rX ta σ H a) (hb : Er rX tb σ H b) (hz : a.length ≤ 999990) (hn : b ≠ []) (hk : b.all (· < 256) = true) : El rX (tM1 rSplitS ta tb) σ H (TL.spl b 0 [] a) := fun H1 e Q q =>
  ha H1 e _ fun v H2 e2 r1 => ⟨⟨_, r1⟩, hb H2 (e.trans e2) _ fun w H3 e3 r2 => by
    refine ⟨S a, S b, r1, by rw [show w = _ from r2], ?_, ?_, ?_⟩
    · rw [SX.S_len]
      cases b with
      | nil => exact absurd rfl hn
      | cons x r => rfl
    · rw [SX.S_len]
      exact sz1 (by omega)
    · rw [SX.split_S hn hk]
      exact fun p np => q p _ (fresh_back (e2.trans e3) np) ((e2.trans e3).trans (Ex.new np)) ⟨_, upd_same, pX' _⟩⟩
abbrev rIntS : List V → Hp → VK → Prop := fun xs H Q => ∃ a n, xs = [.str a] ∧ PySem.intText? a = some n ∧ a.length ≤ 640 ∧ Q (.int n) H
theorem er_xint {n : Int} (ha : Er rX ta σ H a) (h : PySem.intText? (S a) = some n) (hl : a.length ≤ 640) : Er rI (tCB rIntS (tCons ta tNil)) σ H n := fun H1 e Q q =>
  ha H1 e _ fun v H2 e2 r => ⟨S a, n, by rw [show v = _ from r], h, by rw [SX.S_len]; exact hl, q _ H2 e2 rfl⟩
abbrev rStrI : List V → Hp → VK → Prop := fun xs H Q => ∃ i : Int, xs = [.int i] ∧ i.natAbs.log2 < 1920 ∧ Q (.str (toString i)) H
theorem er_xstr {i : Int} (ha : Er rI ta σ H i) (h : 0 ≤ i ∧ i < 1000000) : Er rX (tCB rStrI (tCons ta tNil)) σ H (TL.numL i.toNat) := fun H1 e Q q =>
  ha H1 e _ fun v H2 e2 r => ⟨i, by rw [show v = _ from r], by
    have h1 : i.natAbs.log2 ≤ i.natAbs := Nat.log2_le_self _
    have h2 : i.natAbs < 2 ^ 20 := by omega
    have h3 : i.natAbs.log2 < 20 := by
      by_cases z : i.natAbs = 0
      · rw [z]; decide
      · exact (Nat.log2_lt z).mpr h2
    omega, q _ H2 e2 (by
    obtain ⟨n, rfl⟩ : ∃ n : Nat, i = n := ⟨i.toNat, by omega⟩
    show V.str _ = V.str (S (TL.numL n))
    rw [← SX.num_S])⟩
variable {Q : VK} {D : Ends} {tz : TS} {j : Nat}
def gtX (a : List Nat) (i : Int) : Nat := (a[ixs a.length i]?).getD 0
theorem er_xix0 {i : Int} (ha : Er rX ta σ H a) (hb : Er rI tb σ H i) (h1 : -(a.length : Int) ≤ i) (h2 : i < a.length) (hz : a.length ≤ 1000000) : Er rX (tOp rIxS ta tb) σ H [gtX a i] :=
  er_xix ha hb h1 h2 hz (by unfold gtX; rw [List.getElem?_eq_getElem (ixN_ixs h1 h2).2]; rfl)
theorem go_X (h : Er rX te σ H a) (k : ∀ H1, Ex H H1 → Q (.str (S a)) H1) : te σ H Q := h H (Ex.refl H) _ fun v H1 e r => by cases r; exact k H1 e
theorem s_asgX (h : Er rX te σ H a) (k : ∀ H1, Ex H H1 → D.nx (σ.set j (some (.str (S a)))) H1) : tAsg te (gName j) D σ H := h H (Ex.refl H) _ fun v H1 e r => by cases r; exact k H1 e
theorem q_asgX (h : Er rX te σ H a) (k : ∀ H1, Ex H H1 → tz D (σ.set j (some (.str (S a)))) H1) : tSeq (tAsg te (gName j)) tz D σ H := s_asgX (D := { D with nx := tz D }) h k
theorem er_isX (h : Er rX te σ H a) : Er rB (tCB (rIsi K) (tCons te (tCons (tC (.ty "str")) tNil))) σ H true := fun H1 e Q q =>
  h H1 e _ fun v H2 e2 r => by
    cases r
    exact ⟨_, _, _, _, true, rfl, .ty "str", .base (.str _), kit_ty (show kitB "str" "str" = some true by decide +kernel), q _ H2 e2 rfl⟩
end
/-! ### written things by their names -/
def Cg (mg : Str → Option Value) (x : Str) (v : V) : Prop := ∃ u, mg x = some u ∧ RelV v u
theorem er_cn {K : PySem.W.Frag} {mg : Str → Option Value} {x : Str} {xs : List Int} {σ : L2.St} {H : Hp} (c : Cn K mg x (xs.map V.int)) : Er (rT K rI) (tC (.ref c.a)) σ H xs := fun H1 _ _ q => q _ H1 (Ex.refl H1) ⟨c.a, _, rfl, c.s H1, pI' xs⟩
section
variable {α β ι : Type} {K : PySem.W.Frag} {H : Hp} {σ : L2.St} {ta tb te tl : TE} {tt : TT} {R : Rp α} {Ri : Rp β} {vs : List Nat} {j : Nat} {D : Ends} {tu tz : TS}
theorem el_lcLX [Me R] [Mkt K R] {xs : List (List Nat)} {f : List Nat → α} (h : Er (rL K rX) tl σ H xs) (hb : xs.length < 1000000) (hw : ∀ x, wipe ((wipe σ vs).set j (some x)) vs = wipe σ vs)
    (he : ∀ x H1, Ex H H1 → x ∈ xs → Er R te ((wipe σ vs).set j (some (.str (S x)))) H1 (f x)) : El R (tLc (iList K tl) (gName j) tYes te vs) σ H (xs.map f) :=
  el_lcL h hb hw fun x v H1 e hx r => by cases r; exact he x H1 e hx
theorem el_lcTX [Me R] [Mkt K R] {xs : List (List Nat)} {f : List Nat → α} (h : Er (rT K rX) tl σ H xs) (hb : xs.length < 1000000) (hw : ∀ x, wipe ((wipe σ vs).set j (some x)) vs = wipe σ vs)
    (he : ∀ x H1, Ex H H1 → x ∈ xs → Er R te ((wipe σ vs).set j (some (.str (S x)))) H1 (f x)) : El R (tLc (iTup K tl) (gName j) tYes te vs) σ H (xs.map f) :=
  el_lcT h hb hw fun x v H1 e hx r => by cases r; exact he x H1 e hx
theorem el_lcLXc [Me R] [Mkt K R] {xs : List (List Nat)} {c : List Nat → Bool} {f : List Nat → α} (h : Er (rL K rX) tl σ H xs) (hb : xs.length < 1000000) (hw : ∀ x, wipe ((wipe σ vs).set j (some x)) vs = wipe σ vs)
    (ht : ∀ x H1, Ex H H1 → x ∈ xs → Et tt ((wipe σ vs).set j (some (.str (S x)))) H1 (c x)) (he : ∀ x H1, Ex H H1 → x ∈ xs → c x = true → Er R te ((wipe σ vs).set j (some (.str (S x)))) H1 (f x)) : El R (tLc (iList K tl) (gName j) tt te vs) σ H ((xs.filter c).map f) :=
  el_lcLc h hb hw (fun x v H1 e hx r => by cases r; exact ht x H1 e hx) fun x v H1 e hx r hc => by cases r; exact he x H1 e hx hc
theorem el_lcTXc [Me R] [Mkt K R] {xs : List (List Nat)} {c : List Nat → Bool} {f : List Nat → α} (h : Er (rT K rX) tl σ H xs) (hb : xs.length < 1000000) (hw : ∀ x, wipe ((wipe σ vs).set j (some x)) vs = wipe σ vs)
    (ht : ∀ x H1, Ex H H1 → x ∈ xs → Et tt ((wipe σ vs).set j (some (.str (S x)))) H1 (c x)) (he : ∀ x H1, Ex H H1 → x ∈ xs → c x = true → Er R te ((wipe σ vs).set j (some (.str (S x)))) H1 (f x)) : El R (tLc (iTup K tl) (gName j) tt te vs) σ H ((xs.filter c).map f) :=
  el_lcTc h hb hw (fun x v H1 e hx r => by cases r; exact ht x H1 e hx) fun x v H1 e hx r hc => by cases r; exact he x H1 e hx hc
theorem fl_TX {xs : List (List Nat)} {v : V} (r : rT K rX H xs v) (Pv : Nat → L2.St → Hp → Prop) (h0 : Pv 0 σ H) (hG : ∀ i σ H', i ≤ xs.length → Pv i σ H' → rT K rX H' xs v)
    (hs : ∀ i x σ H', i < xs.length → xs[i]? = some x → Pv i σ H' → tu { D with nx := Pv (i + 1), ct := Pv (i + 1), bk := D.nx } (σ.set j (some (.str (S x)))) H') (hd : ∀ σ H', Pv xs.length σ H' → D.nx σ H') :
    ∀ a, v = .ref a → Fl (Itt K a) (gName j) tu D σ H := fl_T r Pv h0 hG (fun i x u σ H' hi hx p r => by cases r; exact hs i x σ H' hi hx p) hd
theorem fl_LX {xs : List (List Nat)} {v : V} (r : rL K rX H xs v) (Pv : Nat → L2.St → Hp → Prop) (h0 : Pv 0 σ H) (hG : ∀ i σ H', i ≤ xs.length → Pv i σ H' → rL K rX H' xs v)
    (hs : ∀ i x σ H', i < xs.length → xs[i]? = some x → Pv i σ H' → tu { D with nx := Pv (i + 1), ct := Pv (i + 1), bk := D.nx } (σ.set j (some (.str (S x)))) H') (hd : ∀ σ H', Pv xs.length σ H' → D.nx σ H') :
    ∀ a, v = .ref a → Fl (Itl K a) (gName j) tu D σ H := fl_L r Pv h0 hG (fun i x u σ H' hi hx p r => by cases r; exact hs i x σ H' hi hx p) hd
theorem fq_TX {xs : List (List Nat)} {v : V} (r : rT K rX H xs v) (Pv : Nat → L2.St → Hp → Prop) (h0 : Pv 0 σ H) (hG : ∀ i σ H', i ≤ xs.length → Pv i σ H' → rT K rX H' xs v)
    (hs : ∀ i x σ H', i < xs.length → xs[i]? = some x → Pv i σ H' → tu { nx := Pv (i + 1), rt := D.rt, bk := tz D, ct := Pv (i + 1) } (σ.set j (some (.str (S x)))) H') (hd : ∀ σ H', Pv xs.length σ H' → tz D σ H') :
    ∀ a, v = .ref a → Fl (Itt K a) (gName j) tu { D with nx := tz D } σ H := fl_TX (D := { D with nx := tz D }) r Pv h0 hG hs hd
theorem fq_LX {xs : List (List Nat)} {v : V} (r : rL K rX H xs v) (Pv : Nat → L2.St → Hp → Prop) (h0 : Pv 0 σ H) (hG : ∀ i σ H', i ≤ xs.length → Pv i σ H' → rL K rX H' xs v)
    (hs : ∀ i x σ H', i < xs.length → xs[i]? = some x → Pv i σ H' → tu { nx := Pv (i + 1), rt := D.rt, bk := tz D, ct := Pv (i + 1) } (σ.set j (some (.str (S x)))) H') (hd : ∀ σ H', Pv xs.length σ H' → tz D σ H') :
    ∀ a, v = .ref a → Fl (Itl K a) (gName j) tu { D with nx := tz D } σ H := fl_LX (D := { D with nx := tz D }) r Pv h0 hG hs hd
end
section
variable {K : PySem.W.Frag} {H : Hp} {σ : L2.St} {ta tb te : TE}
theorem pB : ∀ {xs : List Bool} {vs : List V}, Paired (rB H) xs vs → vs = xs.map V.bl
  | [], _, .nil => rfl
  | x :: xs, _, .cons r t => by
    have e : _ = V.bl x := r
    rw [e, pB t]
    rfl
theorem er_any {xs : List Bool} (ha : Er (rL K rB) ta σ H xs) : Er rB (tCB (rAny K) (tCons ta tNil)) σ H (xs.any id) := fun H1 e Q q =>
  ha H1 e _ fun v H2 e2 ⟨a, vs, h1, hs, hp⟩ => by
    have e4 := pB hp
    subst e4
    exact ⟨a, xs, by rw [h1], hs, q _ H2 e2 rfl⟩
theorem er_all {xs : List Bool} (ha : Er (rL K rB) ta σ H xs) : Er rB (tCB (rAll K) (tCons ta tNil)) σ H (xs.all id) := fun H1 e Q q =>
  ha H1 e _ fun v H2 e2 ⟨a, vs, h1, hs, hp⟩ => by
    have e4 := pB hp
    subst e4
    exact ⟨a, xs, by rw [h1], hs, q _ H2 e2 rfl⟩
theorem er_sum {xs : List Int} (ha : Er (rL K rI) ta σ H xs) : Er rI (tCB (rSum K) (tCons ta tNil)) σ H xs.sum := fun H1 e Q q =>
  ha H1 e _ fun v H2 e2 ⟨a, vs, h1, hs, hp⟩ => by
    have e4 := pI hp
    subst e4
    exact ⟨a, xs, by rw [h1], hs, q _ H2 e2 rfl⟩
end
section
variable {X : Cx}
theorem cr_anyK (K : PySem.W.Frag) (hc : X.calm = true) (h : X.K = K := by rfl) : CallR X (.builtin "any") (rAny K) := by subst h; exact cr_any hc
theorem cr_allK (K : PySem.W.Frag) (hc : X.calm = true) (h : X.K = K := by rfl) : CallR X (.builtin "all") (rAll K) := by subst h; exact cr_all hc
end
end Dg


namespace Dg
open PySem PySem.Spec PyProof.Rows L2 Evl
open SX (S)
def topS (i : Nat) : Stmt := PySem.Challenge.pw_digitroots_k42_no_row.main.body.getD i (.Pass ⟨0, 0, 0, 0⟩)
abbrev s_is_whole : Stmt := topS 6
abbrev s_is_prime : Stmt := topS 7
abbrev s_look_prime : Stmt := topS 8
abbrev s_back_of : Stmt := topS 9
abbrev s_order_of : Stmt := topS 11
abbrev s_settled_known : Stmt := topS 12
abbrev s_settled_by : Stmt := topS 13
abbrev s_summed_at : Stmt := topS 14
abbrev s_settled_entries : Stmt := topS 15
abbrev s__law_bag : Stmt := topS 17
abbrev s__law_take : Stmt := topS 18
abbrev s__law_numbers : Stmt := topS 19
abbrev s__law_trimmed : Stmt := topS 20
abbrev s__law_low_poly : Stmt := topS 21
abbrev s__law_powers : Stmt := topS 22
abbrev s__law_sum_at : Stmt := topS 23
abbrev s__law_followed : Stmt := topS 24
abbrev s__law_told : Stmt := topS 25
abbrev s__law_no_prime : Stmt := topS 26
abbrev s__law_beginning : Stmt := topS 27
abbrev s_law : Stmt := topS 28
theorem sc_is_whole : FnScope ["thing"] ["thing"] (defScope s_is_whole) := ⟨rfl, rfl, rfl, by decide +kernel, rfl, by decide +kernel, by decide +kernel⟩
theorem sc_is_prime : FnScope ["thing"] ["thing"] (defScope s_is_prime) := ⟨rfl, rfl, rfl, by decide +kernel, rfl, by decide +kernel, by decide +kernel⟩
theorem sc_look_prime : FnScope ["p"] ["p"] (defScope s_look_prime) := ⟨rfl, rfl, rfl, by decide +kernel, rfl, by decide +kernel, by decide +kernel⟩
theorem sc_back_of : FnScope ["p", "number", "other"] ["p", "number"] (defScope s_back_of) := ⟨rfl, rfl, rfl, by decide +kernel, rfl, by decide +kernel, by decide +kernel⟩
theorem sc_order_of : FnScope ["poly", "place", "number"] ["poly"] (defScope s_order_of) := ⟨rfl, rfl, rfl, by decide +kernel, rfl, by decide +kernel, by decide +kernel⟩
theorem sc_settled_known : FnScope ["p", "powers", "found", "far", "poly"] ["p", "powers"] (defScope s_settled_known) := ⟨rfl, rfl, rfl, by decide +kernel, rfl, by decide +kernel, by decide +kernel⟩
theorem sc_settled_by : FnScope ["p", "powers"] ["p", "powers"] (defScope s_settled_by) := ⟨rfl, rfl, rfl, by decide +kernel, rfl, by decide +kernel, by decide +kernel⟩
theorem sc_summed_at : FnScope ["p", "powers", "known", "place", "found", "far", "poly", "at", "number"] ["p", "powers", "known", "place"] (defScope s_summed_at) := ⟨rfl, rfl, rfl, by decide +kernel, rfl, by decide +kernel, by decide +kernel⟩
theorem sc_settled_entries : FnScope ["p", "powers", "firsts", "many", "least", "known", "lead", "back", "place"] ["p", "powers", "firsts", "many"] (defScope s_settled_entries) := ⟨rfl, rfl, rfl, by decide +kernel, rfl, by decide +kernel, by decide +kernel⟩
theorem sc__law_bag : FnScope ["_law_script", "_law_at", "_law_cell", "_law_prime"] ["_law_script", "_law_at"] (defScope s__law_bag) := ⟨rfl, rfl, rfl, by decide +kernel, rfl, by decide +kernel, by decide +kernel⟩
theorem sc__law_take : FnScope ["_law_bag_here", "_law_many", "_law_digit"] ["_law_bag_here", "_law_many"] (defScope s__law_take) := ⟨rfl, rfl, rfl, by decide +kernel, rfl, by decide +kernel, by decide +kernel⟩
theorem sc__law_numbers : FnScope ["_law_bag_here", "_law_p", "_law_many", "_law_k"] ["_law_bag_here", "_law_p", "_law_many"] (defScope s__law_numbers) := ⟨rfl, rfl, rfl, by decide +kernel, rfl, by decide +kernel, by decide +kernel⟩
theorem sc__law_trimmed : FnScope ["_law_numbers_here", "_law_many", "_law_k"] ["_law_numbers_here"] (defScope s__law_trimmed) := ⟨rfl, rfl, rfl, by decide +kernel, rfl, by decide +kernel, by decide +kernel⟩
theorem sc__law_low_poly : FnScope ["_law_bag_here", "_law_p", "_law_most", "_law_numbers_here"] ["_law_bag_here", "_law_p", "_law_most"] (defScope s__law_low_poly) := ⟨rfl, rfl, rfl, by decide +kernel, rfl, by decide +kernel, by decide +kernel⟩
theorem sc__law_powers : FnScope ["_law_bag_here", "_law_p", "_law_lead", "_law_first", "_law_turn"] ["_law_bag_here", "_law_p"] (defScope s__law_powers) := ⟨rfl, rfl, rfl, by decide +kernel, rfl, by decide +kernel, by decide +kernel⟩
theorem sc__law_sum_at : FnScope ["_law_p", "_law_powers_here", "_law_known", "_law_place", "_law_found", "_law_far", "_law_poly", "_law_at"] ["_law_p", "_law_powers_here", "_law_known", "_law_place"] (defScope s__law_sum_at) := ⟨rfl, rfl, rfl, by decide +kernel, rfl, by decide +kernel, by decide +kernel⟩
theorem sc__law_followed : FnScope ["_law_p", "_law_powers_here", "_law_begin", "_law_many", "_law_lead", "_law_known", "_law_place", "_law_number"] ["_law_p", "_law_powers_here", "_law_begin", "_law_many"] (defScope s__law_followed) := ⟨rfl, rfl, rfl, by decide +kernel, rfl, by decide +kernel, by decide +kernel⟩
theorem sc__law_told : FnScope ["_law_p", "_law_powers_here", "_law_firsts", "_law_many", "e"] ["_law_p", "_law_powers_here", "_law_firsts", "_law_many"] (defScope s__law_told) := ⟨rfl, rfl, rfl, by decide +kernel, rfl, by decide +kernel, by decide +kernel⟩
theorem sc__law_no_prime : FnScope ["_law_thing", "_law_firsts", "_law_powers_here", "e"] ["_law_thing"] (defScope s__law_no_prime) := ⟨rfl, rfl, rfl, by decide +kernel, rfl, by decide +kernel, by decide +kernel⟩
theorem sc__law_beginning : FnScope ["_law_bag_here", "_law_p", "_law_powers_here", "_law_least", "_law_begin", "_law_more"] ["_law_bag_here", "_law_p", "_law_powers_here", "_law_least"] (defScope s__law_beginning) := ⟨rfl, rfl, rfl, by decide +kernel, rfl, by decide +kernel, by decide +kernel⟩
theorem sc_law : FnScope ["_law_script", "_law_k", "_law_bag_here", "_law_p", "_law_powers_here", "_law_least", "_law_turn", "_law_firsts", "_law_row", "_law_nought", "_law_many", "_law_due", "_law_place"] ["_law_script"] (defScope s_law) := ⟨rfl, rfl, rfl, by decide +kernel, rfl, by decide +kernel, by decide +kernel⟩
def P3 (p : Nat) : Prop := p = 2 ∨ p = 3 ∨ p = 5
theorem P3.pos {p : Nat} (h : P3 p) : 0 < p := by rcases h with rfl | rfl | rfl <;> decide
theorem P3.two {p : Nat} (h : P3 p) : 2 ≤ p := by rcases h with rfl | rfl | rfl <;> decide
section
variable {P : Program} {w : World} {K : PySem.W.Frag} {mg : Str → Option Value} {base : Heap}
/-! ### is_whole, is_prime, look_prime -/
def sp_is_whole (K : PySem.W.Frag) : Sp := fun vs H Q _ => ∃ x : V, vs = [x] ∧ Th K H x ∧ ∀ H', Ex H H' → Q (.bl (isW x)) H'
theorem ok_is_whole {f : Addr} {fd : FuncData} (F : Fun K "is_whole" "is_whole" s_is_whole f fd) (n_isinstance : mg "isinstance" = none) (n_int : mg "int" = none) (n_bool : mg "bool" = none) : FnOk P w K mg base CX0 1 f fd ["thing"] (sp_is_whole K) := by
  refine F.ok sc_is_whole (fun vs H Q E h => ?_) (fun cdv A outer s H vs Q E hr h => ?_)
  · obtain ⟨x, rfl, _⟩ := h; rfl
  · obtain ⟨x, rfl, th, q⟩ := h
    obtain ⟨t, ty, k1, k2⟩ := th.ty
    refine ⟨_, pss_one (ps_ret (pe_and (pe_callB call_isi (by rfl) n_isinstance (by decide +kernel) (pa_cons (pv 0) (pa_cons (pe_bltn (v := .ty "int") (by rfl) n_int (by decide +kernel) rfl) pa_nil)))
      (pe_one (pe_not (pe_callB call_isi (by rfl) n_isinstance (by decide +kernel) (pa_cons (pv 0) (pa_cons (pe_bltn (v := .ty "bool") (by rfl) n_bool (by decide +kernel) rfl) pa_nil))))))), ?_⟩
    refine ⟨x, rfl, x, .ty "int", _, _, _, rfl, .ty "int", ty, kit_ty k1, _, rfl, ite2 (fun h1 => ?_) (fun h1 => ?_)⟩
    · refine ⟨x, rfl, x, .ty "bool", _, _, _, rfl, .ty "bool", ty, kit_ty k2, _, rfl, ?_⟩
      have e := isW_eq x
      rw [h1, Bool.true_and] at e
      rw [← e]
      exact q H (Ex.refl H)
    · have e := isW_eq x
      rw [Bool.eq_false_iff.mpr h1, Bool.false_and] at e
      have z := q H (Ex.refl H)
      rw [e] at z
      exact z
def sp_is_prime (K : PySem.W.Frag) : Sp := fun vs H Q _ => ∃ x : V, vs = [x] ∧ Th K H x ∧ ∀ H', Ex H H' → Q (.bl (isPr x)) H'
theorem ok_is_prime {f : Addr} {fd : FuncData} (F : Fun K "is_prime" "is_prime" s_is_prime f fd) (D_is_whole : Df P w K mg base CX0 1 "is_whole" ["thing"] (sp_is_whole K)) (c_PRIMES : Cn K mg "PRIMES" [.int 2, .int 3, .int 5]) : FnOk P w K mg base CX0 2 f fd ["thing"] (sp_is_prime K) := by
  refine F.ok sc_is_prime (fun vs H Q E h => ?_) (fun cdv A outer s H vs Q E hr h => ?_)
  · obtain ⟨x, rfl, _⟩ := h; rfl
  · obtain ⟨x, rfl, th, q⟩ := h
    refine ⟨_, pss_one (ps_ret (pe_and (pe_call D_is_whole.ok hr (by rfl) D_is_whole.g D_is_whole.kp D_is_whole.b .nil pass0 (pa_cons (pv 0) pa_nil))
      (pe_one (pe_cmpR op_in_seq (pv 0) (pe_glob (v := .ref c_PRIMES.a) (by rfl) c_PRIMES.g rfl) (by rfl))))), ?_⟩
    refine ⟨x, rfl, x, rfl, th, fun H1 e1 => ⟨_, rfl, ite2 (fun h1 => ?_) (fun h1 => ?_)⟩⟩
    · cases x <;> first | cases h1 | skip
      rename_i i
      refine ⟨.int i, rfl, c_PRIMES.a, _, rfl, .inr (c_PRIMES.s H1), rfl, rfl, ?_⟩
      have z := q H1 e1
      have e : inV (.int i) [.int 2, .int 3, .int 5] = isPr (.int i) := by
        show ((2 : Int) == i || ((3 : Int) == i || ((5 : Int) == i || false))) = decide (Pr i)
        rw [Bool.eq_iff_iff]
        simp only [Bool.or_eq_true, beq_iff_eq, Bool.false_eq_true, or_false, decide_eq_true_eq]
        exact ⟨fun h => by rcases h with h | h | h <;> simp [Pr, ← h], fun h => by rcases h with h | h | h <;> simp [h]⟩
      show Q (.bl (inV (.int i) [.int 2, .int 3, .int 5])) H1
      rw [e]
      exact z
    · have z := q H1 e1
      rw [isPr_W (Bool.eq_false_iff.mpr h1)] at z
      exact z
def sp_look_prime (K : PySem.W.Frag) (C : Addr) : Sp := fun vs H Q E => ∃ x : V, vs = [x] ∧ Th K H x ∧ (isPr x = true → ∀ H', Ex H H' → Q .non H') ∧ (isPr x = false → ∀ H', Ex H H' → E (.ref C) none H')
/-- what is known of a class of errors -/
structure Xc (K : PySem.W.Frag) (mg : Str → Option Value) (x : Str) (C : Addr) : Prop where
  g : mg x = some (.ref C)
  kp : PySem.W.keepIn K (.ref C) = true
  x : PySem.W.excIn K C [.type "ValueError", .type "Exception", .type "BaseException", .type "object"] "ValueError.__new__" = true
  sb : PySem.W.subIn K (.ref C) (.type "BaseException") = some true
  ty : PySem.W.typeIn K (.ref C) = some (.type "type")
theorem ok_look_prime {f : Addr} {fd : FuncData} (F : Fun K "look_prime" "look_prime" s_look_prime f fd) (D_is_prime : Df P w K mg base CX0 2 "is_prime" ["thing"] (sp_is_prime K)) {C : Addr} (x_NoPrime : Xc K mg "NoPrime" C) : FnOk P w K mg base (L2.CX P w) 3 f fd ["p"] (sp_look_prime K C) := by
  refine F.okX sc_look_prime (fun vs H Q E h => ?_) (fun cdv A outer s H vs Q E hr h => ?_)
  · obtain ⟨x, rfl, _⟩ := h; rfl
  · obtain ⟨x, rfl, th, q1, q2⟩ := h
    refine ⟨_, pss_one (ps_if (pt_not (pt_val (pe_call D_is_prime.ok hr (by rfl) D_is_prime.g D_is_prime.kp D_is_prime.b .nil pass0 (pa_cons (pv 0) pa_nil))))
      (pss_one (ps_raise rfl (takes_of rfl rfl rfl rfl) (pmk_own PySem.F.excBase_ValueError x_NoPrime.x x_NoPrime.g x_NoPrime.kp (raises_own x_NoPrime.sb x_NoPrime.ty) rfl))) pss_nil), ?_⟩
    refine ⟨x, rfl, x, rfl, th, fun H1 e1 => ⟨_, rfl, ite2 (fun h1 => ?_) (fun h1 => ?_)⟩⟩
    · exact q2 (by simpa using h1) H1 e1
    · exact q1 (by simpa using h1) H1 e1
/-- look_prime(p) as a statement -/
theorem s_look {x : V} {σ : L2.St} {H : Hp} {D : Ends} {i : Nat} {C : Addr} {E : XK} (hx : σ[i]? = some (some x)) (th : Th K H x) (k1 : ∀ p : Nat, x = .int p → P3 p → ∀ H1, Ex H H1 → D.nx σ H1) (k2 : isPr x = false → ∀ H1, Ex H H1 → E (.ref C) none H1) :
    tDrop (tCall (sp_look_prime K C) [] E (tCons (tVar i) tNil)) D σ H := by
  refine ⟨x, hx, x, rfl, th, fun h H1 e1 => ?_, k2⟩
  obtain ⟨p, rfl, hp⟩ := isPr_int h
  rcases hp with rfl | rfl | rfl
  · exact k1 2 rfl (.inl rfl) H1 e1
  · exact k1 3 rfl (.inr (.inl rfl)) H1 e1
  · exact k1 5 rfl (.inr (.inr rfl)) H1 e1
theorem P3.pr {p : Nat} (h : P3 p) : Pr (p : Int) := by rcases h with rfl | rfl | rfl <;> decide
theorem P3.le {p : Nat} (h : P3 p) : 2 ≤ p ∧ p ≤ 5 := by rcases h with rfl | rfl | rfl <;> decide
end
section
variable {P : Program} {w : World} {K : PySem.W.Frag} {mg : Str → Option Value} {base : Heap}
/-! ### the law's bag -/
def sp__law_bag (K : PySem.W.Frag) : Sp := fun vs H Q _ => ∃ (a : Addr) (ns : List Int) (k : Int), vs = [.ref a, .int k] ∧ SqL K H a (ns.map V.int) ∧ 0 ≤ k ∧ k < 1000 ∧ ∀ p H', H p = none → Ex H H' → Bag H' p → Q (.ref p) H'
theorem ok__law_bag {f : Addr} {fd : FuncData} (F : Fun K "_law_bag" "_law_bag" s__law_bag f fd) (n_len : mg "len" = none) (n_abs : mg "abs" = none) (n_int : mg "int" = none) : FnOk P w K mg base CX0 1 f fd ["_law_script", "_law_at"] (sp__law_bag K) := by
  refine F.ok sc__law_bag (fun vs H Q E h => ?_) (fun cdv A outer s H vs Q E hr h => ?_)
  · obtain ⟨a, ns, k, rfl, _⟩ := h; rfl
  · obtain ⟨a, ns, k, rfl, hS, hk0, hk1, q⟩ := h
    refine ⟨_, (pss_cons (ps_set (i := 2) sc__law_bag.nd rfl (Or.inl rfl) pe_int)
 (Evl.pss_cut (ps_if (pt_cmpR op_lt (pv 1) (pe_callB call_len_seq (by rfl) n_len (by decide +kernel) (pa_cons (pv 0) pa_nil)) (nomark _)) (pss_one (ps_set (i := 2) sc__law_bag.nd rfl (Or.inl rfl) (pe_callB call_abs (by rfl) n_abs (by decide +kernel) (pa_cons (pe_ix ix_list (pv 0) (pv 1) (fun _ _ => rfl)) pa_nil)))) pss_nil)
 (pss_cons (ps_set (i := 3) sc__law_bag.nd rfl (Or.inl rfl) (pe_ix ix_list (pe_lst (pa_cons pe_int (pa_cons pe_int (pa_cons pe_int (pa_cons pe_int (pa_cons pe_int (pa_cons pe_int (pa_cons pe_int (pa_cons pe_int pa_nil))))))))) (pe_op op_mod (pv 1) pe_int) (fun _ _ => rfl)))
 (pss_one (ps_ret (pe_lst (pa_cons (pe_op op_mul (pv 2) (pe_callTy call_int1 (by rfl) n_int (by decide +kernel) (pa_cons (pe_cmpR op_ge (pv 2) (pe_op op_pow pe_int pe_int) (nomark _)) pa_nil))) (pa_cons (pe_op op_mod (pe_op op_pow (pe_op op_add (pe_op op_add (pe_op op_mod (pv 2) pe_int) (pe_op op_mul pe_int (pv 1))) pe_int) pe_int) (pv 3)) (pa_cons (pv 3) (pa_cons pe_int pa_nil)))))))))), ?_⟩
    refine s_asgI er_int fun H1 e1 => ?_
    have hL : rL K rI H1 ns (.ref a) := Me.ex e1 (rl_of hS)
    refine ⟨fun σ' H' => ∃ cell : Int, 0 ≤ cell ∧ σ' = [some (.ref a), some (.int k), some (.int cell), none] ∧ Ex H H', ?_, ?_⟩
    · refine s_if (et_t (er_cmp er_iv (er_lenL (er_var rfl hL)))) (fun hb H2 e2 => ?_) (fun hb H2 e2 => ?_)
      · have hb' := of_decide_eq_true hb
        exact s_asgI (er_abs (er_ixL0 (0 : Int) (er_var rfl (Me.ex e2 hL)) er_iv (by omega) hb')) fun H3 e3 => ⟨_, by split <;> omega, rfl, (e1.trans e2).trans e3⟩
      · exact ⟨0, by omega, rfl, e1.trans e2⟩
    · rintro _ H2 ⟨cell, hc, rfl, F0⟩
      have hk8 : 0 ≤ k % 8 ∧ k % 8 < 8 := by omega
      refine s_asgI (er_ixL0 (0 : Int) (El.er (el_lst (R := rI) (eas er_int (eas er_int (eas er_int (eas er_int (eas er_int (eas er_int (eas er_int (eas er_int eas0)))))))) (by decide))) (er_op er_iv er_int (by decide)) (by show -(8 : Int) ≤ k % 8; omega) (by show k % 8 < (8 : Int); omega)) fun H3 e3 => ?_
      have hpr : 0 < gt0 (0 : Int) [2147483629, 2147483587, 2147483579, 2147483563, 2147483549, 2147483543, 2147483497, 2147483489] (k % 8) ∧ gt0 (0 : Int) [2147483629, 2147483587, 2147483579, 2147483563, 2147483549, 2147483543, 2147483497, 2147483489] (k % 8) < 4294967296 := by
        have hh : k % 8 = 0 ∨ k % 8 = 1 ∨ k % 8 = 2 ∨ k % 8 = 3 ∨ k % 8 = 4 ∨ k % 8 = 5 ∨ k % 8 = 6 ∨ k % 8 = 7 := by omega
        rcases hh with hh | hh | hh | hh | hh | hh | hh | hh <;> rw [hh] <;> decide
      generalize gt0 (0 : Int) [2147483629, 2147483587, 2147483579, 2147483563, 2147483549, 2147483543, 2147483497, 2147483489] (k % 8) = pr at hpr ⊢
      have hx : 0 ≤ cell % 2147483647 ∧ cell % 2147483647 < 2147483647 := by omega
      have hm := Int.emod_nonneg ((cell % 2147483647 + 104729 * k + 7) ^ (5 : Int).toNat) (show pr ≠ 0 by omega)
      have hm2 := Int.emod_lt_of_pos ((cell % 2147483647 + 104729 * k + 7) ^ (5 : Int).toNat) hpr.1
      refine go_L (el_lst (R := rI) (eas (er_op (C := CMul) er_iv (er_intB (er_cmp er_iv (er_op (C := CPow) er_int er_int ⟨by decide, by decide, by decide⟩))) (cmul_r (by split <;> omega)))
        (eas (er_op (er_op (C := CPow) (er_op0 (er_op0 (er_op er_iv er_int (by decide)) (er_op (C := CMul) er_int er_iv (cmul_l (by decide)))) er_int) er_int ⟨by decide, by decide, by omega⟩) er_iv (by omega)) (eas er_iv (eas er_int eas0)))) (by simp)) fun p H4 n4 e4 l4 => ?_
      refine q p H4 (fresh_back (F0.trans e3) n4) ((F0.trans e3).trans e4) ⟨_, _, _, _, l4, ?_, hm, by omega, hpr.1, hpr.2⟩
      split <;> simp <;> omega
def sp__law_take (K : PySem.W.Frag) : Sp := fun vs H Q _ => ∃ (b : Addr) (m : Int), vs = [.ref b, .int m] ∧ Bag H b ∧ 0 < m ∧ m < 1000000 ∧ ∀ (r : Int) H', C1 b H H' → Bag H' b → 0 ≤ r ∧ r < m → Q (.int r) H'
theorem ok__law_take {f : Addr} {fd : FuncData} (F : Fun K "_law_take" "_law_take" s__law_take f fd) : FnOk P w K mg base CX0 1 f fd ["_law_bag_here", "_law_many"] (sp__law_take K) := by
  refine F.ok sc__law_take (fun vs H Q E h => ?_) (fun cdv A outer s H vs Q E hr h => ?_)
  · obtain ⟨b, m, rfl, _⟩ := h; rfl
  · obtain ⟨b, m, rfl, ⟨b0, b1, pr, c, hB, h0, h1, h2, h3, h4⟩, hm0, hm1, q⟩ := h
    refine ⟨_, (pss_cons (ps_if (pt_cmpR op_gt (pe_ix ix_list (pv 0) pe_int (fun _ _ => rfl)) pe_int (nomark _)) (pss_cons (ps_set (i := 2) sc__law_take.nd rfl (Or.inl rfl) (pe_op op_mod (pe_ix ix_list (pv 0) pe_int (fun _ _ => rfl)) (pv 1)))
 (pss_cons (ps_asg (pe_op op_fdiv (pe_ix ix_list (pv 0) pe_int (fun _ _ => rfl)) (pv 1)) (pg_sub (pv 0) pe_int set_list))
 (pss_one (ps_ret (pv 2))))) pss_nil)
 (pss_cons (ps_asg (pe_op op_add (pe_ix ix_list (pv 0) pe_int (fun _ _ => rfl)) pe_int) (pg_sub (pv 0) pe_int set_list))
 (pss_cons (ps_asg (pe_op op_mod (pe_op op_add (pe_op op_add (pe_op op_mul (pe_ix ix_list (pv 0) pe_int (fun _ _ => rfl)) pe_int) (pe_op op_mul pe_int (pe_ix ix_list (pv 0) pe_int (fun _ _ => rfl)))) pe_int) (pe_ix ix_list (pv 0) pe_int (fun _ _ => rfl))) (pg_sub (pv 0) pe_int set_list))
 (pss_one (ps_ret (pe_op op_mod (pe_op op_mod (pe_op op_pow (pe_op op_fdiv (pe_ix ix_list (pv 0) pe_int (fun _ _ => rfl)) pe_int) pe_int) pe_int) (pv 1))))))), ?_⟩
    have ix : ∀ {H : Hp} {σ : L2.St} {xs : List Int} (k : Int), σ[0]? = some (some (.ref b)) → Lt rI H b xs → xs.length = 4 → 0 ≤ k → k < 4 → Er rI (tOp (rIxL K) (tVar 0) (tC (.int k))) σ H (gt0 0 xs k) := fun k hσ l hl k0 k1 => er_ixL0 (0 : Int) (er_var hσ l.rl) er_int (by omega) (by omega)
    have fin : ∀ (x : Int), 0 ≤ x % m ∧ x % m < m := fun x => ⟨Int.emod_nonneg _ (by omega), Int.emod_lt_of_pos _ hm0⟩
    refine s_if (et_t (er_cmp (ix 0 rfl hB rfl (by decide) (by decide)) er_int)) (fun hb H1 e1 => ?_) (fun hb H1 e1 => ?_)
    · have hb' : 0 < b0 := of_decide_eq_true hb
      refine s_asgI (er_op (ix 0 rfl (hB.ex e1) rfl (by decide) (by decide)) er_iv hm0) fun H2 e2 => ?_
      refine s_set (K := K) (j := 0) (hB.ex (e1.trans e2)) rfl (er_op (ix 0 rfl (hB.ex (e1.trans e2)) rfl (by decide) (by decide)) er_iv ⟨hm0, by omega⟩) er_int (by simp) (by simp) fun H3 c3 l3 => ?_
      refine s_ret (R := rI) er_iv fun v H4 e4 r => ?_
      cases r
      exact q _ H4 (((C1.ex (e1.trans e2)).trans c3).trans (C1.ex e4)) ⟨_, _, _, _, l3.ex e4, Int.ediv_nonneg h0 (by omega), h1, h2, h3, h4⟩ (fin _)
    · refine s_set (K := K) (j := 0) (hB.ex e1) rfl (er_op0 (ix 3 rfl (hB.ex e1) rfl (by decide) (by decide)) er_int) er_int (by simp) (by simp) fun H2 c2 l2 => ?_
      refine s_set (K := K) (j := 0) l2 rfl (er_op (er_op0 (er_op0 (er_op (C := CMul) (ix 1 rfl l2 rfl (by decide) (by decide)) er_int (cmul_r (by decide))) (er_op (C := CMul) er_int (ix 3 rfl l2 rfl (by decide) (by decide)) (cmul_l (by decide)))) er_int) (ix 2 rfl l2 rfl (by decide) (by decide)) (show 0 < pr from h3)) er_int (by simp) (by simp) fun H3 c3 l3 => ?_
      have z1 : 0 ≤ (b1 * 48271 + 7919 * (c + 1) + 11) % pr := Int.emod_nonneg _ (by omega)
      have z2 : (b1 * 48271 + 7919 * (c + 1) + 11) % pr < pr := Int.emod_lt_of_pos _ h3
      generalize hz : (b1 * 48271 + 7919 * (c + 1) + 11) % pr = z at z1 z2
      have l3' : Lt rI H3 b [b0, z, pr, c + 1] := by rw [← hz]; exact l3
      refine s_ret (R := rI) (er_op (er_op (er_op (C := CPow) (er_op (C := CDiv) (ix 1 rfl l3' rfl (by decide) (by decide)) er_int ⟨by decide, by decide⟩) er_int ⟨by decide, by decide, ?_⟩) er_int (by decide)) er_iv hm0) fun v H4 e4 r => ?_
      · show (z / 8).natAbs < 2 ^ 64
        omega
      · cases r
        exact q _ H4 ((((C1.ex e1).trans c2).trans c3).trans (C1.ex e4)) ⟨_, _, _, _, l3'.ex e4, h0, z1, by omega, h3, h4⟩ (fin _)
/-- a draw, step by step -/
theorem go_take {H : Hp} {σ : L2.St} {tm : TE} {E : XK} {Q : VK} {i : Nat} {b : Addr} {m : Int} (hσ : σ[i]? = some (some (.ref b))) (hB : Bag H b) (hm : Er rI tm σ H m) (h : 0 < m ∧ m < 1000000) (k : ∀ (r : Int) H', C1 b H H' → Bag H' b → 0 ≤ r ∧ r < m → Q (.int r) H') :
    tCall (sp__law_take K) [] E (tCons (tVar i) (tCons tm tNil)) σ H Q := by
  refine ⟨_, hσ, ?_⟩
  refine hm H (Ex.refl H) _ fun v H1 e1 r => ?_
  cases r
  exact ⟨b, m, rfl, hB.ex e1, h.1, h.2, fun r H' c B hr => k r H' ((C1.ex e1).trans c) B hr⟩
end
section
/-! ### the place of the first number that isn't 0 -/
def ordL (xs : List Int) : Nat := xs.findIdx fun x => !decide (x = 0)
def nzP (xs : List Int) : Prop := ∃ x ∈ xs, x ≠ 0
theorem enm_eq (xs : List Int) : enm xs = (List.range xs.length).map fun (i : Nat) => ((i : Int), (xs[i]?).getD 0) := by
  refine List.ext_getElem? fun i => ?_
  by_cases h : i < xs.length
  · rw [enm_get (List.getElem?_eq_getElem h), List.getElem?_map, List.getElem?_range h]
    simp [List.getElem?_eq_getElem h]
  · rw [List.getElem?_eq_none (by rw [enm_len]; omega), List.getElem?_eq_none (by simp; omega)]
theorem ord_lt {xs : List Int} (h : nzP xs) : ordL xs < xs.length := by
  obtain ⟨x, h1, h2⟩ := h
  exact List.findIdx_lt_length_of_exists ⟨x, h1, by simp [h2]⟩
theorem ord_find {xs : List Int} (h : nzP xs) : (List.range xs.length).find? (fun i => !decide ((xs[i]?).getD 0 = 0)) = some (ordL xs) := by
  have hl := ord_lt h
  rw [List.find?_range_eq_some]
  refine ⟨?_, List.mem_range.mpr hl, fun j hj => ?_⟩
  · rw [List.getElem?_eq_getElem hl]
    exact List.findIdx_getElem (p := fun x => !decide (x = 0)) (w := hl)
  · have hj2 : j < xs.length := Nat.lt_trans hj hl
    have := List.not_of_lt_findIdx (p := fun x => !decide (x = 0)) hj
    rw [List.getElem?_eq_getElem hj2]
    simpa using this
theorem gt0_head {ys : List Int} {a : Int} (h : ys.head? = some a) : gt0 (0 : Int) ys 0 = a ∧ 0 < ys.length := by
  cases ys with
  | nil => cases h
  | cons b r => cases h; exact ⟨rfl, Nat.succ_pos _⟩
theorem ordE {xs : List Int} (h : nzP xs) : gt0 (0 : Int) (((enm xs).filter fun x => !decide (x.2 = 0)).map fun x => x.1) 0 = (ordL xs : Int) ∧ 0 < (((enm xs).filter fun x => !decide (x.2 = 0)).map fun x => x.1).length := by
  refine gt0_head ?_
  rw [List.head?_map, List.head?_filter, enm_eq, List.find?_map]
  have e := ord_find h
  simp only [Function.comp_def]
  rw [e]
  rfl
theorem ordR {xs : List Int} (h : nzP xs) : gt0 (0 : Int) (((rng 0 (xs.length : Int)).filter fun i => !decide (gt0 (0 : Int) xs i = 0)).map fun i => i) 0 = (ordL xs : Int) ∧ 0 < (((rng 0 (xs.length : Int)).filter fun i => !decide (gt0 (0 : Int) xs i = 0)).map fun i => i).length := by
  refine gt0_head ?_
  rw [List.head?_map, List.head?_filter]
  unfold rng
  rw [List.find?_map, show ((xs.length : Int) - 0).toNat = xs.length by omega]
  have e := ord_find h
  simp only [Function.comp_def, Int.zero_add, gt0_nat]
  rw [e]
  rfl
end
section
def PwOk (pw : List (List Int)) : Prop := 0 < pw.length ∧ pw.length ≤ 4 ∧ (∀ a ∈ pw, a ≠ [] → nzP a ∧ a.length ≤ 1000) ∧ gt0 [] pw 0 ≠ []
theorem mem_cutL {α : Type} {xs : List α} {lo hi : Option Int} {i : Nat} {x : α} (h : (cutL xs lo hi)[i]? = some x) : x ∈ xs := List.mem_of_mem_drop (List.mem_of_mem_take (List.mem_of_getElem? h))
theorem cutL_one {α : Type} (xs : List α) : cutL xs (some 1) none = xs.drop 1 := cutL_lo 1
def mx2 (i j : Int) : Int := if j > i then j else i
def mn2 (i j : Int) : Int := if j < i then j else i
theorem er_mx2 {H : Hp} {σ : L2.St} {ta tb : TE} {i j : Int} (ha : Er rI ta σ H i) (hb : Er rI tb σ H j) : Er rI (tCB (fun xs H Q => ∃ i j, xs = [.int i, .int j] ∧ Q (.int (if j > i then j else i)) H) (tCons ta (tCons tb tNil))) σ H (mx2 i j) := er_max2 ha hb
theorem er_mn2 {H : Hp} {σ : L2.St} {ta tb : TE} {i j : Int} (ha : Er rI ta σ H i) (hb : Er rI tb σ H j) : Er rI (tCB (fun xs H Q => ∃ i j, xs = [.int i, .int j] ∧ Q (.int (if j < i then j else i)) H) (tCons ta (tCons tb tNil))) σ H (mn2 i j) := er_min2 ha hb
theorem PwOk.first {pw : List (List Int)} (h : PwOk pw) : nzP (gt0 [] pw 0) ∧ (gt0 [] pw 0).length ≤ 1000 := h.2.2.1 _ (List.mem_of_getElem? (gt0_some (d := ([] : List Int)) (i := 0) (by omega) (by have := h.1; omega))) h.2.2.2
theorem pw_small {p : Int} {i : Nat} (h : 2 ≤ p ∧ p ≤ 5) (hi : i < 3) : 1 < p ^ i * p ∧ p ^ i * p ≤ 625 := by
  have hp : p = 2 ∨ p = 3 ∨ p = 4 ∨ p = 5 := by omega
  have hii : i = 0 ∨ i = 1 ∨ i = 2 := by omega
  rcases hp with rfl | rfl | rfl | rfl <;> rcases hii with rfl | rfl | rfl <;> decide
theorem Pr.le {p : Int} (h : Pr p) : 2 ≤ p ∧ p ≤ 5 := by rcases h with rfl | rfl | rfl <;> decide
theorem pick3i {i : Int} (h : 0 ≤ i ∧ i < 3) : ∃ p, gt0 (0 : Int) [2, 3, 5] i = p ∧ Pr p := by
  have : i = 0 ∨ i = 1 ∨ i = 2 := by omega
  rcases this with rfl | rfl | rfl
  · exact ⟨2, rfl, .inl rfl⟩
  · exact ⟨3, rfl, .inr (.inl rfl)⟩
  · exact ⟨5, rfl, .inr (.inr rfl)⟩
theorem mm_b {n : Nat} {a b : Int} (ha : 0 ≤ a ∧ a < 1000 := by decide) (hb : 0 ≤ b ∧ b < 1000 := by decide) : -(2 ^ 62) ≤ mx2 a (mn2 b (n : Int)) ∧ mx2 a (mn2 b (n : Int)) < 2 ^ 62 := by
  unfold mx2 mn2
  split <;> split <;> omega
theorem mm_b2 {n : Nat} {a b : Int} (ha : 0 ≤ a ∧ a < 1000 := by decide) (hb : 0 ≤ b ∧ b < 1000 := by decide) : mx2 a (mn2 b (n : Int)) ≤ 1000 := by
  unfold mx2 mn2
  split <;> split <;> omega
theorem cutL_len {α : Type} (xs : List α) (lo hi : Option Int) : (cutL xs lo hi).length ≤ xs.length := by
  unfold cutL
  rw [List.length_take, List.length_drop]
  omega
/-- the greatest place that fits, and one more -/
theorem mxT {n : Nat} {c : Int → Bool} : ∃ m : Nat, mxD 0 (((rng 0 (n : Int)).filter c).map fun x => x + 1) = (m : Int) ∧ m ≤ n ∧ (m = 0 ∨ c ((m : Int) - 1) = true) := by
  cases hz : ((rng 0 (n : Int)).filter c).map fun x => x + 1 with
  | nil => exact ⟨0, rfl, Nat.zero_le _, .inl rfl⟩
  | cons a r =>
    have hm : mxD 0 (a :: r) ∈ a :: r := by
      show mxI a r ∈ a :: r
      rcases mxI_mem r a with h | h
      · rw [h]; exact List.mem_cons_self ..
      · exact List.mem_cons_of_mem _ h
    rw [← hz] at hm ⊢
    obtain ⟨k, hk, ek⟩ := List.mem_map.mp hm
    obtain ⟨hk1, hk2⟩ := List.mem_filter.mp hk
    obtain ⟨i, hi⟩ := List.getElem?_of_mem hk1
    have hr := rng_at hi
    refine ⟨(k + 1).toNat, by rw [← ek]; omega, by omega, .inr ?_⟩
    rw [show (((k + 1).toNat : Nat) : Int) - 1 = k by omega]
    exact hk2
theorem gt0_take_last {α : Type} {d : α} {xs : List α} {m : Nat} (hm : m ≤ xs.length) (h0 : 0 < m) : gt0 d (xs.take m) (-1) = gt0 d xs ((m : Int) - 1) := by
  have e : ((m : Int) - 1) = ((m - 1 : Nat) : Int) := by omega
  rw [e, gt0_nat]
  unfold gt0 ixs
  rw [if_neg (by omega), List.length_take, Nat.min_eq_left hm, show ((-1 : Int) + (m : Int)).toNat = m - 1 by omega, List.getElem?_take_of_lt (by omega)]
end
section
def enoughL (p o0 many far : Int) : List (List Int) → Bool
  | [] => true
  | a :: t => if (!decide (a = []) && decide (many * (far * p - 1) ≤ o0 - (ordL a : Int))) = true then false else enoughL p o0 many (far * p) t
def enoughP (p : Int) (pw : List (List Int)) (many : Int) : Bool := enoughL p (ordL (gt0 [] pw 0)) many 1 (pw.drop 1)
end
section
/-! ### the sum of an equation by powers at a place -/
def tmO (far place : Int) (g : Int → Int) (at' c : Int) : Int := if at' ≤ place ∧ (place - at') % far = 0 then c * g ((place - at') / far) else 0
def innR (far place : Int) (g : Int → Int) : Int → List Int → Int
  | _, [] => 0
  | at', c :: t => tmO far place g at' c + innR far place g (at' + 1) t
def outO (p place : Int) (g : Int → Int) : Int → List (List Int) → Int
  | _, [] => 0
  | far, a :: t => innR far place g 0 a + outO p place g (far * p) t
def gOf (known : List Int) (i : Int) : Int := if 0 ≤ i ∧ i < known.length then gt0 (0 : Int) known i else 0
theorem tmO_eq {far place : Int} {known : List Int} {at' c : Int} (hf : 1 ≤ far) :
    (if ((decide (at' ≤ place)) && ((decide (((place - at') % far) = (0 : Int))) && (decide (((place - at') / far) < (known.length : Int))))) = true then c * gt0 (0 : Int) known ((place - at') / far) else 0) = tmO far place (gOf known) at' c := by
  unfold tmO gOf
  by_cases h1 : at' ≤ place
  · by_cases h2 : (place - at') % far = 0
    · have h0 : 0 ≤ (place - at') / far := Int.ediv_nonneg (by omega) (by omega)
      by_cases h3 : (place - at') / far < (known.length : Int)
      · rw [decide_eq_true h1, decide_eq_true h2, decide_eq_true h3, if_pos (by rfl), if_pos ⟨h1, h2⟩, if_pos ⟨h0, h3⟩]
      · rw [decide_eq_true h1, decide_eq_true h2, decide_eq_false h3, if_neg (by simp), if_pos ⟨h1, h2⟩, if_neg (fun z => h3 z.2), Int.mul_zero]
    · rw [decide_eq_false h2, if_neg (by simp), if_neg (fun z => h2 z.2)]
  · rw [decide_eq_false h1, if_neg (by simp), if_neg (fun z => h1 z.1)]
/-- terms that can't be nought are early -/
theorem ord_cons0 (t : List Int) : ordL (0 :: t) = ordL t + 1 := by
  unfold ordL
  rw [List.findIdx_cons]
  rfl
theorem ord_cons1 {c : Int} (t : List Int) (h : c ≠ 0) : ordL (c :: t) = 0 := by
  unfold ordL
  rw [List.findIdx_cons]
  simp [h]
theorem tmO_0 {far place at' : Int} {g : Int → Int} : tmO far place g at' 0 = 0 := by
  unfold tmO
  split <;> simp
/-- the later polynomials look at entries below n alone -/
theorem innR_late {far place n : Int} {g g' : Int → Int} (hf : 1 ≤ far) (hg : ∀ i, 0 ≤ i → i < n → g i = g' i) : ∀ (a : List Int) (at' : Int), (∀ i : Nat, a[i]? ≠ none → a[i]? ≠ some 0 → place - (at' + i) < n * far) → innR far place g at' a = innR far place g' at' a
  | [], _, _ => rfl
  | c :: t, at', h => by
    have ih := innR_late hf hg t (at' + 1) fun i h1 h2 => by
      have := h (i + 1) (by simpa using h1) (by simpa using h2)
      rw [show at' + 1 + (i : Int) = at' + ((i + 1 : Nat) : Int) by omega]
      exact this
    show tmO far place g at' c + _ = tmO far place g' at' c + _
    rw [ih]
    by_cases hc : c = 0
    · rw [hc, tmO_0, tmO_0]
    · congr 1
      unfold tmO
      by_cases h1 : at' ≤ place ∧ (place - at') % far = 0
      · rw [if_pos h1, if_pos h1]
        have h2 := h 0 (by simp) (by simpa using hc)
        have h0 : 0 ≤ (place - at') / far := Int.ediv_nonneg (by omega) (by omega)
        rw [hg _ h0 (Int.ediv_lt_of_lt_mul (by omega) (by simpa using h2))]
      · rw [if_neg h1, if_neg h1]
theorem ord_min {a : List Int} {i : Nat} (h1 : a[i]? ≠ none) (h2 : a[i]? ≠ some 0) : ordL a ≤ i := by
  apply Nat.le_of_not_lt
  intro hlt
  have h3 := List.not_of_lt_findIdx (p := fun x => !decide (x = 0)) hlt
  have hi : i < a.length := by
    apply Nat.lt_of_not_le
    intro z
    exact h1 (List.getElem?_eq_none z)
  rw [List.getElem?_eq_getElem hi] at h2
  exact h2 (by simpa using h3)
theorem outO_late {p place n o0 : Int} {g g' : Int → Int} (hp : 2 ≤ p) (hn : 0 ≤ n) (hg : ∀ i, 0 ≤ i → i < n → g i = g' i) (hpl : place ≤ n + o0) : ∀ (t : List (List Int)) (far : Int), 1 ≤ far → enoughL p o0 n far t = true → outO p place g (far * p) t = outO p place g' (far * p) t
  | [], _, _, _ => rfl
  | a :: t, far, hf, he => by
    have hd : 1 < far * p := Int.lt_of_lt_of_le (by omega) (Int.mul_le_mul hf hp (by omega) (by omega))
    have he2 : (if (!decide (a = []) && decide (n * (far * p - 1) ≤ o0 - (ordL a : Int))) = true then false else enoughL p o0 n (far * p) t) = true := he
    split at he2
    · cases he2
    · rename_i hc
      show innR (far * p) place g 0 a + outO p place g (far * p * p) t = innR (far * p) place g' 0 a + outO p place g' (far * p * p) t
      rw [outO_late hp hn hg hpl t (far * p) (by omega) he2]
      congr 1
      refine innR_late (by omega) hg a 0 fun i h1 h2 => ?_
      have h3 := ord_min h1 h2
      have hne : a ≠ [] := by rintro rfl; simp at h1
      rw [decide_eq_false hne, Bool.not_false, Bool.true_and, decide_eq_true_eq] at hc
      have e : n * (far * p - 1) = n * (far * p) - n := by rw [Int.mul_sub, Int.mul_one]
      omega
/-- the first polynomial at the place behind n -/
theorem innR_first {place n : Int} {g g' : Int → Int} (hg : ∀ i, 0 ≤ i → i < n → g i = g' i) (hn : 0 ≤ n) : ∀ (a : List Int) (at' : Int), nzP a → place ≤ n + (at' + ordL a) →
    innR 1 place g' at' a = innR 1 place g at' a + (if place = n + (at' + ordL a) then gt0 (0 : Int) a (ordL a) * (g' n - g n) else 0)
  | [], _, h, _ => by obtain ⟨_, h, _⟩ := h; cases h
  | c :: t, at', h, hpl => by
    by_cases hc : c = 0
    · subst hc
      rw [ord_cons0] at hpl ⊢
      have ht : nzP t := by
        obtain ⟨x, h1, h2⟩ := h
        rcases List.mem_cons.mp h1 with h1 | h1
        · exact absurd h1 h2
        · exact ⟨x, h1, h2⟩
      have ih := innR_first (place := place) hg hn t (at' + 1) ht (by omega)
      show tmO 1 place g' at' 0 + _ = tmO 1 place g at' 0 + _ + _
      rw [tmO_0, tmO_0, Int.zero_add, Int.zero_add, ih]
      have e1 : gt0 (0 : Int) (0 :: t) ((ordL t + 1 : Nat) : Int) = gt0 (0 : Int) t (ordL t : Int) := by rw [gt0_nat, gt0_nat, List.getElem?_cons_succ]
      rw [e1, show at' + 1 + (ordL t : Int) = at' + ((ordL t + 1 : Nat) : Int) by omega]
    · rw [ord_cons1 t hc] at hpl ⊢
      have e0 : gt0 (0 : Int) (c :: t) ((0 : Nat) : Int) = c := by rw [gt0_nat]; rfl
      rw [e0]
      have ht : innR 1 place g (at' + 1) t = innR 1 place g' (at' + 1) t := innR_late (n := n) (by omega) hg t (at' + 1) fun i _ _ => by omega
      show tmO 1 place g' at' c + innR 1 place g' (at' + 1) t = tmO 1 place g at' c + innR 1 place g (at' + 1) t + _
      rw [ht]
      have hm : ∀ g : Int → Int, tmO 1 place g at' c = if at' ≤ place then c * g (place - at') else 0 := fun g => by
        unfold tmO
        by_cases h1 : at' ≤ place
        · rw [if_pos ⟨h1, by omega⟩, if_pos h1, Int.ediv_one]
        · rw [if_neg (fun z => h1 z.1), if_neg h1]
      rw [hm, hm]
      by_cases h1 : at' ≤ place
      · rw [if_pos h1, if_pos h1]
        by_cases h2 : place = n + (at' + ((0 : Nat) : Int))
        · rw [if_pos h2, show place - at' = n by omega, Int.mul_sub]
          omega
        · rw [if_neg h2, hg (place - at') (by omega) (by omega)]
          omega
      · rw [if_neg h1, if_neg h1, if_neg (by omega)]
        omega
/-! ### the folds -/
def tI (far place : Int) (known : List Int) : Int → Int × Int → Int := fun s2 x2 => (if ((decide (x2.1 ≤ place)) && ((decide (((place - x2.1) % far) = (0 : Int))) && (decide (((place - x2.1) / far) < (known.length : Int))))) = true then (s2 + (x2.2 * (gt0 (0 : Int) known ((place - x2.1) / far)))) else s2)
theorem tI_eq {far place : Int} {known : List Int} (hf : 1 ≤ far) (s : Int) (x : Int × Int) : tI far place known s x = s + tmO far place (gOf known) x.1 x.2 := by
  rw [← tmO_eq hf]
  unfold tI
  split <;> simp
theorem foldTm {far place : Int} {known : List Int} (hf : 1 ≤ far) : ∀ (a : List Int) (n : Nat) (s : Int), List.foldl (tI far place known) s ((a.zipIdx n).map fun p => ((p.2 : Int), p.1)) = s + innR far place (gOf known) n a
  | [], n, s => by simp [innR]
  | c :: t, n, s => by
    rw [List.zipIdx_cons, List.map_cons, List.foldl_cons, foldTm hf t (n + 1), tI_eq hf]
    show s + tmO far place (gOf known) (n : Int) c + innR far place (gOf known) ((n + 1 : Nat) : Int) t = s + (tmO far place (gOf known) (n : Int) c + innR far place (gOf known) ((n : Int) + 1) t)
    rw [show ((n + 1 : Nat) : Int) = (n : Int) + 1 by omega]
    omega
def tO (p place : Int) (known : List Int) : Int × Int → List Int → Int × Int := fun s1 x1 => ((List.foldl (tI s1.2 place known) s1.1 (enm x1)), (s1.2 * p))
theorem foldOut {p place : Int} {known : List Int} (hp : 2 ≤ p) : ∀ (pw : List (List Int)) (f far : Int), 1 ≤ far → (List.foldl (tO p place known) (f, far) pw).1 = f + outO p place (gOf known) far pw
  | [], f, far, _ => by simp [outO]
  | a :: t, f, far, hf => by
    have hd : 1 < far * p := Int.lt_of_lt_of_le (by omega) (Int.mul_le_mul hf hp (by omega) (by omega))
    have e : tO p place known (f, far) a = (f + innR far place (gOf known) 0 a, far * p) := by
      unfold tO enm
      rw [foldTm hf a 0]
      rfl
    rw [List.foldl_cons, e, foldOut hp t _ _ (by omega)]
    show _ = f + (innR far place (gOf known) 0 a + outO p place (gOf known) (far * p) t)
    omega
def sumAt (p : Int) (pw : List (List Int)) (known : List Int) (place : Int) : Int := outO p place (gOf known) 1 pw % p
theorem sum_eq {p place : Int} {pw : List (List Int)} {known : List Int} (hp : 2 ≤ p) : (List.foldl (tO p place known) (0, 1) pw).1 % p = sumAt p pw known place := by
  rw [foldOut hp pw 0 1 (by omega), Int.zero_add]
  rfl
/-! the law's own sum -/
theorem innR_app {far place : Int} {g : Int → Int} : ∀ (a b : List Int) (at' : Int), innR far place g at' (a ++ b) = innR far place g at' a + innR far place g (at' + a.length) b
  | [], b, at' => by simp [innR]
  | c :: t, b, at' => by
    show tmO far place g at' c + innR far place g (at' + 1) (t ++ b) = tmO far place g at' c + innR far place g (at' + 1) t + _
    rw [innR_app t b (at' + 1), List.length_cons, show at' + 1 + (t.length : Int) = at' + ((t.length + 1 : Nat) : Int) by omega]
    omega
theorem innR_far {far place : Int} {g : Int → Int} : ∀ (a : List Int) (at' : Int), place < at' → innR far place g at' a = 0
  | [], _, _ => rfl
  | c :: t, at', h => by
    show tmO far place g at' c + innR far place g (at' + 1) t = 0
    rw [innR_far t (at' + 1) (by omega)]
    unfold tmO
    rw [if_neg (by omega)]
    rfl
def tL (far place : Int) (a known : List Int) : Int → Int → Int := fun s2 x2 => (if ((decide (((place - x2) % far) = (0 : Int))) && (decide (((place - x2) / far) < (known.length : Int)))) = true then (s2 + ((gt0 (0 : Int) a x2) * (gt0 (0 : Int) known ((place - x2) / far)))) else s2)
theorem rng_snoc (n : Nat) : rng 0 ((n + 1 : Nat) : Int) = rng 0 (n : Int) ++ [(n : Int)] := by
  unfold rng
  rw [show (((n + 1 : Nat) : Int) - 0).toNat = n + 1 by omega, show ((n : Int) - 0).toNat = n by omega, List.range_succ, List.map_append]
  simp
theorem foldL {far place : Int} {a known : List Int} (hf : 1 ≤ far) : ∀ (k : Nat) (s : Int), k ≤ a.length → (k : Int) ≤ place + 1 → List.foldl (tL far place a known) s (rng 0 (k : Int)) = s + innR far place (gOf known) 0 (a.take k)
  | 0, s, _, _ => by simp [rng, innR]
  | k + 1, s, h1, h2 => by
    rw [rng_snoc, List.foldl_append, foldL hf k s (by omega) (by omega), List.foldl_cons, List.foldl_nil]
    have hk : k < a.length := by omega
    rw [List.take_add_one, List.getElem?_eq_getElem hk, Option.toList_some, innR_app, List.length_take, Nat.min_eq_left (by omega)]
    have e : tL far place a known (s + innR far place (gOf known) 0 (a.take k)) (k : Int) = s + innR far place (gOf known) 0 (a.take k) + tmO far place (gOf known) (k : Int) a[k] := by
      rw [← tmO_eq hf, decide_eq_true (show (k : Int) ≤ place by omega), Bool.true_and]
      unfold tL
      rw [gt0_nat, List.getElem?_eq_getElem hk]
      show (if _ then _ + a[k] * _ else _) = _ + (if _ then a[k] * _ else 0)
      split <;> simp
    rw [e]
    show _ = s + (_ + (tmO far place (gOf known) (0 + (k : Int)) a[k] + 0))
    rw [Int.zero_add]
    omega
def tLO (p place : Int) (known : List Int) : Int × Int → List Int → Int × Int := fun s1 x1 => ((List.foldl (tL s1.2 place x1 known) s1.1 (rng 0 (mn2 (x1.length : Int) (place + 1)))), (s1.2 * p))
theorem foldLO {p place : Int} {known : List Int} (hp : 2 ≤ p) (h0 : 0 ≤ place) : ∀ (pw : List (List Int)) (f far : Int), 1 ≤ far → (List.foldl (tLO p place known) (f, far) pw).1 = f + outO p place (gOf known) far pw
  | [], f, far, _ => by simp [outO]
  | a :: t, f, far, hf => by
    have hd : 1 < far * p := Int.lt_of_lt_of_le (by omega) (Int.mul_le_mul hf hp (by omega) (by omega))
    have e : tLO p place known (f, far) a = (f + innR far place (gOf known) 0 a, far * p) := by
      unfold tLO
      obtain ⟨m, hm, h1, h2, h3⟩ : ∃ m : Nat, mn2 (a.length : Int) (place + 1) = m ∧ m ≤ a.length ∧ (m : Int) ≤ place + 1 ∧ (m = a.length ∨ (m : Int) = place + 1) := by
        refine ⟨(mn2 (a.length : Int) (place + 1)).toNat, ?_⟩
        unfold mn2
        split <;> omega
      rw [show (f, far).2 = far from rfl, show (f, far).1 = f from rfl, hm, foldL hf m f h1 h2]
      have e2 := innR_app (far := far) (place := place) (g := gOf known) (a.take m) (a.drop m) 0
      rw [List.take_append_drop, List.length_take, Nat.min_eq_left h1] at e2
      have e3 : innR far place (gOf known) (0 + (m : Int)) (a.drop m) = 0 := by
        rcases h3 with h3 | h3
        · rw [List.drop_of_length_le (by omega)]
          rfl
        · exact innR_far _ _ (by omega)
      rw [e2, e3, Int.add_zero]
    rw [List.foldl_cons, e, foldLO hp h0 t _ _ (by omega)]
    show _ = f + (innR far place (gOf known) 0 a + outO p place (gOf known) (far * p) t)
    omega
theorem sumL_eq {p place : Int} {pw : List (List Int)} {known : List Int} (hp : 2 ≤ p) (h0 : 0 ≤ place) : (List.foldl (tLO p place known) (0, 1) pw).1 % p = sumAt p pw known place := by
  rw [foldLO hp h0 pw 0 1 (by omega), Int.zero_add]
  rfl
end
section
variable {P : Program} {w : World} {K : PySem.W.Frag} {mg : Str → Option Value} {base : Heap}
def sp_order_of (K : PySem.W.Frag) : Sp := fun vs H Q _ => ∃ (poly : (List Int)) (v_poly : V), (vs = [v_poly]) ∧ ((rT K rI) H poly v_poly) ∧ (nzP poly) ∧ (poly.length ≤ 1000) ∧ (∀ H', Ex H H' → Q (.int (ordL poly : Int)) H')
section
variable {K : PySem.W.Frag}
theorem gv_order_of {poly : (List Int)} (h0 : nzP poly) (h1 : poly.length ≤ 1000) : Gv (sp_order_of K) (Ac (rT K rI) poly A0) rI (ordL poly : Int) := by
  intro vs H1 hp Q E k
  obtain ⟨v0, w0, rfl, f0, hp⟩ := hp
  cases hp
  exact ⟨_, v0, rfl, f0, h0, h1, fun H2 e => k _ H2 e rfl⟩
end
theorem ok_order_of {f : Addr} {fd : FuncData} (F : Fun K "order_of" "order_of" s_order_of f fd) (n_enumerate : mg "enumerate" = none) : FnOk P w K mg base CX0 1 f fd ["poly"] (sp_order_of K) := by
  refine F.ok sc_order_of (fun vs H Q E h => ?_) (fun cdv A outer s H vs Q E hr h => ?_)
  · obtain ⟨poly, v_poly, rfl, _⟩ := h; rfl
  · obtain ⟨poly, v_poly, rfl, f_poly, hpre0, hpre1, q⟩ := h
    refine ⟨_, (pss_one (ps_ret (pe_ix (ix_listK K) (pe_lc (own := [("place", 1), ("number", 2)]) (by rfl) sc_order_of.nd (pi_enumTK K (by rfl) n_enumerate (pa_cons (pv 0) pa_nil)) (blkOk_by (own := [("place", 1), ("number", 2)]) (N := ["poly", "place", "number"]) (sc := defScope s_order_of) (by decide +kernel)) (fun _ _ _ _ _ => (pg_tupK K 2 rfl (pgs_cons (pg_name (i := 1) sc_order_of.nd rfl (Or.inl rfl)) (pgs_cons (pg_name (i := 2) sc_order_of.nd rfl (Or.inl rfl)) pgs_nil)))) (fun _ _ _ _ _ => (pts_one (pt_cmpR op_ne (pv 2) pe_int (nomark _)))) (fun _ _ _ _ _ => (pv 1))) pe_int (fun _ _ => rfl)))), ?_⟩
    have F0 : Ex H H := Ex.refl H
    refine s_ret (R := rI) (er_ixL0 (0 : Int) (El.er (K := K) (el_lcETIc (K := K) (er_var rfl f_poly) (by omega) (fun _ _ => rfl) (fun x1 H1 e2 hx3 => (et_t (er_neI er_iv er_int))) (fun x1 H1 e2 hx3 => fun hc4 => er_iv))) er_int (by omega) (Int.ofNat_lt.mpr (ordE hpre0).2)) fun v H' e r => ?_
    cases r
    have z := q _ (F0.trans e)
    rw [← (ordE hpre0).1] at z; exact z

def st_settled_known_1 (p : Int) (powers : (List (List Int))) : (Int × Int) → (List Int) → (Int × Int) := fun s1 x1 => ((if (!decide (x1 = ([] : (List Int)))) = true then (mx2 s1.1 (((1 : Int) + ((((ordL (gt0 [] powers (0 : Int)) : Int)) - ((ordL x1 : Int))) / ((s1.2 * p) - (1 : Int)))))) else s1.1), (s1.2 * p))
def m_settled_known (p : Int) (powers : (List (List Int))) : Int := (List.foldl (st_settled_known_1 p powers) ((0 : Int), (1 : Int)) ((cutL powers (some ((1 : Int))) none))).1
def sp_settled_known (K : PySem.W.Frag) : Sp := fun vs H Q _ => ∃ (p : Int) (powers : (List (List Int))) (v_powers : V), (vs = [.int p, v_powers]) ∧ ((rT K (rT K rI)) H powers v_powers) ∧ (2 ≤ p ∧ p ≤ 5) ∧ (PwOk powers) ∧ (∀ H', Ex H H' → Q (.int (m_settled_known p powers)) H')
section
variable {K : PySem.W.Frag}
theorem gv_settled_known {p : Int} {powers : (List (List Int))} (h0 : 2 ≤ p ∧ p ≤ 5) (h1 : PwOk powers) : Gv (sp_settled_known K) (Ac rI p (Ac (rT K (rT K rI)) powers A0)) rI (m_settled_known p powers) := by
  intro vs H1 hp Q E k
  obtain ⟨v0, w0, rfl, f0, hp⟩ := hp
  cases f0
  obtain ⟨v1, w1, rfl, f1, hp⟩ := hp
  cases hp
  exact ⟨_, _, v1, rfl, f1, h0, h1, fun H2 e => k _ H2 e rfl⟩
end
theorem ok_settled_known {f : Addr} {fd : FuncData} (F : Fun K "settled_known" "settled_known" s_settled_known f fd) (n_max : mg "max" = none) (D_order_of : Df P w K mg base CX0 1 "order_of" ["poly"] (sp_order_of K)) : FnOk P w K mg base CX0 2 f fd ["p", "powers"] (sp_settled_known K) := by
  refine F.ok sc_settled_known (fun vs H Q E h => ?_) (fun cdv A outer s H vs Q E hr h => ?_)
  · obtain ⟨p, powers, v_powers, rfl, _⟩ := h; rfl
  · obtain ⟨p, powers, v_powers, rfl, f_powers, hpre0, hpre1, q⟩ := h
    refine ⟨_, (pss_cons (ps_set (i := 2) sc_settled_known.nd rfl (Or.inl rfl) pe_int)
 (pss_cons (ps_set (i := 3) sc_settled_known.nd rfl (Or.inl rfl) pe_int)
 (pss_cons (ps_for PassesOwn.never rfl (pi_tupK K (pe_slice (sl_tupAK K) (pv 1) (po_some pe_int) po_none)) (pg_name (i := 4) sc_settled_known.nd rfl (Or.inl rfl))
 (pss_cons (ps_set (i := 3) sc_settled_known.nd rfl (Or.inl rfl) (pe_op op_mul (pv 3) (pv 0)))
 (Evl.pss_cut (ps_if (pt_cmpR (op_neDK K hr.units) (pv 4) (pe_tup pa_nil) (nomark _)) (pss_one (ps_set (i := 2) sc_settled_known.nd rfl (Or.inl rfl) (pe_callB (call_max2 rfl) (by rfl) n_max (by decide +kernel) (pa_cons (pv 2) (pa_cons (pe_op op_add pe_int (pe_op op_fdiv (pe_op op_sub (pe_call D_order_of.ok (hr.mono (by omega)) (by rfl) D_order_of.g D_order_of.kp D_order_of.b .nil pass0 (pa_cons (pe_ix (ix_tupK K) (pv 1) pe_int (fun _ _ => rfl)) pa_nil)) (pe_call D_order_of.ok (hr.mono (by omega)) (by rfl) D_order_of.g D_order_of.kp D_order_of.b .nil pass0 (pa_cons (pv 4) pa_nil))) (pe_op op_sub (pv 3) pe_int))) pa_nil))))) pss_nil)
 pss_nil)))
 (pss_one (ps_ret (pv 2)))))), ?_⟩
    have F0 : Ex H H := Ex.refl H
    have hl := hpre1.1
    have hF := hpre1.first
    refine q_asgI er_int fun H1 e2 => ?_
    replace f_powers := Me.ex e2 f_powers
    replace F0 := F0.trans e2
    refine q_asgI er_int fun H3 e4 => ?_
    replace f_powers := Me.ex e4 f_powers
    replace F0 := F0.trans e4
    refine q_forT (er_slT (er_var rfl f_powers) (eo1 er_int) eo0) fun v7 H5 e6 r8 => ?_
    replace f_powers := Me.ex e6 f_powers
    replace F0 := F0.trans e6
    have k9 : Kt K _ _ := Kt.refl H5
    refine fq_T r8 (fun i σ' H' => ∃ (s1 : Int × Int) (j10 : Option V), s1 = List.foldl (st_settled_known_1 p powers) ((0 : Int), (1 : Int)) (List.take i ((cutL powers (some ((1 : Int))) none))) ∧ s1.2 = p ^ i ∧ σ' = [some (.int p), some v_powers, some (.int s1.1), some (.int s1.2), j10] ∧ Ex H H' ∧ Kt K H5 H') ?_ ?_ ?_ ?_
    · exact ⟨((0 : Int), (1 : Int)), _, rfl, (by simp), rfl, F0, k9⟩
    · intro i σ' H' hi h; obtain ⟨s1, j10, hs1, hp1_0, rfl, F0, k9⟩ := h; exact Mkt.kt k9 r8
    ·
      rintro i x1 v12 _ H11 hi hx1 ⟨s1, j10, hs1, hp1_0, rfl, F0, k9⟩ r13
      replace f_powers := Mkt.kt k9 f_powers
      have hi3 : i < 3 := by have h4 := hpre1.2.1; rw [cutL_one] at hi; simp only [List.length_drop] at hi; omega
      have hfar := pw_small hpre0 hi3
      rw [← hp1_0] at hfar
      have hm := hpre1.2.2.1 x1 (mem_cutL hx1)
      refine q_asgI (er_op er_iv er_iv (cmul_of (by first | omega | (left; omega) | (right; omega)))) fun H14 e15 => ?_
      replace f_powers := Me.ex e15 f_powers
      replace r13 := Me.ex e15 r13
      replace F0 := F0.trans e15
      replace k9 := k9.trans (Kt.ex e15)
      have k18 : Kt K _ _ := Kt.refl H14
      refine ⟨fun σ' H' => σ' = [some (.int p), some v_powers, some (.int ((if (!decide (x1 = ([] : (List Int)))) = true then (mx2 s1.1 (((1 : Int) + ((((ordL (gt0 [] powers (0 : Int)) : Int)) - ((ordL x1 : Int))) / ((s1.2 * p) - (1 : Int)))))) else s1.1))), some (.int ((s1.2 * p))), some v12] ∧ Ex H H' ∧ Kt K H14 H', ?_, ?_⟩
      · refine s_if (et_t (er_neD (K := K) (er_var rfl r13) (er_tup (R := rI) eas0 (by decide)))) (fun hb_1 H16 e17 => ?_) (fun hb_1 H16 e17 => ?_)
        ·
          have hb_1' := hb_1
          try simp only [Bool.and_eq_true, Bool.or_eq_true, Bool.not_eq_true', Bool.and_eq_false_iff, Bool.or_eq_false_iff, Bool.not_eq_false', decide_eq_true_eq, decide_eq_false_iff_not] at hb_1'
          replace f_powers := Me.ex e17 f_powers
          replace r13 := Me.ex e17 r13
          replace F0 := F0.trans e17
          replace k9 := k9.trans (Kt.ex e17)
          replace k18 := k18.trans (Kt.ex e17)
          refine s_asgI (er_mx2 er_iv (er_op0 er_int (er_op (er_op0 (er_call (eac (er_ixT0 [] (er_var rfl f_powers) er_int (by first | omega | assumption | (simp; omega) | (simp only [List.length_append, List.length_cons, List.length_nil, List.length_map, List.length_range, List.length_set, rng_len, enm_len, repL_len] at *; omega)) (by first | omega | assumption | (simp; omega) | (simp only [List.length_append, List.length_cons, List.length_nil, List.length_map, List.length_range, List.length_set, rng_len, enm_len, repL_len] at *; omega))) ea0) (gv_order_of hF.1 hF.2)) (er_call (eac (er_var rfl r13) ea0) (gv_order_of (hm hb_1').1 (hm hb_1').2))) (er_op0 er_iv er_int) ⟨by omega, by omega⟩))) fun H19 e20 => ?_
          replace f_powers := Me.ex e20 f_powers
          replace r13 := Me.ex e20 r13
          replace F0 := F0.trans e20
          replace k9 := k9.trans (Kt.ex e20)
          replace k18 := k18.trans (Kt.ex e20)
          refine ⟨(by (try rw [hb_1]); rfl), F0, k18⟩
        ·
          have hb_1' := hb_1
          try simp only [Bool.and_eq_true, Bool.or_eq_true, Bool.not_eq_true', Bool.and_eq_false_iff, Bool.or_eq_false_iff, Bool.not_eq_false', decide_eq_true_eq, decide_eq_false_iff_not] at hb_1'
          replace f_powers := Me.ex e17 f_powers
          replace r13 := Me.ex e17 r13
          replace F0 := F0.trans e17
          replace k9 := k9.trans (Kt.ex e17)
          replace k18 := k18.trans (Kt.ex e17)
          refine ⟨(by (try rw [hb_1]); rfl), F0, k18⟩
      rintro _ H21 ⟨rfl, F0, kt22⟩
      replace k9 := k9.trans kt22
      replace f_powers := Mkt.kt kt22 f_powers
      replace r13 := Mkt.kt kt22 r13
      exact ⟨st_settled_known_1 p powers s1 x1, _, fold_snoc hs1 hx1, (by show s1.2 * p = p ^ (i + 1); rw [hp1_0, Int.pow_succ]), rfl, F0, k9⟩
    rintro _ H23 ⟨s1, j10, hs1, hp1_0, rfl, F0, k9⟩
    rw [take_all] at hs1; subst hs1
    replace f_powers := Mkt.kt k9 f_powers
    refine s_ret (R := rI) er_iv fun v H' e r => ?_
    cases r
    exact q _ (F0.trans e)

end
section
/-! ### what settles -/
theorem st1 {p found far : Int} {pw : List (List Int)} {a : List Int} : (st_settled_known_1 p pw (found, far) a).1 = if a = [] then found else mx2 found (1 + ((ordL (gt0 [] pw 0) : Int) - (ordL a : Int)) / (far * p - 1)) := by
  show (if (!decide (a = [])) = true then mx2 found (1 + ((ordL (gt0 [] pw 0) : Int) - (ordL a : Int)) / (far * p - 1)) else found) = _
  by_cases h : a = [] <;> simp [h]
theorem fold_up {p : Int} {pw : List (List Int)} (hp : 2 ≤ p) : ∀ (t : List (List Int)) (found far : Int), 1 ≤ far → found ≤ (List.foldl (st_settled_known_1 p pw) (found, far) t).1 ∧ ∀ N, (List.foldl (st_settled_known_1 p pw) (found, far) t).1 ≤ N → enoughL p (ordL (gt0 [] pw 0)) N far t = true
  | [], found, far, hf => ⟨Int.le_refl _, fun _ _ => rfl⟩
  | a :: t, found, far, hf => by
    have hd : 1 < far * p := Int.lt_of_lt_of_le (by omega) (Int.mul_le_mul hf hp (by omega) (by omega))
    obtain ⟨h1, h2⟩ := fold_up hp t (st_settled_known_1 p pw (found, far) a).1 (far * p) (by omega)
    rw [List.foldl_cons]
    have e2 : (st_settled_known_1 p pw (found, far) a) = ((st_settled_known_1 p pw (found, far) a).1, far * p) := rfl
    rw [e2]
    have h0 : found ≤ (st_settled_known_1 p pw (found, far) a).1 := by
      rw [st1]
      split
      · exact Int.le_refl _
      · unfold mx2; split <;> omega
    refine ⟨Int.le_trans h0 h1, fun N hN => ?_⟩
    have h3 := h2 N hN
    show (if _ then _ else _) = true
    split
    · rename_i hc
      rw [Bool.and_eq_true, decide_eq_true_eq] at hc
      have h4 : (st_settled_known_1 p pw (found, far) a).1 = mx2 found (1 + ((ordL (gt0 [] pw 0) : Int) - (ordL a : Int)) / (far * p - 1)) := by
        rw [st1, if_neg (by simpa using hc.1)]
      have h5 : 1 + ((ordL (gt0 [] pw 0) : Int) - (ordL a : Int)) / (far * p - 1) ≤ N := by
        have h6 : 1 + ((ordL (gt0 [] pw 0) : Int) - (ordL a : Int)) / (far * p - 1) ≤ (st_settled_known_1 p pw (found, far) a).1 := by
          rw [h4]; unfold mx2; split <;> omega
        omega
      have h7 := Int.lt_ediv_add_one_mul_self ((ordL (gt0 [] pw 0) : Int) - (ordL a : Int)) (show 0 < far * p - 1 by omega)
      have h8 : (((ordL (gt0 [] pw 0) : Int) - (ordL a : Int)) / (far * p - 1) + 1) * (far * p - 1) ≤ N * (far * p - 1) := Int.mul_le_mul_of_nonneg_right (by omega) (by omega)
      have := hc.2
      omega
    · exact h3
theorem fold_lo {p : Int} {pw : List (List Int)} (hp : 2 ≤ p) : ∀ (t : List (List Int)) (found far M : Int), 1 ≤ far → found ≤ M → M < (List.foldl (st_settled_known_1 p pw) (found, far) t).1 → enoughL p (ordL (gt0 [] pw 0)) M far t = false
  | [], found, far, M, hf, h1, h2 => absurd h2 (by show ¬ M < found; omega)
  | a :: t, found, far, M, hf, h1, h2 => by
    have hd : 1 < far * p := Int.lt_of_lt_of_le (by omega) (Int.mul_le_mul hf hp (by omega) (by omega))
    rw [List.foldl_cons] at h2
    have e2 : (st_settled_known_1 p pw (found, far) a) = ((st_settled_known_1 p pw (found, far) a).1, far * p) := rfl
    rw [e2] at h2
    show (if _ then _ else _) = false
    split
    · rfl
    · rename_i hc
      refine fold_lo hp t _ _ M (by omega) ?_ h2
      rw [st1]
      split
      · exact h1
      · rename_i ha
        rw [decide_eq_false ha, Bool.not_false, Bool.true_and, decide_eq_true_eq] at hc
        have h7 := Int.ediv_mul_le ((ordL (gt0 [] pw 0) : Int) - (ordL a : Int)) (show far * p - 1 ≠ 0 by omega)
        have h8 : ¬ M ≤ ((ordL (gt0 [] pw 0) : Int) - (ordL a : Int)) / (far * p - 1) := fun h => hc (Int.le_trans (Int.mul_le_mul_of_nonneg_right h (by omega)) h7)
        unfold mx2
        split <;> omega
theorem fold_hi {p : Int} {pw : List (List Int)} (hp : 2 ≤ p) (ho : (ordL (gt0 [] pw 0) : Int) ≤ 1000) : ∀ (t : List (List Int)) (found far : Int), 1 ≤ far → found ≤ 1001 → (List.foldl (st_settled_known_1 p pw) (found, far) t).1 ≤ 1001
  | [], found, far, hf, h => h
  | a :: t, found, far, hf, h => by
    have hd : 1 < far * p := Int.lt_of_lt_of_le (by omega) (Int.mul_le_mul hf hp (by omega) (by omega))
    rw [List.foldl_cons]
    have e2 : (st_settled_known_1 p pw (found, far) a) = ((st_settled_known_1 p pw (found, far) a).1, far * p) := rfl
    rw [e2]
    refine fold_hi hp ho t _ _ (by omega) ?_
    rw [st1]
    split
    · exact h
    · have h1 : ((ordL (gt0 [] pw 0) : Int) - (ordL a : Int)) / (far * p - 1) < 1001 := Int.ediv_lt_of_lt_mul (by omega) (by omega)
      unfold mx2
      split <;> omega
theorem settled_law {p : Int} {pw : List (List Int)} (hp : 2 ≤ p ∧ p ≤ 5) (h : PwOk pw) : 0 ≤ m_settled_known p pw ∧ m_settled_known p pw ≤ 1001 ∧ -1 ≤ m_settled_known p pw - 1 ∧
    (!enoughP p pw (m_settled_known p pw) || (decide (0 < m_settled_known p pw) && enoughP p pw (m_settled_known p pw - 1))) = false := by
  have hm : m_settled_known p pw = (List.foldl (st_settled_known_1 p pw) (0, 1) (pw.drop 1)).1 := by unfold m_settled_known; rw [cutL_one]
  obtain ⟨h1, h2⟩ := fold_up (pw := pw) hp.1 (pw.drop 1) 0 1 (by omega)
  have ho : (ordL (gt0 [] pw 0) : Int) ≤ 1000 := by
    have := ord_lt h.first.1
    have := h.first.2
    omega
  have h3 := fold_hi hp.1 ho (pw.drop 1) 0 1 (by omega) (by omega)
  rw [← hm] at h1 h2 h3
  refine ⟨h1, h3, by omega, ?_⟩
  have h4 : enoughP p pw (m_settled_known p pw) = true := h2 _ (Int.le_refl _)
  rw [h4, Bool.not_true, Bool.false_or]
  by_cases hz : 0 < m_settled_known p pw
  · have h5 : enoughP p pw (m_settled_known p pw - 1) = false := fold_lo hp.1 (pw.drop 1) 0 1 _ (by omega) (by omega) (by rw [← hm]; omega)
    rw [h5, Bool.and_false]
  · rw [decide_eq_false hz, Bool.false_and]
end
section
/-! ### the row that follows -/
def bk (p a : Int) : Int := gt0 (0 : Int) (((rng 0 p).filter fun x => decide (a * x % p = 1)).map fun x => x) 0
theorem bk_ok {p a : Int} (hp : Pr p) (ha : 0 < a ∧ a < p) : 0 < (((rng 0 p).filter fun x => decide (a * x % p = 1)).map fun x => x).length ∧ 0 ≤ bk p a ∧ bk p a < p ∧ a * bk p a % p = 1 := by
  rcases hp with rfl | rfl | rfl
  · have : a = 1 := by omega
    subst this; decide
  · have : a = 1 ∨ a = 2 := by omega
    rcases this with rfl | rfl <;> decide
  · have : a = 1 ∨ a = 2 ∨ a = 3 ∨ a = 4 := by omega
    rcases this with rfl | rfl | rfl | rfl <;> decide
theorem choose0 {p a r : Int} (hp : Pr p) (ha : 0 < a ∧ a < p) (hr : 0 ≤ r ∧ r < p) : (((rng 0 p).filter fun x => decide ((r + a * x) % p = 0)).map fun x => x).head? = some (-bk p a * r % p) ∧ (r + a * (-bk p a * r % p)) % p = 0 := by
  rcases hp with rfl | rfl | rfl
  · have h1 : a = 1 := by omega
    have h2 : r = 0 ∨ r = 1 := by omega
    subst h1
    rcases h2 with rfl | rfl <;> decide
  · have h1 : a = 1 ∨ a = 2 := by omega
    have h2 : r = 0 ∨ r = 1 ∨ r = 2 := by omega
    rcases h1 with rfl | rfl <;> rcases h2 with rfl | rfl | rfl <;> decide
  · have h1 : a = 1 ∨ a = 2 ∨ a = 3 ∨ a = 4 := by omega
    have h2 : r = 0 ∨ r = 1 ∨ r = 2 ∨ r = 3 ∨ r = 4 := by omega
    rcases h1 with rfl | rfl | rfl | rfl <;> rcases h2 with rfl | rfl | rfl | rfl | rfl <;> decide
theorem emod_shift {p s t : Int} : (s + t) % p = (s % p + t) % p := by rw [Int.emod_add_emod]
/-- an equation by powers that is whole -/
structure PwP (p : Int) (pw : List (List Int)) : Prop where
  pr : Pr p
  ok : PwOk pw
  lim : ∀ a ∈ pw, ∀ c ∈ a, 0 ≤ c ∧ c < p
def a0 (pw : List (List Int)) : List Int := gt0 [] pw 0
def ld (pw : List (List Int)) : Nat := ordL (a0 pw)
def lc (pw : List (List Int)) : Int := gt0 (0 : Int) (a0 pw) (ld pw : Int)
theorem PwP.mem0 {p : Int} {pw : List (List Int)} (h : PwP p pw) : a0 pw ∈ pw := List.mem_of_getElem? (gt0_some (d := ([] : List Int)) (i := 0) (by omega) (by have := h.ok.1; omega))
theorem PwP.lc_ok {p : Int} {pw : List (List Int)} (h : PwP p pw) : 0 < lc pw ∧ lc pw < p := by
  have hlt : ordL (a0 pw) < (a0 pw).length := ord_lt h.ok.first.1
  have e : lc pw = (a0 pw)[ordL (a0 pw)]'hlt := by
    unfold lc ld
    rw [gt0_nat, List.getElem?_eq_getElem hlt]
    rfl
  have h1 := h.lim _ h.mem0 _ (List.getElem_mem hlt)
  have h2 := List.findIdx_getElem (p := fun x => !decide (x = 0)) (w := hlt)
  rw [e]
  have h3 : (a0 pw)[ordL (a0 pw)]'hlt ≠ 0 := of_decide_eq_false ((Bool.not_eq_true' _).mp h2)
  omega
theorem PwP.split {p : Int} {pw : List (List Int)} (h : PwP p pw) : pw = a0 pw :: pw.drop 1 := by
  cases pw with
  | nil => have := h.ok.1; simp at this
  | cons a t => rfl
/-- the sum at a place up to n + the lead, by two rows that agree below n -/
theorem out_at {p place n : Int} {pw : List (List Int)} {g g' : Int → Int} (h : PwP p pw) (he : enoughP p pw n = true) (hn : 0 ≤ n) (hg : ∀ i, 0 ≤ i → i < n → g i = g' i) (hpl : place ≤ n + ld pw) :
    outO p place g' 1 pw = outO p place g 1 pw + (if place = n + ld pw then lc pw * (g' n - g n) else 0) := by
  have hp := h.pr.le
  have e := h.split
  have e1 : ∀ g, outO p place g 1 pw = innR 1 place g 0 (a0 pw) + outO p place g (1 * p) (pw.drop 1) := fun g => by
    rw [e]
    rfl
  rw [e1, e1, outO_late hp.1 hn hg hpl (pw.drop 1) 1 (by omega) he, innR_first hg hn (a0 pw) 0 h.ok.first.1 (by show place ≤ n + (0 + (ld pw : Int)); omega)]
  rw [Int.zero_add]
  show _ + (if place = n + (ld pw : Int) then lc pw * (g' n - g n) else 0) + _ = _
  omega
theorem gOf_app (l m : List Int) {i : Int} (h0 : 0 ≤ i) (h : i < l.length) : gOf (l ++ m) i = gOf l i := by
  unfold gOf
  rw [if_pos ⟨h0, by rw [List.length_append]; omega⟩, if_pos ⟨h0, h⟩]
  obtain ⟨n, rfl⟩ : ∃ n : Nat, i = n := ⟨i.toNat, by omega⟩
  rw [gt0_nat, gt0_nat, List.getElem?_append_left (by omega)]
theorem gOf_len (l : List Int) : gOf l l.length = 0 := by
  unfold gOf
  rw [if_neg (by omega)]
theorem gOf_new (l : List Int) (x : Int) : gOf (l ++ [x]) l.length = x := by
  unfold gOf
  rw [if_pos ⟨by omega, by rw [List.length_append]; simp only [List.length_cons, List.length_nil]; omega⟩, gt0_nat, List.getElem?_append_right (Nat.le_refl _), Nat.sub_self]
  rfl
/-- at places below, what is added changes nothing -/
theorem sum_app {p place : Int} {pw : List (List Int)} {l m : List Int} (h : PwP p pw) (he : enoughP p pw l.length = true) (hpl : place < l.length + ld pw) : sumAt p pw (l ++ m) place = sumAt p pw l place := by
  unfold sumAt
  rw [out_at (n := l.length) (g := gOf l) (g' := gOf (l ++ m)) h he (by omega) (fun i h0 h1 => (gOf_app l m h0 h1).symm) (by omega), if_neg (by omega), Int.add_zero]
theorem sum_new {p : Int} {pw : List (List Int)} {l : List Int} {x : Int} (h : PwP p pw) (he : enoughP p pw l.length = true) : sumAt p pw (l ++ [x]) (l.length + ld pw) = (sumAt p pw l (l.length + ld pw) + lc pw * x) % p := by
  unfold sumAt
  rw [out_at (n := l.length) (g := gOf l) (g' := gOf (l ++ [x])) h he (by omega) (fun i h0 h1 => (gOf_app l [x] h0 h1).symm) (by omega), if_pos rfl, gOf_len, gOf_new, Int.sub_zero, ← emod_shift]
def nx (p : Int) (pw : List (List Int)) (l : List Int) : Int := -bk p (lc pw) * sumAt p pw l (l.length + ld pw) % p
theorem sum_rng {p place : Int} {pw : List (List Int)} {l : List Int} (hp : 0 < p) : 0 ≤ sumAt p pw l place ∧ sumAt p pw l place < p := ⟨Int.emod_nonneg _ (by omega), Int.emod_lt_of_pos _ hp⟩
theorem nx_zero {p : Int} {pw : List (List Int)} {l : List Int} (h : PwP p pw) (he : enoughP p pw l.length = true) : sumAt p pw (l ++ [nx p pw l]) (l.length + ld pw) = 0 := by
  rw [sum_new h he]
  exact (choose0 h.pr h.lc_ok (sum_rng (by have := h.pr.le; omega))).2
theorem nx_pick {p : Int} {pw : List (List Int)} {l : List Int} (h : PwP p pw) (he : enoughP p pw l.length = true) : gt0 (0 : Int) (((rng 0 p).filter fun x => decide (sumAt p pw (l ++ [x]) (l.length + ld pw) = 0)).map fun x => x) 0 = nx p pw l ∧ 0 < (((rng 0 p).filter fun x => decide (sumAt p pw (l ++ [x]) (l.length + ld pw) = 0)).map fun x => x).length := by
  have e : (fun x => decide (sumAt p pw (l ++ [x]) (l.length + ld pw) = 0)) = fun x => decide ((sumAt p pw l (l.length + ld pw) + lc pw * x) % p = 0) := by
    funext x
    rw [sum_new h he]
  rw [e]
  exact gt0_head (choose0 h.pr h.lc_ok (sum_rng (by have := h.pr.le; omega))).1
theorem nx_lim {p : Int} {pw : List (List Int)} {l : List Int} (h : PwP p pw) : 0 ≤ nx p pw l ∧ nx p pw l < p := ⟨Int.emod_nonneg _ (by have := h.pr.le; omega), Int.emod_lt_of_pos _ (by have := h.pr.le; omega)⟩
def fol (p : Int) (pw : List (List Int)) : Nat → List Int → List Int
  | 0, l => l
  | k + 1, l => fol p pw k l ++ [nx p pw (fol p pw k l)]
theorem fol_len {p : Int} {pw : List (List Int)} {l : List Int} : ∀ k, (fol p pw k l).length = l.length + k
  | 0 => rfl
  | k + 1 => by
    show (fol p pw k l ++ [_]).length = _
    rw [List.length_append, fol_len k]
    rfl
theorem fol_pre {p : Int} {pw : List (List Int)} {l : List Int} (j : Nat) : ∀ k, ∃ m, fol p pw (j + k) l = fol p pw j l ++ m
  | 0 => ⟨[], by simp⟩
  | k + 1 => by
    obtain ⟨m, e⟩ := fol_pre (p := p) (pw := pw) (l := l) j k
    refine ⟨m ++ [nx p pw (fol p pw (j + k) l)], ?_⟩
    show fol p pw (j + k) l ++ [nx p pw (fol p pw (j + k) l)] = _
    rw [← List.append_assoc, ← e]
theorem fol_take {p : Int} {pw : List (List Int)} {l : List Int} {j k m : Nat} (h1 : m ≤ l.length + j) (h2 : m ≤ l.length + k) : (fol p pw j l).take m = (fol p pw k l).take m := by
  have hh : ∀ a b : Nat, a ≤ b → m ≤ l.length + a → (fol p pw a l).take m = (fol p pw b l).take m := fun a b hab ha => by
    obtain ⟨z, e⟩ := fol_pre (p := p) (pw := pw) (l := l) a (b - a)
    rw [show a + (b - a) = b by omega] at e
    rw [e, List.take_append_of_le_length (by rw [fol_len]; exact ha)]
  rcases Nat.le_total j k with h | h
  · exact hh j k h h1
  · exact (hh k j h h2).symm
theorem enough_ge {p : Int} {pw : List (List Int)} (hp : 2 ≤ p ∧ p ≤ 5) {n : Int} (h : m_settled_known p pw ≤ n) : enoughP p pw n = true := by
  have hm : m_settled_known p pw = (List.foldl (st_settled_known_1 p pw) (0, 1) (pw.drop 1)).1 := by unfold m_settled_known; rw [cutL_one]
  exact (fold_up (pw := pw) hp.1 (pw.drop 1) 0 1 (by omega)).2 n (by rw [← hm]; exact h)
theorem rng_in {hi x : Int} (h : 0 ≤ x ∧ x < hi) : x ∈ rng 0 hi := by
  have := rng_get (lo := 0) (hi := hi) (i := x.toNat) (by omega)
  rw [show (0 : Int) + ((x.toNat : Nat) : Int) = x by omega] at this
  exact List.mem_of_getElem? this
/-- the told entries -/
def rowOf (p : Int) (pw : List (List Int)) (firsts : List Int) (n : Nat) : List Int := fol p pw (n - (m_settled_known p pw).toNat) (firsts.take (m_settled_known p pw).toNat)
def setE (p : Int) (pw : List (List Int)) (firsts : List Int) (many : Nat) : Option (List Int) :=
  if ((rng 0 (m_settled_known p pw + ld pw)).map fun x => !decide (sumAt p pw (firsts.take (m_settled_known p pw).toNat) x = 0)).any id = true then none
  else if (rowOf p pw firsts (max many firsts.length)).take firsts.length = firsts then some ((rowOf p pw firsts (max many firsts.length)).take many) else none
theorem rowOf_len {p : Int} {pw : List (List Int)} {firsts : List Int} {n : Nat} (h : (m_settled_known p pw).toNat ≤ firsts.length) (hn : (m_settled_known p pw).toNat ≤ n) : (rowOf p pw firsts n).length = n := by
  unfold rowOf
  rw [fol_len, List.length_take, Nat.min_eq_left h]
  omega
theorem rowOf_take {p : Int} {pw : List (List Int)} {firsts : List Int} {n n' m : Nat} (h : (m_settled_known p pw).toNat ≤ firsts.length) (hn : m ≤ n) (hn' : m ≤ n') : (rowOf p pw firsts n).take m = (rowOf p pw firsts n').take m := by
  unfold rowOf
  refine fol_take ?_ ?_ <;> rw [List.length_take, Nat.min_eq_left h] <;> omega
theorem nought_iff {p : Int} {pw : List (List Int)} {firsts : List Int} (hP : PwP p pw) (h : (m_settled_known p pw).toNat ≤ firsts.length) (hm : (m_settled_known p pw).toNat + ld pw ≤ 50) :
    ((rng 0 50).map fun x => decide (sumAt p pw (rowOf p pw firsts 60) x = 0)).all id = !((rng 0 (m_settled_known p pw + ld pw)).map fun x => !decide (sumAt p pw (firsts.take (m_settled_known p pw).toNat) x = 0)).any id := by
  have hp := hP.pr.le
  have hnn : 0 ≤ m_settled_known p pw := (settled_law hp hP.ok).1
  obtain ⟨n, hn⟩ : ∃ n : Nat, m_settled_known p pw = n := ⟨(m_settled_known p pw).toNat, by omega⟩
  rw [hn, Int.toNat_natCast] at h hm
  have hrow : rowOf p pw firsts 60 = fol p pw (60 - n) (firsts.take n) := by unfold rowOf; rw [hn, Int.toNat_natCast]
  have hl : (firsts.take n).length = n := by rw [List.length_take, Nat.min_eq_left h]
  rw [hrow, hn, Int.toNat_natCast]
  have early : ∀ x : Int, 0 ≤ x → x < n + ld pw → sumAt p pw (fol p pw (60 - n) (firsts.take n)) x = sumAt p pw (firsts.take n) x := fun x h0 h1 => by
    obtain ⟨m, e⟩ := fol_pre (p := p) (pw := pw) (l := firsts.take n) 0 (60 - n)
    rw [Nat.zero_add] at e
    rw [e]
    exact sum_app hP (enough_ge hp (by show _ ≤ ((firsts.take n).length : Int); rw [hl, hn]; exact Int.le_refl _)) (by show x < ((firsts.take n).length : Int) + _; rw [hl]; exact h1)
  have late : ∀ x : Int, n + ld pw ≤ x → x < 50 → sumAt p pw (fol p pw (60 - n) (firsts.take n)) x = 0 := fun x h0 h1 => by
    obtain ⟨k, hk⟩ : ∃ k : Nat, x = ((n + k : Nat) : Int) + ld pw := ⟨(x - n - ld pw).toNat, by omega⟩
    obtain ⟨m, e⟩ := fol_pre (p := p) (pw := pw) (l := firsts.take n) (k + 1) (60 - n - (k + 1))
    rw [show k + 1 + (60 - n - (k + 1)) = 60 - n by omega] at e
    have hlk : (fol p pw k (firsts.take n)).length = n + k := by rw [fol_len, hl]
    have hlk1 : (fol p pw (k + 1) (firsts.take n)).length = n + (k + 1) := by rw [fol_len, hl]
    have e1 : sumAt p pw (fol p pw (60 - n) (firsts.take n)) x = sumAt p pw (fol p pw (k + 1) (firsts.take n)) x := by
      rw [e]
      exact sum_app hP (enough_ge hp (by rw [hlk1, hn]; omega)) (by rw [hlk1, hk]; omega)
    have e2 := nx_zero (l := fol p pw k (firsts.take n)) hP (enough_ge hp (by rw [hlk, hn]; omega))
    rw [hlk, ← hk] at e2
    rw [e1]
    exact e2
  rw [Bool.eq_iff_iff, Bool.not_eq_true', List.all_eq_true, Bool.eq_false_iff]
  constructor
  · intro H hany
    obtain ⟨b, hb, hb2⟩ := List.any_eq_true.mp hany
    obtain ⟨x, hx, rfl⟩ := List.mem_map.mp hb
    obtain ⟨i, hi⟩ := List.getElem?_of_mem hx
    have hr := rng_at hi
    have h50 : x ∈ rng 0 50 := rng_in (by omega)
    have := H _ (List.mem_map.mpr ⟨x, h50, rfl⟩)
    have h2 : sumAt p pw (fol p pw (60 - n) (firsts.take n)) x = 0 := of_decide_eq_true this
    rw [early x hr.2.1 hr.2.2] at h2
    rw [h2] at hb2
    simp at hb2
  · intro H b hb
    obtain ⟨x, hx, rfl⟩ := List.mem_map.mp hb
    obtain ⟨i, hi⟩ := List.getElem?_of_mem hx
    have hr := rng_at hi
    refine decide_eq_true ?_
    by_cases hlt : x < n + ld pw
    · rw [early x hr.2.1 hlt]
      apply Classical.byContradiction
      intro hne
      refine H (List.any_eq_true.mpr ⟨!decide (sumAt p pw (firsts.take n) x = 0), List.mem_map.mpr ⟨x, ?_, rfl⟩, by simp [hne]⟩)
      exact rng_in ⟨hr.2.1, hlt⟩
    · exact late x (by omega) hr.2.2
theorem pw_small4 {p : Int} {i : Nat} (h : 2 ≤ p ∧ p ≤ 5) (hi : i < 4) : 1 ≤ p ^ i ∧ p ^ i ≤ 125 := by
  have hp : p = 2 ∨ p = 3 ∨ p = 4 ∨ p = 5 := by omega
  have hii : i = 0 ∨ i = 1 ∨ i = 2 ∨ i = 3 := by omega
  rcases hp with rfl | rfl | rfl | rfl <;> rcases hii with rfl | rfl | rfl | rfl <;> decide
theorem mn2_lt {a b x : Int} (h : x < mn2 a b) : x < a ∧ x < b := by
  unfold mn2 at h
  split at h <;> omega
theorem pw_len {p : Int} {pw : List (List Int)} (h : PwP p pw) {a : List Int} (ha : a ∈ pw) : a.length ≤ 1000 := by
  by_cases z : a = []
  · subst z; simp
  · exact (h.ok.2.2.1 a ha z).2
theorem mn2_b {n : Nat} {b : Int} (hb : 0 ≤ b ∧ b < 2000) (hn : n ≤ 1000) : -(2 ^ 62) ≤ mn2 (n : Int) b ∧ mn2 (n : Int) b < 2 ^ 62 := by
  unfold mn2
  split <;> omega
theorem pw_at {p : Int} {pw : List (List Int)} (h : PwP p pw) {a : List Int} (ha : a ∈ pw) {i : Int} (h0 : 0 ≤ i) (h1 : i < a.length) : 0 ≤ gt0 (0 : Int) a i ∧ gt0 (0 : Int) a i < p := h.lim a ha _ (List.mem_of_getElem? (gt0_some (d := (0 : Int)) (by omega) h1))
/-- polynomials drawn -/
def LowOk (p : Int) (a : List Int) : Prop := a.length ≤ 8 ∧ (a = [] ∨ nzP a) ∧ ∀ c ∈ a, 0 ≤ c ∧ c < p
structure PwG (p : Int) (pw : List (List Int)) : Prop extends PwP p pw where
  len0 : (a0 pw).length ≤ 8
end
section
variable {P : Program} {w : World} {K : PySem.W.Frag} {mg : Str → Option Value} {base : Heap}
def sp_back_of (K : PySem.W.Frag) : Sp := fun vs H Q _ => ∃ (p : Int) (number : Int), (vs = [.int p, .int number]) ∧ (Pr p) ∧ (0 < number ∧ number < p) ∧ (∀ H', Ex H H' → Q (.int (bk p number)) H')
section
variable {K : PySem.W.Frag}
theorem gv_back_of {p : Int} {number : Int} (h0 : Pr p) (h1 : 0 < number ∧ number < p) : Gv (sp_back_of K) (Ac rI p (Ac rI number A0)) rI (bk p number) := by
  intro vs H1 hp Q E k
  obtain ⟨v0, w0, rfl, f0, hp⟩ := hp
  cases f0
  obtain ⟨v1, w1, rfl, f1, hp⟩ := hp
  cases f1
  cases hp
  exact ⟨_, _, rfl, h0, h1, fun H2 e => k _ H2 e rfl⟩
end
theorem ok_back_of {f : Addr} {fd : FuncData} (F : Fun K "back_of" "back_of" s_back_of f fd) (n_range : mg "range" = none) : FnOk P w K mg base CX0 1 f fd ["p", "number"] (sp_back_of K) := by
  refine F.ok sc_back_of (fun vs H Q E h => ?_) (fun cdv A outer s H vs Q E hr h => ?_)
  · obtain ⟨p, number, rfl, _⟩ := h; rfl
  · obtain ⟨p, number, rfl, hpre0, hpre1, q⟩ := h
    refine ⟨_, (pss_one (ps_ret (pe_ix (ix_listK K) (pe_lc (own := [("other", 2)]) (by rfl) sc_back_of.nd (pi_range1 (by rfl) n_range (pa_cons (pv 0) pa_nil)) (blkOk_by (own := [("other", 2)]) (N := ["p", "number", "other"]) (sc := defScope s_back_of) (by decide +kernel)) (fun _ _ _ _ _ => (pg_name (i := 2) sc_back_of.nd rfl (Or.inl rfl))) (fun _ _ _ _ _ => (pts_one (pt_cmpR op_eq (pe_op op_mod (pe_op op_mul (pv 1) (pv 2)) (pv 0)) pe_int (nomark _)))) (fun _ _ _ _ _ => (pv 2))) pe_int (fun _ _ => rfl)))), ?_⟩
    have F0 : Ex H H := Ex.refl H
    have hp := hpre0.le
    have hb := (bk_ok hpre0 hpre1).1
    refine s_ret (R := rI) (er_ixL0 (0 : Int) (El.er (K := K) (el_lcR1c (K := K) er_iv (by first | omega | assumption | (simp only [List.length_append, List.length_cons, List.length_nil, List.length_map, List.length_range, List.length_set, rng_len, enm_len, repL_len] at *; omega)) (fun _ => rfl) (fun x1 H1 e2 hx3 => (et_t (er_eqI (er_op (er_op er_iv er_iv (cmul_l (by omega))) er_iv (by omega)) er_int))) (fun x1 H1 e2 hx3 => fun hc4 => er_iv))) er_int (by omega) (Int.ofNat_lt.mpr hb)) fun v H' e r => ?_
    cases r
    have z := q _ (F0.trans e)
    exact z

def st_summed_at_2 (p : Int) (powers : (List (List Int))) (known : (List Int)) (place : Int) (s1 : (Int × Int)) (x1 : (List Int)) : Int → (Int × Int) → Int := fun s2 x2 => ((if ((decide (x2.1 ≤ place)) && ((decide (((place - x2.1) % s1.2) = (0 : Int))) && (decide (((place - x2.1) / s1.2) < (known.length : Int))))) = true then (s2 + (x2.2 * (gt0 (0 : Int) known ((place - x2.1) / s1.2)))) else s2))
def st_summed_at_1 (p : Int) (powers : (List (List Int))) (known : (List Int)) (place : Int) : (Int × Int) → (List Int) → (Int × Int) := fun s1 x1 => ((List.foldl (st_summed_at_2 p powers known place s1 x1) (s1.1) ((enm x1))), (s1.2 * p))
def sp_summed_at (K : PySem.W.Frag) : Sp := fun vs H Q _ => ∃ (p : Int) (powers : (List (List Int))) (known : (List Int)) (place : Int) (v_powers : V) (p_known : Addr), (vs = [.int p, v_powers, .ref p_known, .int place]) ∧ ((rT K (rT K rI)) H powers v_powers) ∧ (Lt rI H p_known known) ∧ (PwP p powers) ∧ (0 ≤ place ∧ place < 1000) ∧ (∀ H', Ex H H' → Q (.int (sumAt p powers known place)) H')
section
variable {K : PySem.W.Frag}
theorem gv_summed_at {p : Int} {powers : (List (List Int))} {known : (List Int)} {place : Int} (h0 : PwP p powers) (h1 : 0 ≤ place ∧ place < 1000) : Gv (sp_summed_at K) (Ac rI p (Ac (rT K (rT K rI)) powers (AcL rI known (Ac rI place A0)))) rI (sumAt p powers known place) := by
  intro vs H1 hp Q E k
  obtain ⟨v0, w0, rfl, f0, hp⟩ := hp
  cases f0
  obtain ⟨v1, w1, rfl, f1, hp⟩ := hp
  obtain ⟨v2, w2, rfl, f2, hp⟩ := hp
  obtain ⟨p2, rfl, f2⟩ := f2
  obtain ⟨v3, w3, rfl, f3, hp⟩ := hp
  cases f3
  cases hp
  exact ⟨_, _, _, _, v1, p2, rfl, f1, f2, h0, h1, fun H2 e => k _ H2 e rfl⟩
end
theorem ok_summed_at {f : Addr} {fd : FuncData} (F : Fun K "summed_at" "summed_at" s_summed_at f fd) (n_enumerate : mg "enumerate" = none) (n_len : mg "len" = none) : FnOk P w K mg base CX0 1 f fd ["p", "powers", "known", "place"] (sp_summed_at K) := by
  refine F.ok sc_summed_at (fun vs H Q E h => ?_) (fun cdv A outer s H vs Q E hr h => ?_)
  · obtain ⟨p, powers, known, place, v_powers, p_known, rfl, _⟩ := h; rfl
  · obtain ⟨p, powers, known, place, v_powers, p_known, rfl, f_powers, f_known, hpre0, hpre1, q⟩ := h
    refine ⟨_, (pss_cons (ps_set (i := 4) sc_summed_at.nd rfl (Or.inl rfl) pe_int)
 (pss_cons (ps_set (i := 5) sc_summed_at.nd rfl (Or.inl rfl) pe_int)
 (pss_cons (ps_for PassesOwn.never rfl (pi_tupK K (pv 1)) (pg_name (i := 6) sc_summed_at.nd rfl (Or.inl rfl))
 (pss_cons (ps_for PassesOwn.never rfl (pi_enumTK K (by rfl) n_enumerate (pa_cons (pv 6) pa_nil)) (pg_tupK K 2 rfl (pgs_cons (pg_name (i := 7) sc_summed_at.nd rfl (Or.inl rfl)) (pgs_cons (pg_name (i := 8) sc_summed_at.nd rfl (Or.inl rfl)) pgs_nil)))
 (Evl.pss_cut (ps_if (PW.pt (pw_and (pt_cmpR op_le (pv 7) (pv 3) (nomark _)) (pw_and (pt_cmpR op_eq (pe_op op_mod (pe_op op_sub (pv 3) (pv 7)) (pv 5)) pe_int (nomark _)) (pw_and1 (pt_cmpR op_lt (pe_op op_fdiv (pe_op op_sub (pv 3) (pv 7)) (pv 5)) (pe_callB (call_len_seqK K) (by rfl) n_len (by decide +kernel) (pa_cons (pv 2) pa_nil)) (nomark _)))))) (pss_one (ps_set (i := 4) sc_summed_at.nd rfl (Or.inl rfl) (pe_op op_add (pv 4) (pe_op op_mul (pv 8) (pe_ix (ix_listK K) (pv 2) (pe_op op_fdiv (pe_op op_sub (pv 3) (pv 7)) (pv 5)) (fun _ _ => rfl)))))) pss_nil)
 pss_nil))
 (pss_one (ps_set (i := 5) sc_summed_at.nd rfl (Or.inl rfl) (pe_op op_mul (pv 5) (pv 0))))))
 (pss_one (ps_ret (pe_op op_mod (pv 4) (pv 0))))))), ?_⟩
    have F0 : Ex H H := Ex.refl H
    have hp := hpre0.pr.le
    have hl4 := hpre0.ok.2.1
    refine q_asgI er_int fun H1 e2 => ?_
    replace f_powers := Me.ex e2 f_powers
    replace f_known := Lt.ex f_known e2
    replace F0 := F0.trans e2
    refine q_asgI er_int fun H3 e4 => ?_
    replace f_powers := Me.ex e4 f_powers
    replace f_known := Lt.ex f_known e4
    replace F0 := F0.trans e4
    refine q_forT (er_var rfl f_powers) fun v7 H5 e6 r8 => ?_
    replace f_powers := Me.ex e6 f_powers
    replace f_known := Lt.ex f_known e6
    replace F0 := F0.trans e6
    have k9 : Kt K _ _ := Kt.refl H5
    refine fq_T r8 (fun i σ' H' => ∃ (s1 : Int × Int) (j10 : Option V) (j11 : Option V) (j12 : Option V), s1 = List.foldl (st_summed_at_1 p powers known place) ((0 : Int), (1 : Int)) (List.take i powers) ∧ s1.2 = p ^ i ∧ σ' = [some (.int p), some v_powers, some (.ref p_known), some (.int place), some (.int s1.1), some (.int s1.2), j10, j11, j12] ∧ Ex H H' ∧ Kt K H5 H' ∧ Lt rI H' p_known known) ?_ ?_ ?_ ?_
    · exact ⟨((0 : Int), (1 : Int)), _, _, _, rfl, (by simp), rfl, F0, k9, f_known⟩
    · intro i σ' H' hi h; obtain ⟨s1, j10, j11, j12, hs1, hp1_0, rfl, F0, k9, f_known⟩ := h; exact Mkt.kt k9 r8
    ·
      rintro i x1 v14 _ H13 hi hx1 ⟨s1, j10, j11, j12, hs1, hp1_0, rfl, F0, k9, f_known⟩ r15
      replace f_powers := Mkt.kt k9 f_powers
      have hm1 := List.mem_of_getElem? hx1
      have hfar := pw_small4 hp (show i < 4 by omega)
      rw [← hp1_0] at hfar
      refine q_forET (er_var rfl r15) fun v18 H16 e17 r19 => ?_
      replace f_powers := Me.ex e17 f_powers
      replace f_known := Lt.ex f_known e17
      replace r15 := Me.ex e17 r15
      replace F0 := F0.trans e17
      replace k9 := k9.trans (Kt.ex e17)
      have k20 : Kt K _ _ := Kt.refl H16
      refine fq_ETI r19 (fun i σ' H' => ∃ (s2 : Int) (j21 : Option V) (j22 : Option V), s2 = List.foldl (st_summed_at_2 p powers known place s1 x1) (s1.1) (List.take i ((enm x1))) ∧ σ' = [some (.int p), some v_powers, some (.ref p_known), some (.int place), some (.int s2), some (.int s1.2), some v14, j21, j22] ∧ Ex H H' ∧ Kt K H16 H' ∧ Lt rI H' p_known known) ?_ ?_ ?_ ?_
      · exact ⟨(s1.1), _, _, rfl, rfl, F0, k20, f_known⟩
      · intro i σ' H' hi h; obtain ⟨s2, j21, j22, hs2, rfl, F0, k20, f_known⟩ := h; exact Mkt.kt k20 r19
      ·
        rintro i x2  _ H23 H24 hi hx2 ⟨s2, j21, j22, hs2, rfl, F0, k20, f_known⟩ e25
        replace f_powers := Mkt.kt k20 f_powers
        replace r15 := Mkt.kt k20 r15
        replace k9 := k9.trans k20
        replace f_powers := Me.ex e25 f_powers
        replace f_known := Lt.ex f_known e25
        replace r15 := Me.ex e25 r15
        replace F0 := F0.trans e25
        replace k20 := k20.trans (Kt.ex e25)
        replace k9 := k9.trans (Kt.ex e25)
        have hr2 := enm_at hx2
        have hc := hpre0.lim _ hm1 _ (List.mem_of_getElem? (enm_at hx2).2)
        have k30 : Kt K _ _ := Kt.refl H24
        refine ⟨fun σ' H' => σ' = [some (.int p), some v_powers, some (.ref p_known), some (.int place), some (.int ((if ((decide (x2.1 ≤ place)) && ((decide (((place - x2.1) % s1.2) = (0 : Int))) && (decide (((place - x2.1) / s1.2) < (known.length : Int))))) = true then (s2 + (x2.2 * (gt0 (0 : Int) known ((place - x2.1) / s1.2)))) else s2))), some (.int s1.2), some v14, some (.int x2.1), some (.int x2.2)] ∧ Ex H H' ∧ Kt K H24 H' ∧ Lt rI H' p_known known, ?_, ?_⟩
        · refine s_if (et_and (et_t (er_cmp er_iv er_iv)) fun hc27 => (et_and (et_t (er_eqI (er_op (er_op0 er_iv er_iv) er_iv (by omega)) er_int)) fun hc26 => (et_t (er_cmp (er_op (er_op0 er_iv er_iv) er_iv ⟨by omega, by omega⟩) (er_lenL (er_var rfl (Lt.rl f_known))))))) (fun hb_1 H28 e29 => ?_) (fun hb_1 H28 e29 => ?_)
          ·
            have hb_1' := hb_1
            try simp only [Bool.and_eq_true, Bool.or_eq_true, Bool.not_eq_true', Bool.and_eq_false_iff, Bool.or_eq_false_iff, Bool.not_eq_false', decide_eq_true_eq, decide_eq_false_iff_not] at hb_1'
            replace f_powers := Me.ex e29 f_powers
            replace f_known := Lt.ex f_known e29
            replace r15 := Me.ex e29 r15
            replace F0 := F0.trans e29
            replace k20 := k20.trans (Kt.ex e29)
            replace k9 := k9.trans (Kt.ex e29)
            replace k30 := k30.trans (Kt.ex e29)
            refine s_asgI (er_op0 er_iv (er_op er_iv (er_ixL0 (0 : Int) (er_var rfl (Lt.rl f_known)) (er_op (er_op0 er_iv er_iv) er_iv ⟨by omega, by omega⟩) (by have := Int.ediv_nonneg (show (0 : Int) ≤ place - x2.1 by omega) (show (0 : Int) ≤ s1.2 by omega); omega) (by omega)) (cmul_of (by first | omega | (left; omega) | (right; omega))))) fun H31 e32 => ?_
            replace f_powers := Me.ex e32 f_powers
            replace f_known := Lt.ex f_known e32
            replace r15 := Me.ex e32 r15
            replace F0 := F0.trans e32
            replace k20 := k20.trans (Kt.ex e32)
            replace k9 := k9.trans (Kt.ex e32)
            replace k30 := k30.trans (Kt.ex e32)
            refine ⟨(by (try rw [hb_1]); rfl), F0, k30, (by (try rw [hb_1]); exact f_known)⟩
          ·
            have hb_1' := hb_1
            try simp only [Bool.and_eq_true, Bool.or_eq_true, Bool.not_eq_true', Bool.and_eq_false_iff, Bool.or_eq_false_iff, Bool.not_eq_false', decide_eq_true_eq, decide_eq_false_iff_not] at hb_1'
            replace f_powers := Me.ex e29 f_powers
            replace f_known := Lt.ex f_known e29
            replace r15 := Me.ex e29 r15
            replace F0 := F0.trans e29
            replace k20 := k20.trans (Kt.ex e29)
            replace k9 := k9.trans (Kt.ex e29)
            replace k30 := k30.trans (Kt.ex e29)
            refine ⟨(by (try rw [hb_1]); rfl), F0, k30, (by (try rw [hb_1]); exact f_known)⟩
        rintro _ H33 ⟨rfl, F0, kt34, f_known⟩
        replace k20 := k20.trans kt34
        replace k9 := k9.trans kt34
        replace f_powers := Mkt.kt kt34 f_powers
        replace r15 := Mkt.kt kt34 r15
        exact ⟨st_summed_at_2 p powers known place s1 x1 s2 x2, _, _, fold_snoc hs2 hx2, rfl, F0, k20, f_known⟩
      rintro _ H35 ⟨s2, j21, j22, hs2, rfl, F0, k20, f_known⟩
      rw [take_all] at hs2; subst hs2
      replace f_powers := Mkt.kt k20 f_powers
      replace r15 := Mkt.kt k20 r15
      replace k9 := k9.trans k20
      refine s_asgI (er_op er_iv er_iv (cmul_of (by first | omega | (left; omega) | (right; omega)))) fun H36 e37 => ?_
      replace f_powers := Me.ex e37 f_powers
      replace f_known := Lt.ex f_known e37
      replace r15 := Me.ex e37 r15
      replace F0 := F0.trans e37
      replace k9 := k9.trans (Kt.ex e37)
      exact ⟨st_summed_at_1 p powers known place s1 x1, _, _, _, fold_snoc hs1 hx1, (by show s1.2 * p = p ^ (i + 1); rw [hp1_0, Int.pow_succ]), rfl, F0, k9, f_known⟩
    rintro _ H38 ⟨s1, j10, j11, j12, hs1, hp1_0, rfl, F0, k9, f_known⟩
    rw [take_all] at hs1; subst hs1
    replace f_powers := Mkt.kt k9 f_powers
    refine s_ret (R := rI) (er_op er_iv er_iv (by omega)) fun v H' e r => ?_
    cases r
    have z := q _ (F0.trans e)
    rw [← sum_eq hp.1] at z; exact z

def st__law_sum_at_2 (l_p : Int) (l_powers_here : (List (List Int))) (l_known : (List Int)) (l_place : Int) (s1 : (Int × Int)) (x1 : (List Int)) : Int → Int → Int := fun s2 x2 => ((if ((decide (((l_place - x2) % s1.2) = (0 : Int))) && (decide (((l_place - x2) / s1.2) < (l_known.length : Int)))) = true then (s2 + ((gt0 (0 : Int) x1 x2) * (gt0 (0 : Int) l_known ((l_place - x2) / s1.2)))) else s2))
def st__law_sum_at_1 (l_p : Int) (l_powers_here : (List (List Int))) (l_known : (List Int)) (l_place : Int) : (Int × Int) → (List Int) → (Int × Int) := fun s1 x1 => ((List.foldl (st__law_sum_at_2 l_p l_powers_here l_known l_place s1 x1) (s1.1) ((rng 0 (mn2 ((x1.length : Int)) ((l_place + (1 : Int))))))), (s1.2 * l_p))
def sp__law_sum_at (K : PySem.W.Frag) : Sp := fun vs H Q _ => ∃ (l_p : Int) (l_powers_here : (List (List Int))) (l_known : (List Int)) (l_place : Int) (v_l_powers_here : V) (p_l_known : Addr), (vs = [.int l_p, v_l_powers_here, .ref p_l_known, .int l_place]) ∧ ((rT K (rT K rI)) H l_powers_here v_l_powers_here) ∧ (Lt rI H p_l_known l_known) ∧ (PwP l_p l_powers_here) ∧ (0 ≤ l_place ∧ l_place < 1000) ∧ (∀ H', Ex H H' → Q (.int (sumAt l_p l_powers_here l_known l_place)) H')
section
variable {K : PySem.W.Frag}
theorem gv__law_sum_at {l_p : Int} {l_powers_here : (List (List Int))} {l_known : (List Int)} {l_place : Int} (h0 : PwP l_p l_powers_here) (h1 : 0 ≤ l_place ∧ l_place < 1000) : Gv (sp__law_sum_at K) (Ac rI l_p (Ac (rT K (rT K rI)) l_powers_here (AcL rI l_known (Ac rI l_place A0)))) rI (sumAt l_p l_powers_here l_known l_place) := by
  intro vs H1 hp Q E k
  obtain ⟨v0, w0, rfl, f0, hp⟩ := hp
  cases f0
  obtain ⟨v1, w1, rfl, f1, hp⟩ := hp
  obtain ⟨v2, w2, rfl, f2, hp⟩ := hp
  obtain ⟨p2, rfl, f2⟩ := f2
  obtain ⟨v3, w3, rfl, f3, hp⟩ := hp
  cases f3
  cases hp
  exact ⟨_, _, _, _, v1, p2, rfl, f1, f2, h0, h1, fun H2 e => k _ H2 e rfl⟩
end
theorem ok__law_sum_at {f : Addr} {fd : FuncData} (F : Fun K "_law_sum_at" "_law_sum_at" s__law_sum_at f fd) (n_range : mg "range" = none) (n_min : mg "min" = none) (n_len : mg "len" = none) : FnOk P w K mg base CX0 1 f fd ["_law_p", "_law_powers_here", "_law_known", "_law_place"] (sp__law_sum_at K) := by
  refine F.ok sc__law_sum_at (fun vs H Q E h => ?_) (fun cdv A outer s H vs Q E hr h => ?_)
  · obtain ⟨l_p, l_powers_here, l_known, l_place, v_l_powers_here, p_l_known, rfl, _⟩ := h; rfl
  · obtain ⟨l_p, l_powers_here, l_known, l_place, v_l_powers_here, p_l_known, rfl, f_l_powers_here, f_l_known, hpre0, hpre1, q⟩ := h
    refine ⟨_, (pss_cons (ps_asg (pe_tup (pa_cons pe_int (pa_cons pe_int pa_nil))) (pg_tupK K 2 rfl (pgs_cons (pg_name (i := 4) sc__law_sum_at.nd rfl (Or.inl rfl)) (pgs_cons (pg_name (i := 5) sc__law_sum_at.nd rfl (Or.inl rfl)) pgs_nil))))
 (pss_cons (ps_for PassesOwn.never rfl (pi_tupK K (pv 1)) (pg_name (i := 6) sc__law_sum_at.nd rfl (Or.inl rfl))
 (pss_cons (ps_for PassesOwn.never rfl (pi_range1 (by rfl) n_range (pa_cons (pe_callB (call_min2 rfl) (by rfl) n_min (by decide +kernel) (pa_cons (pe_callB (call_len_seqK K) (by rfl) n_len (by decide +kernel) (pa_cons (pv 6) pa_nil)) (pa_cons (pe_op op_add (pv 3) pe_int) pa_nil))) pa_nil)) (pg_name (i := 7) sc__law_sum_at.nd rfl (Or.inl rfl))
 (Evl.pss_cut (ps_if (PW.pt (pw_and (pt_cmpR op_eq (pe_op op_mod (pe_op op_sub (pv 3) (pv 7)) (pv 5)) pe_int (nomark _)) (pw_and1 (pt_cmpR op_lt (pe_op op_fdiv (pe_op op_sub (pv 3) (pv 7)) (pv 5)) (pe_callB (call_len_seqK K) (by rfl) n_len (by decide +kernel) (pa_cons (pv 2) pa_nil)) (nomark _))))) (pss_one (ps_set (i := 4) sc__law_sum_at.nd rfl (Or.inl rfl) (pe_op op_add (pv 4) (pe_op op_mul (pe_ix (ix_tupK K) (pv 6) (pv 7) (fun _ _ => rfl)) (pe_ix (ix_listK K) (pv 2) (pe_op op_fdiv (pe_op op_sub (pv 3) (pv 7)) (pv 5)) (fun _ _ => rfl)))))) pss_nil)
 pss_nil))
 (pss_one (ps_set (i := 5) sc__law_sum_at.nd rfl (Or.inl rfl) (pe_op op_mul (pv 5) (pv 0))))))
 (pss_one (ps_ret (pe_op op_mod (pv 4) (pv 0)))))), ?_⟩
    have F0 : Ex H H := Ex.refl H
    have hp := hpre0.pr.le
    have hl4 := hpre0.ok.2.1
    refine ⟨by decide, fun t1 n2 => ⟨t1, [.int 0, .int 1], rfl, SqT.of upd_same, rfl, _, _, rfl, _, _, rfl, rfl, ?_⟩⟩
    have e3 := Ex.new (o := .tup [.int 0, .int 1]) n2
    replace f_l_powers_here := Me.ex e3 f_l_powers_here
    replace f_l_known := Lt.ex f_l_known e3
    replace F0 := F0.trans e3
    refine q_forT (er_var rfl f_l_powers_here) fun v6 H4 e5 r7 => ?_
    replace f_l_powers_here := Me.ex e5 f_l_powers_here
    replace f_l_known := Lt.ex f_l_known e5
    replace F0 := F0.trans e5
    have k8 : Kt K _ _ := Kt.refl H4
    refine fq_T r7 (fun i σ' H' => ∃ (s1 : Int × Int) (j9 : Option V) (j10 : Option V), s1 = List.foldl (st__law_sum_at_1 l_p l_powers_here l_known l_place) ((0 : Int), (1 : Int)) (List.take i l_powers_here) ∧ s1.2 = l_p ^ i ∧ σ' = [some (.int l_p), some v_l_powers_here, some (.ref p_l_known), some (.int l_place), some (.int s1.1), some (.int s1.2), j9, j10] ∧ Ex H H' ∧ Kt K H4 H' ∧ Lt rI H' p_l_known l_known) ?_ ?_ ?_ ?_
    · exact ⟨((0 : Int), (1 : Int)), _, _, rfl, (by simp), rfl, F0, k8, f_l_known⟩
    · intro i σ' H' hi h; obtain ⟨s1, j9, j10, hs1, hp1_0, rfl, F0, k8, f_l_known⟩ := h; exact Mkt.kt k8 r7
    ·
      rintro i x1 v12 _ H11 hi hx1 ⟨s1, j9, j10, hs1, hp1_0, rfl, F0, k8, f_l_known⟩ r13
      replace f_l_powers_here := Mkt.kt k8 f_l_powers_here
      have hm1 := List.mem_of_getElem? hx1
      have hfar := pw_small4 hp (show i < 4 by omega)
      rw [← hp1_0] at hfar
      refine q_forR1 (er_mn2 (er_lenT (er_var rfl r13)) (er_op0 er_iv er_int)) (mn2_b (by omega) (pw_len hpre0 hm1)) fun H14 e15 => ?_
      replace f_l_powers_here := Me.ex e15 f_l_powers_here
      replace f_l_known := Lt.ex f_l_known e15
      replace r13 := Me.ex e15 r13
      replace F0 := F0.trans e15
      replace k8 := k8.trans (Kt.ex e15)
      have k16 : Kt K _ _ := Kt.refl H14
      refine fq_R (lo := 0) (hi := (mn2 ((x1.length : Int)) ((l_place + (1 : Int))))) (by rw [Int.sub_zero]) (fun i σ' H' => ∃ (s2 : Int) (j17 : Option V), s2 = List.foldl (st__law_sum_at_2 l_p l_powers_here l_known l_place s1 x1) (s1.1) (List.take i ((rng 0 (mn2 ((x1.length : Int)) ((l_place + (1 : Int))))))) ∧ σ' = [some (.int l_p), some v_l_powers_here, some (.ref p_l_known), some (.int l_place), some (.int s2), some (.int s1.2), some v12, j17] ∧ Ex H H' ∧ Kt K H14 H' ∧ Lt rI H' p_l_known l_known) ?_ ?_ ?_
      · exact ⟨(s1.1), _, rfl, rfl, F0, k16, f_l_known⟩
      ·
        rintro i x2  _ H18 hi hx2 ⟨s2, j17, hs2, rfl, F0, k16, f_l_known⟩
        replace f_l_powers_here := Mkt.kt k16 f_l_powers_here
        replace r13 := Mkt.kt k16 r13
        replace k8 := k8.trans k16
        have hr2 := rng_at hx2
        have hr := mn2_lt hr2.2.2
        have hc := pw_at hpre0 hm1 hr2.2.1 hr.1
        have k22 : Kt K _ _ := Kt.refl H18
        refine ⟨fun σ' H' => σ' = [some (.int l_p), some v_l_powers_here, some (.ref p_l_known), some (.int l_place), some (.int ((if ((decide (((l_place - x2) % s1.2) = (0 : Int))) && (decide (((l_place - x2) / s1.2) < (l_known.length : Int)))) = true then (s2 + ((gt0 (0 : Int) x1 x2) * (gt0 (0 : Int) l_known ((l_place - x2) / s1.2)))) else s2))), some (.int s1.2), some v12, some (.int x2)] ∧ Ex H H' ∧ Kt K H18 H' ∧ Lt rI H' p_l_known l_known, ?_, ?_⟩
        · refine s_if (et_and (et_t (er_eqI (er_op (er_op0 er_iv er_iv) er_iv (by omega)) er_int)) fun hc19 => (et_t (er_cmp (er_op (er_op0 er_iv er_iv) er_iv ⟨by omega, by omega⟩) (er_lenL (er_var rfl (Lt.rl f_l_known)))))) (fun hb_1 H20 e21 => ?_) (fun hb_1 H20 e21 => ?_)
          ·
            have hb_1' := hb_1
            try simp only [Bool.and_eq_true, Bool.or_eq_true, Bool.not_eq_true', Bool.and_eq_false_iff, Bool.or_eq_false_iff, Bool.not_eq_false', decide_eq_true_eq, decide_eq_false_iff_not] at hb_1'
            replace f_l_powers_here := Me.ex e21 f_l_powers_here
            replace f_l_known := Lt.ex f_l_known e21
            replace r13 := Me.ex e21 r13
            replace F0 := F0.trans e21
            replace k16 := k16.trans (Kt.ex e21)
            replace k8 := k8.trans (Kt.ex e21)
            replace k22 := k22.trans (Kt.ex e21)
            refine s_asgI (er_op0 er_iv (er_op (er_ixT0 (0 : Int) (er_var rfl r13) er_iv (by omega) (by omega)) (er_ixL0 (0 : Int) (er_var rfl (Lt.rl f_l_known)) (er_op (er_op0 er_iv er_iv) er_iv ⟨by omega, by omega⟩) (by have := Int.ediv_nonneg (show (0 : Int) ≤ l_place - x2 by omega) (show (0 : Int) ≤ s1.2 by omega); omega) (by omega)) (cmul_of (by first | omega | (left; omega) | (right; omega))))) fun H23 e24 => ?_
            replace f_l_powers_here := Me.ex e24 f_l_powers_here
            replace f_l_known := Lt.ex f_l_known e24
            replace r13 := Me.ex e24 r13
            replace F0 := F0.trans e24
            replace k16 := k16.trans (Kt.ex e24)
            replace k8 := k8.trans (Kt.ex e24)
            replace k22 := k22.trans (Kt.ex e24)
            refine ⟨(by (try rw [hb_1]); rfl), F0, k22, (by (try rw [hb_1]); exact f_l_known)⟩
          ·
            have hb_1' := hb_1
            try simp only [Bool.and_eq_true, Bool.or_eq_true, Bool.not_eq_true', Bool.and_eq_false_iff, Bool.or_eq_false_iff, Bool.not_eq_false', decide_eq_true_eq, decide_eq_false_iff_not] at hb_1'
            replace f_l_powers_here := Me.ex e21 f_l_powers_here
            replace f_l_known := Lt.ex f_l_known e21
            replace r13 := Me.ex e21 r13
            replace F0 := F0.trans e21
            replace k16 := k16.trans (Kt.ex e21)
            replace k8 := k8.trans (Kt.ex e21)
            replace k22 := k22.trans (Kt.ex e21)
            refine ⟨(by (try rw [hb_1]); rfl), F0, k22, (by (try rw [hb_1]); exact f_l_known)⟩
        rintro _ H25 ⟨rfl, F0, kt26, f_l_known⟩
        replace k16 := k16.trans kt26
        replace k8 := k8.trans kt26
        replace f_l_powers_here := Mkt.kt kt26 f_l_powers_here
        replace r13 := Mkt.kt kt26 r13
        exact ⟨st__law_sum_at_2 l_p l_powers_here l_known l_place s1 x1 s2 x2, _, fold_snoc hs2 hx2, rfl, F0, k16, f_l_known⟩
      rintro _ H27 ⟨s2, j17, hs2, rfl, F0, k16, f_l_known⟩
      rw [take_all] at hs2; subst hs2
      replace f_l_powers_here := Mkt.kt k16 f_l_powers_here
      replace r13 := Mkt.kt k16 r13
      replace k8 := k8.trans k16
      refine s_asgI (er_op er_iv er_iv (cmul_of (by first | omega | (left; omega) | (right; omega)))) fun H28 e29 => ?_
      replace f_l_powers_here := Me.ex e29 f_l_powers_here
      replace f_l_known := Lt.ex f_l_known e29
      replace r13 := Me.ex e29 r13
      replace F0 := F0.trans e29
      replace k8 := k8.trans (Kt.ex e29)
      exact ⟨st__law_sum_at_1 l_p l_powers_here l_known l_place s1 x1, _, _, fold_snoc hs1 hx1, (by show s1.2 * l_p = l_p ^ (i + 1); rw [hp1_0, Int.pow_succ]), rfl, F0, k8, f_l_known⟩
    rintro _ H30 ⟨s1, j9, j10, hs1, hp1_0, rfl, F0, k8, f_l_known⟩
    rw [take_all] at hs1; subst hs1
    replace f_l_powers_here := Mkt.kt k8 f_l_powers_here
    refine s_ret (R := rI) (er_op er_iv er_iv (by omega)) fun v H' e r => ?_
    cases r
    have z := q _ (F0.trans e)
    rw [← sumL_eq hp.1 hpre1.1] at z; exact z

def sp__law_numbers (K : PySem.W.Frag) : Sp := fun vs H Q _ => ∃ (l_p : Int) (l_many : Int) (b : Addr), (vs = [.ref b, .int l_p, .int l_many]) ∧ (Bag H b) ∧ (0 < l_p ∧ l_p < 1000000) ∧ (0 ≤ l_many ∧ l_many < 1000) ∧ (∀ (r : (List Int)) (v : V) H', C1 b H H' → Bag H' b → (rT K rI) H' r v → (r.length = l_many.toNat) → (∀ x ∈ r, 0 ≤ x ∧ x < l_p) → Q v H')
theorem ok__law_numbers {f : Addr} {fd : FuncData} (F : Fun K "_law_numbers" "_law_numbers" s__law_numbers f fd) (n_tuple : mg "tuple" = none) (D__law_take : Df P w K mg base CX0 1 "_law_take" ["_law_bag_here", "_law_many"] (sp__law_take K)) (n_range : mg "range" = none) : FnOk P w K mg base CX0 2 f fd ["_law_bag_here", "_law_p", "_law_many"] (sp__law_numbers K) := by
  refine F.ok sc__law_numbers (fun vs H Q E h => ?_) (fun cdv A outer s H vs Q E hr h => ?_)
  · obtain ⟨l_p, l_many, b, rfl, _⟩ := h; rfl
  · obtain ⟨l_p, l_many, b, rfl, B0, hpre0, hpre1, q⟩ := h
    refine ⟨_, (pss_one (ps_ret (pe_callTy (call_tuple_ofK K) (by rfl) n_tuple (by decide +kernel) (pa_cons (pe_lc (own := [("_law_k", 3)]) (by rfl) sc__law_numbers.nd (pi_range1 (by rfl) n_range (pa_cons (pv 2) pa_nil)) (blkOk_by (own := [("_law_k", 3)]) (N := ["_law_bag_here", "_law_p", "_law_many", "_law_k"]) (sc := defScope s__law_numbers) (by decide +kernel)) (fun _ _ _ _ _ => (pg_name (i := 3) sc__law_numbers.nd rfl (Or.inl rfl))) (fun _ _ _ _ _ => pts_nil) (fun _ _ _ _ _ => (pe_call D__law_take.ok (hr.mono (by omega)) (by rfl) D__law_take.g D__law_take.kp D__law_take.b .nil pass0 (pa_cons (pv 0) (pa_cons (pv 1) pa_nil))))) pa_nil)))), ?_⟩
    have F0 : C1 b H H := C1.refl b H
    refine s_ret0 ?_
    refine go_cbA ?_
    refine go_cons ?_
    refine go_lcR1B (K := K) (R := rI) ((fun y => 0 ≤ y ∧ y < l_p)) B0 er_iv ⟨by omega, by omega⟩ (fun _ => rfl) (fun x1 H2 C3 c4 B5 hx6 k7 => ?_) fun p8 H9 ys13 n10 c11 B12 hl14 hy15 l16 => ?_
    ·
      have kt17 : Kt K _ _ := Bag.kt B0 c4
      replace F0 := F0.trans c4
      replace B0 := B5
      have G0 : C1 b _ _ := C1.refl b H2
      refine go_callA ?_
      refine go_cons ?_
      refine ⟨_, rfl, ?_⟩
      refine go_cons ?_
      refine ⟨_, rfl, ?_⟩
      refine go_nil ?_
      refine ⟨b, _, rfl, B0, (by first | assumption | omega | (simp only [List.length_append, List.length_cons, List.length_nil, List.length_map, List.length_range, List.length_set, rng_len, enm_len, repL_len] at *; omega)), (by first | assumption | omega | (simp only [List.length_append, List.length_cons, List.length_nil, List.length_map, List.length_range, List.length_set, rng_len, enm_len, repL_len] at *; omega)), fun y21 H20 c22 B23 hqy21_0 => ?_⟩
      have kt24 : Kt K _ _ := Bag.kt B0 c22
      replace F0 := F0.trans c22
      replace B0 := B23
      replace G0 := G0.trans c22
      exact k7 _ _ y21 G0 B0 rfl (by first | assumption | omega | (simp only [List.length_append, List.length_cons, List.length_nil, List.length_map, List.length_range, List.length_set, rng_len, enm_len, repL_len] at *; omega))
    have nebp8 : b ≠ p8 := B0.ne n10
    have n0p8 : H p8 = none := fb F0 B0 n10
    have kt25 : Kt K _ _ := Bag.kt B0 c11
    replace F0 := F0.trans c11
    replace B0 := B12
    refine go_nil ?_
    refine go_R (R := (rT K rI)) (er_tupL (er_K (Lt.rl l16))) fun v29 H27 e28 f30 => ?_
    replace B0 := Bag.ex B0 e28
    replace l16 := Lt.ex l16 e28
    replace F0 := F0.trans (C1.ex e28)
    exact q _ v29 _ F0 B0 f30 (by first | assumption | omega | (simp only [List.length_append, List.length_cons, List.length_nil, List.length_map, List.length_range, List.length_set, rng_len, enm_len, repL_len] at *; omega)) (by first | assumption | omega | (simp only [List.length_append, List.length_cons, List.length_nil, List.length_map, List.length_range, List.length_set, rng_len, enm_len, repL_len] at *; omega))

def m__law_trimmed (l_numbers_here : (List Int)) : (List Int) := (cutL l_numbers_here none (some ((mxD (0 : Int) (((((rng 0 (l_numbers_here.length : Int))).filter fun x3 => (!decide ((gt0 (0 : Int) l_numbers_here x3) = (0 : Int)))).map fun x3 => (x3 + (1 : Int))))))))
def sp__law_trimmed (K : PySem.W.Frag) : Sp := fun vs H Q _ => ∃ (l_numbers_here : (List Int)) (v_l_numbers_here : V), (vs = [v_l_numbers_here]) ∧ ((rT K rI) H l_numbers_here v_l_numbers_here) ∧ (l_numbers_here.length ≤ 1000) ∧ (∀ (v : V) H', Ex H H' → (rT K rI) H' (m__law_trimmed l_numbers_here) v → Q v H')
section
variable {K : PySem.W.Frag}
theorem gv__law_trimmed {l_numbers_here : (List Int)} (h0 : l_numbers_here.length ≤ 1000) : Gv (sp__law_trimmed K) (Ac (rT K rI) l_numbers_here A0) (rT K rI) (m__law_trimmed l_numbers_here) := by
  intro vs H1 hp Q E k
  obtain ⟨v0, w0, rfl, f0, hp⟩ := hp
  cases hp
  exact ⟨_, v0, rfl, f0, h0, fun v H2 e r => k v H2 e r⟩
end
theorem ok__law_trimmed {f : Addr} {fd : FuncData} (F : Fun K "_law_trimmed" "_law_trimmed" s__law_trimmed f fd) (n_max : mg "max" = none) (n_tuple : mg "tuple" = none) (n_range : mg "range" = none) (n_len : mg "len" = none) : FnOk P w K mg base CX0 1 f fd ["_law_numbers_here"] (sp__law_trimmed K) := by
  refine F.ok sc__law_trimmed (fun vs H Q E h => ?_) (fun cdv A outer s H vs Q E hr h => ?_)
  · obtain ⟨l_numbers_here, v_l_numbers_here, rfl, _⟩ := h; rfl
  · obtain ⟨l_numbers_here, v_l_numbers_here, rfl, f_l_numbers_here, hpre0, q⟩ := h
    refine ⟨_, (pss_cons (ps_set (i := 1) sc__law_trimmed.nd rfl (Or.inl rfl) (pe_maxdK K (by rfl) n_max (by decide +kernel) hr.units rfl (pe_lc (own := [("_law_k", 2)]) (by rfl) sc__law_trimmed.nd (pi_range1 (by rfl) n_range (pa_cons (pe_callB (call_len_seqK K) (by rfl) n_len (by decide +kernel) (pa_cons (pv 0) pa_nil)) pa_nil)) (blkOk_by (own := [("_law_k", 2)]) (N := ["_law_numbers_here", "_law_many", "_law_k"]) (sc := defScope s__law_trimmed) (by decide +kernel)) (fun _ _ _ _ _ => (pg_name (i := 2) sc__law_trimmed.nd rfl (Or.inl rfl))) (fun _ _ _ _ _ => (pts_one (pt_cmpR op_ne (pe_ix (ix_tupK K) (pv 0) (pv 2) (fun _ _ => rfl)) pe_int (nomark _)))) (fun _ _ _ _ _ => (pe_op op_add (pv 2) pe_int))) pe_int))
 (pss_one (ps_ret (pe_callTy (call_tuple_ofK K) (by rfl) n_tuple (by decide +kernel) (pa_cons (pe_slice (sl_tupAK K) (pv 0) po_none (po_some (pv 1))) pa_nil))))), ?_⟩
    have F0 : Ex H H := Ex.refl H
    refine q_asgI (er_maxd (El.er (K := K) (el_lcR1c (K := K) (er_lenT (er_var rfl f_l_numbers_here)) (by first | omega | assumption | (simp only [List.length_append, List.length_cons, List.length_nil, List.length_map, List.length_range, List.length_set, rng_len, enm_len, repL_len] at *; omega)) (fun _ => rfl) (fun x3 H1 e4 hx5 => (et_t (er_neI (er_ixT0 (0 : Int) (er_var rfl (Me.ex e4 f_l_numbers_here)) er_iv (by first | omega | assumption | (simp; omega) | (simp only [List.length_append, List.length_cons, List.length_nil, List.length_map, List.length_range, List.length_set, rng_len, enm_len, repL_len] at *; omega)) (by first | omega | assumption | (simp; omega) | (simp only [List.length_append, List.length_cons, List.length_nil, List.length_map, List.length_range, List.length_set, rng_len, enm_len, repL_len] at *; omega))) er_int))) (fun x3 H1 e4 hx5 => fun hc6 => (er_op0 er_iv er_int)))) er_int) fun H1 e2 => ?_
    replace f_l_numbers_here := Me.ex e2 f_l_numbers_here
    replace F0 := F0.trans e2
    refine s_ret (R := (rT K rI)) (er_tupT (er_slT (er_var rfl f_l_numbers_here) eo0 (eo1 er_iv))) fun v H' e r => ?_
    exact q v H' (F0.trans e) (by exact r)

end
section
theorem trimT (xs : List Int) : ∃ m : Nat, m__law_trimmed xs = xs.take m ∧ m ≤ xs.length ∧ ∀ i : Nat, i < xs.length → gt0 (0 : Int) xs i ≠ 0 → i < m := by
  obtain ⟨m, e, hm, _⟩ := mxT (n := xs.length) (c := fun x3 => (!decide ((gt0 (0 : Int) xs x3) = (0 : Int))))
  refine ⟨m, ?_, hm, fun i hi hne => ?_⟩
  · unfold m__law_trimmed
    rw [e, cutL_hi]
  · have hmem : ((i : Int) + 1) ∈ (((rng 0 (xs.length : Int)).filter fun x3 => (!decide ((gt0 (0 : Int) xs x3) = (0 : Int)))).map fun x3 => x3 + 1) := by
      refine List.mem_map.mpr ⟨(i : Int), List.mem_filter.mpr ⟨rng_in (by omega), by simp [hne]⟩, rfl⟩
    cases hz : (((rng 0 (xs.length : Int)).filter fun x3 => (!decide ((gt0 (0 : Int) xs x3) = (0 : Int)))).map fun x3 => x3 + 1) with
    | nil => rw [hz] at hmem; cases hmem
    | cons a r =>
      rw [hz] at hmem e
      have e2 : mxI a r = (m : Int) := e
      have h := mxI_le r a
      rcases List.mem_cons.mp hmem with h1 | h1
      · have := h.1
        omega
      · have := h.2 _ h1
        omega
theorem trim_nz2 {xs : List Int} (h : nzP xs) : nzP (m__law_trimmed xs) := by
  obtain ⟨x, hx, hne⟩ := h
  obtain ⟨i, hi⟩ := List.getElem?_of_mem hx
  have hl := (List.getElem?_eq_some_iff.mp hi).1
  obtain ⟨m, e, hm, hc⟩ := trimT xs
  have h2 := hc i hl (by rw [gt0_nat, hi]; exact hne)
  rw [e]
  exact ⟨x, List.mem_iff_getElem?.mpr ⟨i, by rw [List.getElem?_take_of_lt h2]; exact hi⟩, hne⟩
theorem trim_or (xs : List Int) : m__law_trimmed xs = [] ∨ nzP (m__law_trimmed xs) := by
  by_cases h : nzP xs
  · exact .inr (trim_nz2 h)
  · left
    unfold m__law_trimmed
    have hz : (((rng 0 (xs.length : Int)).filter fun x3 => (!decide ((gt0 (0 : Int) xs x3) = (0 : Int)))).map fun x3 => x3 + 1) = [] := by
      rw [List.map_eq_nil_iff, List.filter_eq_nil_iff]
      intro x hx
      obtain ⟨i, hi⟩ := List.getElem?_of_mem hx
      have hr := rng_at hi
      have : gt0 (0 : Int) xs x = 0 := by
        apply Classical.byContradiction
        intro hne
        exact h ⟨_, List.mem_of_getElem? (gt0_some (d := (0 : Int)) (by omega) hr.2.2), hne⟩
      simp [this]
    rw [hz, show mxD 0 [] = ((0 : Nat) : Int) from rfl, cutL_hi, List.take_zero]
theorem trim_mem {xs : List Int} {x : Int} (h : x ∈ m__law_trimmed xs) : x ∈ xs := by
  obtain ⟨m, e, _⟩ := trimT xs
  rw [e] at h
  exact List.mem_of_mem_take h
theorem trim_le (xs : List Int) : (m__law_trimmed xs).length ≤ xs.length := by
  unfold m__law_trimmed
  exact cutL_len _ _ _
theorem rep0_mem {p k x : Int} (hp : 0 < p) (h : x ∈ repL [(0 : Int)] k) : 0 ≤ x ∧ x < p := by
  rw [repL_one] at h
  have := (List.mem_replicate.mp h).2
  omega
theorem low_ok {p k : Int} {ys : List Int} (h : ∀ x ∈ ys, 0 ≤ x ∧ x < p) (hp : 0 < p) : LowOk p (m__law_trimmed (cutL (repL [(0 : Int)] k ++ ys) none (some 8))) := by
  have e8 : cutL (repL [(0 : Int)] k ++ ys) none (some 8) = (repL [(0 : Int)] k ++ ys).take 8 := cutL_hi 8
  rw [e8]
  refine ⟨?_, trim_or _, fun c hc => ?_⟩
  · have := trim_le ((repL [(0 : Int)] k ++ ys).take 8)
    rw [List.length_take] at this
    omega
  · rcases List.mem_append.mp (List.mem_of_mem_take (trim_mem hc)) with h1 | h1
    · exact rep0_mem hp h1
    · exact h c h1
theorem pwG_mk {p k r : Int} {zs : List Int} {ys : List (List Int)} (hp : Pr p) (hk : 0 ≤ k ∧ k < 4) (hr : 0 ≤ r ∧ r < p - 1) (hz : ∀ x ∈ zs, 0 ≤ x ∧ x < p) (hzl : zs.length ≤ 4) (hy : ∀ y ∈ ys, LowOk p y) (hn : ys.length ≤ 3) : PwG p ([m__law_trimmed ((repL [(0 : Int)] k ++ [1 + r]) ++ zs)] ++ ys) := by
  have hp2 := hp.le
  have nz : nzP (m__law_trimmed ((repL [(0 : Int)] k ++ [1 + r]) ++ zs)) := trim_nz2 ⟨1 + r, by simp, by omega⟩
  have hl : (m__law_trimmed ((repL [(0 : Int)] k ++ [1 + r]) ++ zs)).length ≤ 8 := by
    refine Nat.le_trans (trim_le _) ?_
    rw [List.length_append, List.length_append, repL_len]
    simp only [List.length_cons, List.length_nil]
    omega
  refine ⟨⟨hp, ⟨by simp, by simp; omega, fun z hz2 hne => ?_, ?_⟩, fun a ha c hc => ?_⟩, hl⟩
  · rcases List.mem_append.mp hz2 with h1 | h1
    · rw [List.mem_singleton.mp h1]
      exact ⟨nz, by omega⟩
    · obtain ⟨h2, h3, h4⟩ := hy z h1
      exact ⟨h3.resolve_left hne, by omega⟩
  · show m__law_trimmed ((repL [(0 : Int)] k ++ [1 + r]) ++ zs) ≠ []
    intro z
    rw [z] at nz
    obtain ⟨x, hx, _⟩ := nz
    cases hx
  · rcases List.mem_append.mp ha with h1 | h1
    · rw [List.mem_singleton.mp h1] at hc
      rcases List.mem_append.mp (trim_mem hc) with h2 | h2
      · rcases List.mem_append.mp h2 with h3 | h3
        · exact rep0_mem (by omega) h3
        · rw [List.mem_singleton.mp h3]; omega
      · exact hz c h2
    · exact (hy a h1).2.2 c hc
/-- what settles, few -/
theorem fold_hi2 {p : Int} {pw : List (List Int)} (hp : 2 ≤ p) {b : Int} (hb : 0 ≤ b) (ho : (ordL (gt0 [] pw 0) : Int) ≤ b) : ∀ (t : List (List Int)) (found far : Int), 1 ≤ far → found ≤ b + 1 → (List.foldl (st_settled_known_1 p pw) (found, far) t).1 ≤ b + 1
  | [], found, far, hf, h => h
  | a :: t, found, far, hf, h => by
    have hd : 1 < far * p := Int.lt_of_lt_of_le (by omega) (Int.mul_le_mul hf hp (by omega) (by omega))
    rw [List.foldl_cons]
    have e2 : (st_settled_known_1 p pw (found, far) a) = ((st_settled_known_1 p pw (found, far) a).1, far * p) := rfl
    rw [e2]
    refine fold_hi2 hp hb ho t _ _ (by omega) ?_
    rw [st1]
    split
    · exact h
    · have h2 : (b + 1) * 1 ≤ (b + 1) * (far * p - 1) := Int.mul_le_mul_of_nonneg_left (by omega) (by omega)
      have h1 : ((ordL (gt0 [] pw 0) : Int) - (ordL a : Int)) / (far * p - 1) < b + 1 := Int.ediv_lt_of_lt_mul (by omega) (by omega)
      unfold mx2
      split <;> omega
theorem PwG.least {p : Int} {pw : List (List Int)} (h : PwG p pw) : 0 ≤ m_settled_known p pw ∧ m_settled_known p pw ≤ 8 ∧ ld pw ≤ 7 := by
  have h1 := ord_lt h.ok.first.1
  have h2 := h.len0
  have h3 : ld pw ≤ 7 := by
    show ordL (gt0 [] pw 0) ≤ 7
    have h4 : (gt0 [] pw 0).length ≤ 8 := h2
    omega
  refine ⟨(settled_law h.pr.le h.ok).1, ?_, h3⟩
  have hm : m_settled_known p pw = (List.foldl (st_settled_known_1 p pw) (0, 1) (pw.drop 1)).1 := by unfold m_settled_known; rw [cutL_one]
  rw [hm]
  exact fold_hi2 (b := 7) h.pr.le.1 (by decide) (by show (ld pw : Int) ≤ 7; omega) (pw.drop 1) 0 1 (by omega) (by omega)
end
section
variable {P : Program} {w : World} {K : PySem.W.Frag} {mg : Str → Option Value} {base : Heap}
def sp__law_low_poly (K : PySem.W.Frag) : Sp := fun vs H Q _ => ∃ (l_p : Int) (l_most : Int) (b : Addr), (vs = [.ref b, .int l_p, .int l_most]) ∧ (Bag H b) ∧ (2 ≤ l_p ∧ l_p ≤ 5) ∧ (0 < l_most ∧ l_most ≤ 20) ∧ (∀ (r : (List Int)) (v : V) H', C1 b H H' → Bag H' b → (rT K rI) H' r v → (LowOk l_p r) → Q v H')
theorem ok__law_low_poly {f : Addr} {fd : FuncData} (F : Fun K "_law_low_poly" "_law_low_poly" s__law_low_poly f fd) (D__law_trimmed : Df P w K mg base CX0 1 "_law_trimmed" ["_law_numbers_here"] (sp__law_trimmed K)) (D__law_numbers : Df P w K mg base CX0 2 "_law_numbers" ["_law_bag_here", "_law_p", "_law_many"] (sp__law_numbers K)) (D__law_take : Df P w K mg base CX0 1 "_law_take" ["_law_bag_here", "_law_many"] (sp__law_take K)) : FnOk P w K mg base CX0 3 f fd ["_law_bag_here", "_law_p", "_law_most"] (sp__law_low_poly K) := by
  refine F.ok sc__law_low_poly (fun vs H Q E h => ?_) (fun cdv A outer s H vs Q E hr h => ?_)
  · obtain ⟨l_p, l_most, b, rfl, _⟩ := h; rfl
  · obtain ⟨l_p, l_most, b, rfl, B0, hpre0, hpre1, q⟩ := h
    refine ⟨_, (pss_cons (ps_set (i := 3) sc__law_low_poly.nd rfl (Or.inl rfl) (pe_op (op_catAK K) (pe_op (op_repTAK K) (pe_tup (pa_cons pe_int pa_nil)) (pe_call D__law_take.ok (hr.mono (by omega)) (by rfl) D__law_take.g D__law_take.kp D__law_take.b .nil pass0 (pa_cons (pv 0) (pa_cons (pv 2) pa_nil)))) (pe_call D__law_numbers.ok (hr.mono (by omega)) (by rfl) D__law_numbers.g D__law_numbers.kp D__law_numbers.b .nil pass0 (pa_cons (pv 0) (pa_cons (pv 1) (pa_cons (pe_call D__law_take.ok (hr.mono (by omega)) (by rfl) D__law_take.g D__law_take.kp D__law_take.b .nil pass0 (pa_cons (pv 0) (pa_cons (pe_op op_add (pv 2) pe_int) pa_nil))) pa_nil))))))
 (pss_one (ps_ret (pe_call D__law_trimmed.ok (hr.mono (by omega)) (by rfl) D__law_trimmed.g D__law_trimmed.kp D__law_trimmed.b .nil pass0 (pa_cons (pe_slice (sl_tupAK K) (pv 3) po_none (po_some pe_int)) pa_nil))))), ?_⟩
    have F0 : C1 b H H := C1.refl b H
    refine q_asg0 ?_
    refine go_opK ?_
    refine go_opK ?_
    refine go_R (R := (rT K rI)) (er_tup (eas er_int eas0) (by first | decide | simp)) fun v3 H1 e2 f4 => ?_
    replace B0 := Bag.ex B0 e2
    replace F0 := F0.trans (C1.ex e2)
    refine go_callA ?_
    refine go_cons ?_
    refine ⟨_, rfl, ?_⟩
    refine go_cons ?_
    refine ⟨_, rfl, ?_⟩
    refine go_nil ?_
    refine ⟨b, _, rfl, B0, (by first | assumption | omega | (simp only [List.length_append, List.length_cons, List.length_nil, List.length_map, List.length_range, List.length_set, rng_len, enm_len, repL_len] at *; omega)), (by first | assumption | omega | (simp only [List.length_append, List.length_cons, List.length_nil, List.length_map, List.length_range, List.length_set, rng_len, enm_len, repL_len] at *; omega)), fun y9 H8 c10 B11 hqy9_0 => ?_⟩
    have kt12 : Kt K _ _ := Bag.kt B0 c10
    replace f4 := Mkt.kt kt12 f4
    replace F0 := F0.trans c10
    replace B0 := B11
    refine go_R (R := (rT K rI)) (er_repT (er_K f4) er_iK ⟨by omega, by omega⟩ (by first | decide | omega)) fun v16 H14 e15 f17 => ?_
    replace B0 := Bag.ex B0 e15
    replace f4 := Me.ex e15 f4
    replace F0 := F0.trans (C1.ex e15)
    refine go_callA ?_
    refine go_cons ?_
    refine ⟨_, rfl, ?_⟩
    refine go_cons ?_
    refine ⟨_, rfl, ?_⟩
    refine go_cons ?_
    refine go_callA ?_
    refine go_cons ?_
    refine ⟨_, rfl, ?_⟩
    refine go_cons ?_
    refine go_I (er_op0 er_iv er_int) fun H22 e23 => ?_
    replace B0 := Bag.ex B0 e23
    replace f17 := Me.ex e23 f17
    replace F0 := F0.trans (C1.ex e23)
    refine go_nil ?_
    refine ⟨b, _, rfl, B0, (by first | assumption | omega | (simp only [List.length_append, List.length_cons, List.length_nil, List.length_map, List.length_range, List.length_set, rng_len, enm_len, repL_len] at *; omega)), (by first | assumption | omega | (simp only [List.length_append, List.length_cons, List.length_nil, List.length_map, List.length_range, List.length_set, rng_len, enm_len, repL_len] at *; omega)), fun y26 H25 c27 B28 hqy26_0 => ?_⟩
    have kt29 : Kt K _ _ := Bag.kt B0 c27
    replace f17 := Mkt.kt kt29 f17
    replace F0 := F0.trans c27
    replace B0 := B28
    refine go_nil ?_
    refine ⟨_, _, b, rfl, B0, (by first | assumption | omega | (simp only [List.length_append, List.length_cons, List.length_nil, List.length_map, List.length_range, List.length_set, rng_len, enm_len, repL_len] at *; omega)), (by first | assumption | omega | (simp only [List.length_append, List.length_cons, List.length_nil, List.length_map, List.length_range, List.length_set, rng_len, enm_len, repL_len] at *; omega)), fun y32 v35 H31 c33 B34 f36 hqy32_0 hqy32_1 => ?_⟩
    have kt37 : Kt K _ _ := Bag.kt B0 c33
    replace f17 := Mkt.kt kt37 f17
    replace F0 := F0.trans c33
    replace B0 := B34
    refine go_R (R := (rT K rI)) (er_catT (er_K f17) (er_K f36) (by first | omega | assumption | (simp only [List.length_append, List.length_cons, List.length_nil, List.length_map, List.length_range, List.length_set, rng_len, enm_len, repL_len] at *; omega))) fun v41 H39 e40 f42 => ?_
    replace B0 := Bag.ex B0 e40
    replace f17 := Me.ex e40 f17
    replace f36 := Me.ex e40 f36
    replace F0 := F0.trans (C1.ex e40)
    refine s_ret0 ?_
    refine go_R (R := (rT K rI)) (er_call (eac (er_slT (er_var rfl f42) eo0 (eo1 er_int)) ea0) (gv__law_trimmed (Nat.le_trans (cutL_len _ _ _) (by first | assumption | omega | (simp only [List.length_append, List.length_cons, List.length_nil, List.length_map, List.length_range, List.length_set, rng_len, enm_len, repL_len] at *; omega))))) fun v45 H43 e44 f46 => ?_
    replace B0 := Bag.ex B0 e44
    replace f42 := Me.ex e44 f42
    replace F0 := F0.trans (C1.ex e44)
    exact q _ v45 _ F0 B0 f46 (low_ok (by assumption) (by omega))

def sp__law_powers (K : PySem.W.Frag) : Sp := fun vs H Q _ => ∃ (l_p : Int) (b : Addr), (vs = [.ref b, .int l_p]) ∧ (Bag H b) ∧ (Pr l_p) ∧ (∀ (r : (List (List Int))) (v : V) H', C1 b H H' → Bag H' b → (rT K (rT K rI)) H' r v → (PwG l_p r) → Q v H')
theorem ok__law_powers {f : Addr} {fd : FuncData} (F : Fun K "_law_powers" "_law_powers" s__law_powers f fd) (D__law_numbers : Df P w K mg base CX0 2 "_law_numbers" ["_law_bag_here", "_law_p", "_law_many"] (sp__law_numbers K)) (n_tuple : mg "tuple" = none) (D__law_take : Df P w K mg base CX0 1 "_law_take" ["_law_bag_here", "_law_many"] (sp__law_take K)) (D__law_trimmed : Df P w K mg base CX0 1 "_law_trimmed" ["_law_numbers_here"] (sp__law_trimmed K)) (D__law_low_poly : Df P w K mg base CX0 3 "_law_low_poly" ["_law_bag_here", "_law_p", "_law_most"] (sp__law_low_poly K)) (n_range : mg "range" = none) : FnOk P w K mg base CX0 4 f fd ["_law_bag_here", "_law_p"] (sp__law_powers K) := by
  refine F.ok sc__law_powers (fun vs H Q E h => ?_) (fun cdv A outer s H vs Q E hr h => ?_)
  · obtain ⟨l_p, b, rfl, _⟩ := h; rfl
  · obtain ⟨l_p, b, rfl, B0, hpre0, q⟩ := h
    refine ⟨_, (pss_cons (ps_set (i := 2) sc__law_powers.nd rfl (Or.inl rfl) (pe_op (op_catAK K) (pe_op (op_repTAK K) (pe_tup (pa_cons pe_int pa_nil)) (pe_call D__law_take.ok (hr.mono (by omega)) (by rfl) D__law_take.g D__law_take.kp D__law_take.b .nil pass0 (pa_cons (pv 0) (pa_cons pe_int pa_nil)))) (pe_tup (pa_cons (pe_op op_add pe_int (pe_call D__law_take.ok (hr.mono (by omega)) (by rfl) D__law_take.g D__law_take.kp D__law_take.b .nil pass0 (pa_cons (pv 0) (pa_cons (pe_op op_sub (pv 1) pe_int) pa_nil)))) pa_nil))))
 (pss_cons (ps_set (i := 3) sc__law_powers.nd rfl (Or.inl rfl) (pe_op (op_catAK K) (pv 2) (pe_call D__law_numbers.ok (hr.mono (by omega)) (by rfl) D__law_numbers.g D__law_numbers.kp D__law_numbers.b .nil pass0 (pa_cons (pv 0) (pa_cons (pv 1) (pa_cons (pe_call D__law_take.ok (hr.mono (by omega)) (by rfl) D__law_take.g D__law_take.kp D__law_take.b .nil pass0 (pa_cons (pv 0) (pa_cons pe_int pa_nil))) pa_nil))))))
 (pss_one (ps_ret (pe_op (op_catAK K) (pe_tup (pa_cons (pe_call D__law_trimmed.ok (hr.mono (by omega)) (by rfl) D__law_trimmed.g D__law_trimmed.kp D__law_trimmed.b .nil pass0 (pa_cons (pv 3) pa_nil)) pa_nil)) (pe_callTy (call_tuple_ofK K) (by rfl) n_tuple (by decide +kernel) (pa_cons (pe_lc (own := [("_law_turn", 4)]) (by rfl) sc__law_powers.nd (pi_range1 (by rfl) n_range (pa_cons (pe_call D__law_take.ok (hr.mono (by omega)) (by rfl) D__law_take.g D__law_take.kp D__law_take.b .nil pass0 (pa_cons (pv 0) (pa_cons pe_int pa_nil))) pa_nil)) (blkOk_by (own := [("_law_turn", 4)]) (N := ["_law_bag_here", "_law_p", "_law_lead", "_law_first", "_law_turn"]) (sc := defScope s__law_powers) (by decide +kernel)) (fun _ _ _ _ _ => (pg_name (i := 4) sc__law_powers.nd rfl (Or.inl rfl))) (fun _ _ _ _ _ => pts_nil) (fun _ _ _ _ _ => (pe_call D__law_low_poly.ok (hr.mono (by omega)) (by rfl) D__law_low_poly.g D__law_low_poly.kp D__law_low_poly.b .nil pass0 (pa_cons (pv 0) (pa_cons (pv 1) (pa_cons pe_int pa_nil)))))) pa_nil))))))), ?_⟩
    have F0 : C1 b H H := C1.refl b H
    have hp := hpre0.le
    refine q_asg0 ?_
    refine go_opK ?_
    refine go_opK ?_
    refine go_R (R := (rT K rI)) (er_tup (eas er_int eas0) (by first | decide | simp)) fun v3 H1 e2 f4 => ?_
    replace B0 := Bag.ex B0 e2
    replace F0 := F0.trans (C1.ex e2)
    refine go_callA ?_
    refine go_cons ?_
    refine ⟨_, rfl, ?_⟩
    refine go_cons ?_
    refine go_I er_int fun H7 e8 => ?_
    replace B0 := Bag.ex B0 e8
    replace f4 := Me.ex e8 f4
    replace F0 := F0.trans (C1.ex e8)
    refine go_nil ?_
    refine ⟨b, _, rfl, B0, (by first | assumption | omega | (simp only [List.length_append, List.length_cons, List.length_nil, List.length_map, List.length_range, List.length_set, rng_len, enm_len, repL_len] at *; omega)), (by first | assumption | omega | (simp only [List.length_append, List.length_cons, List.length_nil, List.length_map, List.length_range, List.length_set, rng_len, enm_len, repL_len] at *; omega)), fun y11 H10 c12 B13 hqy11_0 => ?_⟩
    have kt14 : Kt K _ _ := Bag.kt B0 c12
    replace f4 := Mkt.kt kt14 f4
    replace F0 := F0.trans c12
    replace B0 := B13
    refine go_R (R := (rT K rI)) (er_repT (er_K f4) er_iK ⟨by omega, by omega⟩ (by first | decide | omega)) fun v18 H16 e17 f19 => ?_
    replace B0 := Bag.ex B0 e17
    replace f4 := Me.ex e17 f4
    replace F0 := F0.trans (C1.ex e17)
    refine go_tupA ?_
    refine go_cons ?_
    refine go_opK ?_
    refine go_I er_int fun H21 e22 => ?_
    replace B0 := Bag.ex B0 e22
    replace f19 := Me.ex e22 f19
    replace F0 := F0.trans (C1.ex e22)
    refine go_callA ?_
    refine go_cons ?_
    refine ⟨_, rfl, ?_⟩
    refine go_cons ?_
    refine go_I (er_op0 er_iv er_int) fun H25 e26 => ?_
    replace B0 := Bag.ex B0 e26
    replace f19 := Me.ex e26 f19
    replace F0 := F0.trans (C1.ex e26)
    refine go_nil ?_
    refine ⟨b, _, rfl, B0, (by first | assumption | omega | (simp only [List.length_append, List.length_cons, List.length_nil, List.length_map, List.length_range, List.length_set, rng_len, enm_len, repL_len] at *; omega)), (by first | assumption | omega | (simp only [List.length_append, List.length_cons, List.length_nil, List.length_map, List.length_range, List.length_set, rng_len, enm_len, repL_len] at *; omega)), fun y29 H28 c30 B31 hqy29_0 => ?_⟩
    have kt32 : Kt K _ _ := Bag.kt B0 c30
    replace f19 := Mkt.kt kt32 f19
    replace F0 := F0.trans c30
    replace B0 := B31
    refine go_I (er_op0 er_iK er_iK) fun H34 e35 => ?_
    replace B0 := Bag.ex B0 e35
    replace f19 := Me.ex e35 f19
    replace F0 := F0.trans (C1.ex e35)
    refine go_nil ?_
    refine go_R (R := (rT K rI)) (er_tup (eas er_iK eas0) (by first | decide | simp)) fun v39 H37 e38 f40 => ?_
    replace B0 := Bag.ex B0 e38
    replace f19 := Me.ex e38 f19
    replace F0 := F0.trans (C1.ex e38)
    refine go_R (R := (rT K rI)) (er_catT (er_K f19) (er_K f40) (by first | omega | assumption | (simp only [List.length_append, List.length_cons, List.length_nil, List.length_map, List.length_range, List.length_set, rng_len, enm_len, repL_len] at *; omega))) fun v44 H42 e43 f45 => ?_
    replace B0 := Bag.ex B0 e43
    replace f19 := Me.ex e43 f19
    replace f40 := Me.ex e43 f40
    replace F0 := F0.trans (C1.ex e43)
    refine q_asg0 ?_
    refine go_opK ?_
    refine ⟨_, rfl, ?_⟩
    refine go_callA ?_
    refine go_cons ?_
    refine ⟨_, rfl, ?_⟩
    refine go_cons ?_
    refine ⟨_, rfl, ?_⟩
    refine go_cons ?_
    refine go_callA ?_
    refine go_cons ?_
    refine ⟨_, rfl, ?_⟩
    refine go_cons ?_
    refine go_I er_int fun H50 e51 => ?_
    replace B0 := Bag.ex B0 e51
    replace f45 := Me.ex e51 f45
    replace F0 := F0.trans (C1.ex e51)
    refine go_nil ?_
    refine ⟨b, _, rfl, B0, (by first | assumption | omega | (simp only [List.length_append, List.length_cons, List.length_nil, List.length_map, List.length_range, List.length_set, rng_len, enm_len, repL_len] at *; omega)), (by first | assumption | omega | (simp only [List.length_append, List.length_cons, List.length_nil, List.length_map, List.length_range, List.length_set, rng_len, enm_len, repL_len] at *; omega)), fun y54 H53 c55 B56 hqy54_0 => ?_⟩
    have kt57 : Kt K _ _ := Bag.kt B0 c55
    replace f45 := Mkt.kt kt57 f45
    replace F0 := F0.trans c55
    replace B0 := B56
    refine go_nil ?_
    refine ⟨_, _, b, rfl, B0, (by first | assumption | omega | (simp only [List.length_append, List.length_cons, List.length_nil, List.length_map, List.length_range, List.length_set, rng_len, enm_len, repL_len] at *; omega)), (by first | assumption | omega | (simp only [List.length_append, List.length_cons, List.length_nil, List.length_map, List.length_range, List.length_set, rng_len, enm_len, repL_len] at *; omega)), fun y60 v63 H59 c61 B62 f64 hqy60_0 hqy60_1 => ?_⟩
    have kt65 : Kt K _ _ := Bag.kt B0 c61
    replace f45 := Mkt.kt kt65 f45
    replace F0 := F0.trans c61
    replace B0 := B62
    refine go_R (R := (rT K rI)) (er_catT (er_K f45) (er_K f64) (by first | omega | assumption | (simp only [List.length_append, List.length_cons, List.length_nil, List.length_map, List.length_range, List.length_set, rng_len, enm_len, repL_len] at *; omega))) fun v69 H67 e68 f70 => ?_
    replace B0 := Bag.ex B0 e68
    replace f45 := Me.ex e68 f45
    replace f64 := Me.ex e68 f64
    replace F0 := F0.trans (C1.ex e68)
    refine s_ret0 ?_
    refine go_opK ?_
    refine go_R (R := (rT K (rT K rI))) (er_tup (eas (er_call (eac (er_var rfl f70) ea0) (gv__law_trimmed (by first | assumption | omega | (simp only [List.length_append, List.length_cons, List.length_nil, List.length_map, List.length_range, List.length_set, rng_len, enm_len, repL_len] at *; omega)))) eas0) (by first | decide | simp)) fun v73 H71 e72 f74 => ?_
    replace B0 := Bag.ex B0 e72
    replace f45 := Me.ex e72 f45
    replace f70 := Me.ex e72 f70
    replace F0 := F0.trans (C1.ex e72)
    refine go_cbA ?_
    refine go_cons ?_
    refine lc_open ?_
    refine go_callA ?_
    refine go_cons ?_
    refine ⟨_, rfl, ?_⟩
    refine go_cons ?_
    refine go_I er_int fun H93 e94 => ?_
    replace B0 := Bag.ex B0 e94
    replace f45 := Me.ex e94 f45
    replace f70 := Me.ex e94 f70
    replace f74 := Me.ex e94 f74
    replace F0 := F0.trans (C1.ex e94)
    refine go_nil ?_
    refine ⟨b, _, rfl, B0, (by first | assumption | omega | (simp only [List.length_append, List.length_cons, List.length_nil, List.length_map, List.length_range, List.length_set, rng_len, enm_len, repL_len] at *; omega)), (by first | assumption | omega | (simp only [List.length_append, List.length_cons, List.length_nil, List.length_map, List.length_range, List.length_set, rng_len, enm_len, repL_len] at *; omega)), fun y97 H96 c98 B99 hqy97_0 => ?_⟩
    have kt100 : Kt K _ _ := Bag.kt B0 c98
    replace f45 := Mkt.kt kt100 f45
    replace f70 := Mkt.kt kt100 f70
    replace f74 := Mkt.kt kt100 f74
    replace F0 := F0.trans c98
    replace B0 := B99
    refine ⟨_, rfl, by omega, by omega, lcR1B (K := K) (R := (rT K rI)) (hi := y97) ((fun y => LowOk l_p y)) B0 (by omega) (fun _ => rfl) (fun x76 H77 C78 c79 B80 hx81 k82 => ?_) fun p83 H84 ys88 n85 c86 B87 hl89 hy90 l91 => ?_⟩
    ·
      have kt101 : Kt K _ _ := Bag.kt B0 c79
      replace f45 := Mkt.kt kt101 f45
      replace f70 := Mkt.kt kt101 f70
      replace f74 := Mkt.kt kt101 f74
      replace F0 := F0.trans c79
      replace B0 := B80
      have G0 : C1 b _ _ := C1.refl b H77
      refine go_callA ?_
      refine go_cons ?_
      refine ⟨_, rfl, ?_⟩
      refine go_cons ?_
      refine ⟨_, rfl, ?_⟩
      refine go_cons ?_
      refine go_I er_int fun H104 e105 => ?_
      replace B0 := Bag.ex B0 e105
      replace f45 := Me.ex e105 f45
      replace f70 := Me.ex e105 f70
      replace f74 := Me.ex e105 f74
      replace F0 := F0.trans (C1.ex e105)
      replace G0 := G0.trans (C1.ex e105)
      refine go_nil ?_
      refine ⟨_, _, b, rfl, B0, (by first | assumption | omega | (simp only [List.length_append, List.length_cons, List.length_nil, List.length_map, List.length_range, List.length_set, rng_len, enm_len, repL_len] at *; omega)), (by first | assumption | omega | (simp only [List.length_append, List.length_cons, List.length_nil, List.length_map, List.length_range, List.length_set, rng_len, enm_len, repL_len] at *; omega)), fun y108 v111 H107 c109 B110 f112 hqy108_0 => ?_⟩
      have kt113 : Kt K _ _ := Bag.kt B0 c109
      replace f45 := Mkt.kt kt113 f45
      replace f70 := Mkt.kt kt113 f70
      replace f74 := Mkt.kt kt113 f74
      replace F0 := F0.trans c109
      replace B0 := B110
      replace G0 := G0.trans c109
      exact k82 _ _ y108 G0 B0 f112 (by first | assumption | omega | (simp only [List.length_append, List.length_cons, List.length_nil, List.length_map, List.length_range, List.length_set, rng_len, enm_len, repL_len] at *; omega))
    have nebp83 : b ≠ p83 := B0.ne n85
    have n0p83 : H p83 = none := fb F0 B0 n85
    have kt114 : Kt K _ _ := Bag.kt B0 c86
    replace f45 := Mkt.kt kt114 f45
    replace f70 := Mkt.kt kt114 f70
    replace f74 := Mkt.kt kt114 f74
    replace F0 := F0.trans c86
    replace B0 := B87
    refine go_nil ?_
    refine go_R (R := (rT K (rT K rI))) (er_tupL (er_K (Lt.rl l91))) fun v118 H116 e117 f119 => ?_
    replace B0 := Bag.ex B0 e117
    replace f45 := Me.ex e117 f45
    replace f70 := Me.ex e117 f70
    replace f74 := Me.ex e117 f74
    replace l91 := Lt.ex l91 e117
    replace F0 := F0.trans (C1.ex e117)
    refine go_R (R := (rT K (rT K rI))) (er_catT (er_K f74) (er_K f119) (by first | omega | assumption | (simp only [List.length_append, List.length_cons, List.length_nil, List.length_map, List.length_range, List.length_set, rng_len, enm_len, repL_len] at *; omega))) fun v123 H121 e122 f124 => ?_
    replace B0 := Bag.ex B0 e122
    replace f45 := Me.ex e122 f45
    replace f70 := Me.ex e122 f70
    replace f74 := Me.ex e122 f74
    replace f119 := Me.ex e122 f119
    replace F0 := F0.trans (C1.ex e122)
    exact q _ v123 _ F0 B0 f124 (pwG_mk hpre0 (by assumption) (by assumption) (by assumption) (by omega) (by assumption) (by omega))

end
section
theorem cut_some {α : Type} {xs : List α} {m : Int} (h : 0 ≤ m) : cutL xs none (some m) = xs.take m.toNat := by
  obtain ⟨n, rfl⟩ : ∃ n : Nat, m = n := ⟨m.toNat, by omega⟩
  rw [cutL_hi, Int.toNat_natCast]
theorem mx2_le {x many : Int} {n : Nat} (h : x < mx2 many (n : Int)) (h1 : many ≤ 100) (h2 : n ≤ 100) : x < 100 := by
  unfold mx2 at h
  split at h <;> omega
theorem mx2_r {m many : Int} {n : Nat} (h1 : 0 ≤ m) (h2 : m ≤ 8) (h3 : 0 ≤ many ∧ many ≤ 100) (h4 : n ≤ 100) : -(2 ^ 62) ≤ m ∧ m < 2 ^ 62 ∧ -(2 ^ 62) ≤ mx2 many (n : Int) ∧ mx2 many (n : Int) < 2 ^ 62 := by
  unfold mx2
  split <;> omega
theorem bk_small {p b : Int} (hp : 2 ≤ p ∧ p ≤ 5) (h0 : 0 ≤ b) (h1 : b < p) : -(2 ^ 64) < -b ∧ -b < 2 ^ 64 := by omega
theorem fol_step {p : Int} {pw : List (List Int)} {s k0 : List Int} {i : Nat} {x : Int} (hs : s = fol p pw i k0) (hx : x = ((k0.length + i : Nat) : Int)) : s ++ [-bk p (lc pw) * sumAt p pw s (x + ld pw) % p] = fol p pw (i + 1) k0 := by
  subst hs
  show _ = fol p pw i k0 ++ [nx p pw (fol p pw i k0)]
  unfold nx
  rw [fol_len, hx]
theorem fol_at {m x : Int} {firsts : List Int} {i : Nat} (hm : 0 ≤ m) (hl : m.toNat ≤ firsts.length) (hx : x = m + (i : Int)) : x = (((cutL firsts none (some m)).length + i : Nat) : Int) := by
  rw [cut_some hm, List.length_take, Nat.min_eq_left hl]
  omega
theorem setE_n1 {p : Int} {pw : List (List Int)} {firsts : List Int} {n : Nat} (hm : 0 ≤ m_settled_known p pw)
    (h : ((rng 0 (m_settled_known p pw + (ordL (gt0 [] pw 0) : Int))).map fun x => !decide (sumAt p pw (cutL firsts none (some (m_settled_known p pw))) x = 0)).any id = true) : setE p pw firsts n = none := by
  unfold setE
  rw [cut_some hm] at h
  exact if_pos h
theorem setE_row {p many : Int} {pw : List (List Int)} {firsts s : List Int} (hm : 0 ≤ m_settled_known p pw) (h0 : 0 ≤ many)
    (hs : s = fol p pw (rng (m_settled_known p pw) (mx2 many (firsts.length : Int))).length (cutL firsts none (some (m_settled_known p pw)))) : s = rowOf p pw firsts (max many.toNat firsts.length) := by
  rw [hs, cut_some hm]
  unfold rowOf
  congr 1
  rw [rng_len]
  unfold mx2
  split <;> omega
theorem setE_not {p : Int} {pw : List (List Int)} {firsts : List Int} (hm : 0 ≤ m_settled_known p pw)
    (h : ((rng 0 (m_settled_known p pw + (ordL (gt0 [] pw 0) : Int))).map fun x => !decide (sumAt p pw (cutL firsts none (some (m_settled_known p pw))) x = 0)).any id = false) : ¬ ((rng 0 (m_settled_known p pw + ld pw)).map fun x => !decide (sumAt p pw (firsts.take (m_settled_known p pw).toNat) x = 0)).any id = true := by
  rw [cut_some hm] at h
  show ¬ ((rng 0 (m_settled_known p pw + (ordL (gt0 [] pw 0) : Int))).map fun x => !decide (sumAt p pw (firsts.take (m_settled_known p pw).toNat) x = 0)).any id = true
  rw [h]
  simp
theorem setE_n2 {p many : Int} {pw : List (List Int)} {firsts s : List Int} (hm : 0 ≤ m_settled_known p pw) (h0 : 0 ≤ many)
    (hs : s = fol p pw (rng (m_settled_known p pw) (mx2 many (firsts.length : Int))).length (cutL firsts none (some (m_settled_known p pw))))
    (h1 : ((rng 0 (m_settled_known p pw + (ordL (gt0 [] pw 0) : Int))).map fun x => !decide (sumAt p pw (cutL firsts none (some (m_settled_known p pw))) x = 0)).any id = false)
    (h2 : (!decide (cutL s none (some (firsts.length : Int)) = firsts)) = true) : setE p pw firsts many.toNat = none := by
  have e := setE_row hm h0 hs
  unfold setE
  rw [if_neg (setE_not hm h1), ← e, if_neg]
  rw [cutL_hi] at h2
  simpa using h2
theorem setE_s {p many : Int} {pw : List (List Int)} {firsts s : List Int} (hm : 0 ≤ m_settled_known p pw) (h0 : 0 ≤ many)
    (hs : s = fol p pw (rng (m_settled_known p pw) (mx2 many (firsts.length : Int))).length (cutL firsts none (some (m_settled_known p pw))))
    (h1 : ((rng 0 (m_settled_known p pw + (ordL (gt0 [] pw 0) : Int))).map fun x => !decide (sumAt p pw (cutL firsts none (some (m_settled_known p pw))) x = 0)).any id = false)
    (h2 : (!decide (cutL s none (some (firsts.length : Int)) = firsts)) = false) : setE p pw firsts many.toNat = some (cutL s none (some many)) := by
  have e := setE_row hm h0 hs
  unfold setE
  rw [if_neg (setE_not hm h1), ← e, if_pos, cut_some h0]
  rw [cutL_hi] at h2
  simpa using h2
theorem fol_next {p : Int} {pw : List (List Int)} {s b : List Int} {k : Nat} {x : Int} (hs : s = fol p pw k b) (hx : x = nx p pw s) : s ++ [x] = fol p pw (k + 1) b := by
  subst hs hx
  rfl
end
section
variable {P : Program} {w : World} {K : PySem.W.Frag} {mg : Str → Option Value} {base : Heap}
def st_settled_entries_1 (p : Int) (powers : (List (List Int))) (firsts : (List Int)) (many : Int) : (List Int) → Int → (List Int) := fun s1 x1 => ((s1 ++ [(((-((bk p (gt0 (0 : Int) (gt0 [] powers (0 : Int)) ((ordL (gt0 [] powers (0 : Int)) : Int)))))) * ((sumAt p powers s1 (x1 + ((ordL (gt0 [] powers (0 : Int)) : Int)))))) % p)]))
def sp_settled_entries (K : PySem.W.Frag) (C_NoPrime C_NoRow : Addr) : Sp := fun vs H Q E => ∃ (x v_powers v_firsts : V) (many : Int), vs = [x, v_powers, v_firsts, .int many] ∧ Th K H x ∧
  (isPr x = false → ∀ H', Ex H H' → E (.ref C_NoPrime) none H') ∧
  (∀ p : Int, x = .int p → Pr p → ∃ (powers : List (List Int)) (p_firsts : Addr) (firsts : List Int), v_firsts = .ref p_firsts ∧ rT K (rT K rI) H powers v_powers ∧ Lt rI H p_firsts firsts ∧ (0 ≤ many ∧ many ≤ 100) ∧ firsts.length ≤ 100 ∧
    PwG p powers ∧ (m_settled_known p powers).toNat ≤ firsts.length ∧ (∀ r, setE p powers firsts many.toNat = some r → ∀ l H', H l = none → Ex H H' → Lt rI H' l r → Q (.ref l) H') ∧ (setE p powers firsts many.toNat = none → ∀ H', Ex H H' → E (.ref C_NoRow) none H'))
theorem ok_settled_entries {f : Addr} {fd : FuncData} (F : Fun K "settled_entries" "settled_entries" s_settled_entries f fd) (D_look_prime : Df P w K mg base (L2.CX P w) 3 "look_prime" ["p"] (sp_look_prime K C_NoPrime)) (D_settled_known : Df P w K mg base CX0 2 "settled_known" ["p", "powers"] (sp_settled_known K)) (n_list : mg "list" = none) (D_order_of : Df P w K mg base CX0 1 "order_of" ["poly"] (sp_order_of K)) (n_any : mg "any" = none) (D_back_of : Df P w K mg base CX0 1 "back_of" ["p", "number"] (sp_back_of K)) (n_range : mg "range" = none) (n_len : mg "len" = none) (x_NoRow : Xc K mg "NoRow" C_NoRow) (n_max : mg "max" = none) (D_summed_at : Df P w K mg base CX0 1 "summed_at" ["p", "powers", "known", "place"] (sp_summed_at K)) : FnOk P w K mg base (L2.CX P w) 4 f fd ["p", "powers", "firsts", "many"] (sp_settled_entries K C_NoPrime C_NoRow) := by
  refine F.okX sc_settled_entries (fun vs H Q E h => ?_) (fun cdv A outer s H vs Q E hr h => ?_)
  · obtain ⟨x, v_powers, v_firsts, many, rfl, _⟩ := h; rfl
  · obtain ⟨x, v_powers, v_firsts, many, rfl, th, qP, qq⟩ := h
    refine ⟨_, (pss_cons (ps_expr (pe_call D_look_prime.ok (hr.mono (by omega)) (by rfl) D_look_prime.g D_look_prime.kp D_look_prime.b .nil (passes_call (takes_of rfl rfl rfl rfl) (fun _ _ _ _ h => h)) (pa_cons (pv 0) pa_nil)))
 (pss_cons (ps_set (i := 4) sc_settled_entries.nd rfl (Or.inl rfl) (pe_call D_settled_known.ok (hr.mono (by omega)) (by rfl) D_settled_known.g D_settled_known.kp D_settled_known.b .nil pass0 (pa_cons (pv 0) (pa_cons (pv 1) pa_nil))))
 (pss_cons (ps_if (pt_cmpR op_lt (pe_callB (call_len_seqK K) (by rfl) n_len (by decide +kernel) (pa_cons (pv 2) pa_nil)) (pv 4) (nomark _)) (pss_one (ps_raise rfl (takes_of rfl rfl rfl rfl) (pmk_own PySem.F.excBase_ValueError x_NoRow.x x_NoRow.g x_NoRow.kp (raises_own x_NoRow.sb x_NoRow.ty) rfl))) pss_nil)
 (pss_cons (ps_set (i := 5) sc_settled_entries.nd rfl (Or.inr rfl) (pe_callTy (call_list_ofK K) (by rfl) n_list (by decide +kernel) (pa_cons (pe_slice (sl_listK K) (pv 2) po_none (po_some (pv 4))) pa_nil)))
 (pss_cons (ps_set (i := 6) sc_settled_entries.nd rfl (Or.inl rfl) (pe_call D_order_of.ok (hr.mono (by omega)) (by rfl) D_order_of.g D_order_of.kp D_order_of.b .nil pass0 (pa_cons (pe_ix (ix_tupK K) (pv 1) pe_int (fun _ _ => rfl)) pa_nil)))
 (pss_cons (ps_if (pt_val (pe_callB (cr_anyK K rfl) (by rfl) n_any (by decide +kernel) (pa_cons (pe_lc (own := [("place", 8)]) (by rfl) sc_settled_entries.nd (pi_range1 (by rfl) n_range (pa_cons (pe_op op_add (pv 4) (pv 6)) pa_nil)) (blkOk_by (own := [("place", 8)]) (N := ["p", "powers", "firsts", "many", "least", "known", "lead", "back", "place"]) (sc := defScope s_settled_entries) (by decide +kernel)) (fun _ _ _ _ _ => (pg_name (i := 8) sc_settled_entries.nd rfl (Or.inl rfl))) (fun _ _ _ _ _ => pts_nil) (fun _ _ _ _ _ => (pe_cmpR op_ne (pe_call D_summed_at.ok (hr.mono (by omega)) (by rfl) D_summed_at.g D_summed_at.kp D_summed_at.b .nil pass0 (pa_cons (pv 0) (pa_cons (pv 1) (pa_cons (pv 5) (pa_cons (pv 8) pa_nil))))) pe_int (nomark _)))) pa_nil))) (pss_one (ps_raise rfl (takes_of rfl rfl rfl rfl) (pmk_own PySem.F.excBase_ValueError x_NoRow.x x_NoRow.g x_NoRow.kp (raises_own x_NoRow.sb x_NoRow.ty) rfl))) pss_nil)
 (pss_cons (ps_set (i := 7) sc_settled_entries.nd rfl (Or.inl rfl) (pe_call D_back_of.ok (hr.mono (by omega)) (by rfl) D_back_of.g D_back_of.kp D_back_of.b .nil pass0 (pa_cons (pv 0) (pa_cons (pe_ix (ix_tupK K) (pe_ix (ix_tupK K) (pv 1) pe_int (fun _ _ => rfl)) (pv 6) (fun _ _ => rfl)) pa_nil))))
 (pss_cons (ps_for (passes_of rfl) rfl (pi_range2 (by rfl) n_range (pa_cons (pv 4) (pa_cons (pe_callB (call_max2 rfl) (by rfl) n_max (by decide +kernel) (pa_cons (pv 3) (pa_cons (pe_callB (call_len_seqK K) (by rfl) n_len (by decide +kernel) (pa_cons (pv 2) pa_nil)) pa_nil))) pa_nil))) (pg_name (i := 8) sc_settled_entries.nd rfl (Or.inl rfl))
 (pss_one (ps_expr (pe_bm PySem.F.plainAttrs_list PySem.F.slot_list_append PySem.F.type_list_append mt_append (pv 5) (pa_cons (pe_op op_mod (pe_op op_mul (pe_un un_neg (pv 7)) (pe_call D_summed_at.ok (hr.mono (by omega)) (by rfl) D_summed_at.g D_summed_at.kp D_summed_at.b .nil pass0 (pa_cons (pv 0) (pa_cons (pv 1) (pa_cons (pv 5) (pa_cons (pe_op op_add (pv 8) (pv 6)) pa_nil)))))) (pv 0)) pa_nil)))))
 (pss_cons (ps_if (pt_cmpR (op_neDK K hr.units) (pe_slice (sl_listK K) (pv 5) po_none (po_some (pe_callB (call_len_seqK K) (by rfl) n_len (by decide +kernel) (pa_cons (pv 2) pa_nil)))) (pe_callTy (call_list_ofK K) (by rfl) n_list (by decide +kernel) (pa_cons (pv 2) pa_nil)) (nomark _)) (pss_one (ps_raise rfl (takes_of rfl rfl rfl rfl) (pmk_own PySem.F.excBase_ValueError x_NoRow.x x_NoRow.g x_NoRow.kp (raises_own x_NoRow.sb x_NoRow.ty) rfl))) pss_nil)
 (pss_one (ps_ret (pe_slice (sl_listK K) (pv 5) po_none (po_some (pv 3)))))))))))))), ?_⟩
    have F0 : Ex H H := Ex.refl H
    refine s_look rfl th (fun p0 hx0 h3 H0 e0 => ?_) qP
    replace F0 := F0.trans e0
    subst hx0
    have h3p := h3.pr
    clear h3
    generalize ((p0 : Nat) : Int) = p at *
    obtain ⟨powers, p_firsts, firsts, rfl, f_powers, f_firsts, hm, hfl, hG, hle, qs, qn⟩ := qq p rfl h3p
    replace f_powers := Me.ex e0 f_powers
    replace f_firsts := Lt.ex f_firsts e0
    have hp := hG.pr.le
    obtain ⟨hl1, hl2, hl3⟩ := hG.least
    have hF := hG.ok.first
    have hlt := ord_lt hF.1
    have hl3' : ordL (gt0 [] powers 0) ≤ 7 := hl3
    have h0l := hG.ok.1
    have hld : ordL (gt0 [] powers 0) = ld powers := rfl
    refine q_asgI (er_call (eac er_iv (eac (er_var rfl f_powers) ea0)) (gv_settled_known hp hG.ok)) fun H1 e2 => ?_
    replace f_powers := Me.ex e2 f_powers
    replace f_firsts := Lt.ex f_firsts e2
    replace F0 := F0.trans e2
    refine q_not (et_t (er_cmp (er_lenL (er_var rfl (Lt.rl f_firsts))) er_iv)) (decide_eq_false (by omega)) fun H3 e4 => ?_
    replace f_powers := Me.ex e4 f_powers
    replace f_firsts := Lt.ex f_firsts e4
    replace F0 := F0.trans e4
    refine q_asgL (el_listL (El.er (K := K) (el_sl (er_var rfl (Lt.rl f_firsts)) eo0 (eo1 er_iv)))) fun p7 H5 n8 e6 l9 => ?_
    have nep_firstsp7 : p_firsts ≠ p7 := f_firsts.ne n8
    have n0p7 : H p7 = none := fresh_back F0 n8
    replace f_powers := Me.ex e6 f_powers
    replace f_firsts := Lt.ex f_firsts e6
    replace F0 := F0.trans e6
    refine q_asgI (er_call (eac (er_ixT0 [] (er_var rfl f_powers) er_int (by first | omega | assumption | (simp; omega) | (simp only [List.length_append, List.length_cons, List.length_nil, List.length_map, List.length_range, List.length_set, rng_len, enm_len, repL_len] at *; omega)) (by first | omega | assumption | (simp; omega) | (simp only [List.length_append, List.length_cons, List.length_nil, List.length_map, List.length_range, List.length_set, rng_len, enm_len, repL_len] at *; omega))) ea0) (gv_order_of hF.1 hF.2)) fun H10 e11 => ?_
    replace f_powers := Me.ex e11 f_powers
    replace f_firsts := Lt.ex f_firsts e11
    replace l9 := Lt.ex l9 e11
    replace F0 := F0.trans e11
    refine q_when (et_b (er_any (El.er (K := K) (el_lcR1 (K := K) (er_op0 er_iv er_iv) (by first | omega | assumption | (simp only [List.length_append, List.length_cons, List.length_nil, List.length_map, List.length_range, List.length_set, rng_len, enm_len, repL_len] at *; omega)) (fun _ => rfl) (fun x12 H1 e13 hx14 => (er_neI (er_call (eac er_iv (eac (er_var rfl (Me.ex e13 f_powers)) (eacO rfl (Lt.ex l9 e13) (eac er_iv ea0)))) (gv_summed_at hG.toPwP (by first | assumption | omega | (simp only [List.length_append, List.length_cons, List.length_nil, List.length_map, List.length_range, List.length_set, rng_len, enm_len, repL_len] at *; omega)))) er_int)))))) (fun hb_1 H16 e17 => ?_) (fun hb_1 H16 e17 => ?_)
    ·
      have hb_1' := hb_1
      try simp only [Bool.and_eq_true, Bool.or_eq_true, Bool.not_eq_true', Bool.and_eq_false_iff, Bool.or_eq_false_iff, Bool.not_eq_false', decide_eq_true_eq, decide_eq_false_iff_not] at hb_1'
      replace f_powers := Me.ex e17 f_powers
      replace f_firsts := Lt.ex f_firsts e17
      replace l9 := Lt.ex l9 e17
      replace F0 := F0.trans e17
      exact qn (setE_n1 hl1 hb_1) _ F0
    have hb_1' := hb_1
    try simp only [Bool.and_eq_true, Bool.or_eq_true, Bool.not_eq_true', Bool.and_eq_false_iff, Bool.or_eq_false_iff, Bool.not_eq_false', decide_eq_true_eq, decide_eq_false_iff_not] at hb_1'
    replace f_powers := Me.ex e17 f_powers
    replace f_firsts := Lt.ex f_firsts e17
    replace l9 := Lt.ex l9 e17
    replace F0 := F0.trans e17
    refine q_asgI (er_call (eac er_iv (eac (er_ixT0 (0 : Int) (er_ixT0 [] (er_var rfl f_powers) er_int (by first | omega | assumption | (simp; omega) | (simp only [List.length_append, List.length_cons, List.length_nil, List.length_map, List.length_range, List.length_set, rng_len, enm_len, repL_len] at *; omega)) (by first | omega | assumption | (simp; omega) | (simp only [List.length_append, List.length_cons, List.length_nil, List.length_map, List.length_range, List.length_set, rng_len, enm_len, repL_len] at *; omega))) er_iv (by omega) (by omega)) ea0)) (gv_back_of hG.pr hG.lc_ok)) fun H18 e19 => ?_
    replace f_powers := Me.ex e19 f_powers
    replace f_firsts := Lt.ex f_firsts e19
    replace l9 := Lt.ex l9 e19
    replace F0 := F0.trans e19
    refine q_forR2 er_iv (er_mx2 er_iv (er_lenL (er_var rfl (Lt.rl f_firsts)))) (mx2_r hl1 hl2 hm hfl) fun H20 e21 => ?_
    replace f_powers := Me.ex e21 f_powers
    replace f_firsts := Lt.ex f_firsts e21
    replace l9 := Lt.ex l9 e21
    replace F0 := F0.trans e21
    have k22 : Kt K _ _ := Kt.refl H20
    refine fq_R (lo := (m_settled_known p powers)) (hi := (mx2 many ((firsts.length : Int)))) rfl (fun i σ' H' => ∃ (s1 : (List Int)) (j23 : Option V), s1 = List.foldl (st_settled_entries_1 p powers firsts many) ((cutL firsts none (some ((m_settled_known p powers))))) (List.take i ((rng (m_settled_known p powers) (mx2 many ((firsts.length : Int)))))) ∧ s1 = fol p powers i (cutL firsts none (some (m_settled_known p powers))) ∧ σ' = [some (.int p), some v_powers, some (.ref p_firsts), some (.int many), some (.int ((m_settled_known p powers))), some (.ref p7), some (.int (((ordL (gt0 [] powers (0 : Int)) : Int)))), some (.int (((bk p (gt0 (0 : Int) (gt0 [] powers (0 : Int)) ((ordL (gt0 [] powers (0 : Int)) : Int))))))), j23] ∧ Ex H H' ∧ Kt K H20 H' ∧ Lt rI H' p_firsts firsts ∧ Lt rI H' p7 s1) ?_ ?_ ?_
    · exact ⟨((cutL firsts none (some ((m_settled_known p powers))))), _, rfl, rfl, rfl, F0, k22, f_firsts, l9⟩
    ·
      rintro i x1  _ H24 hi hx1 ⟨s1, j23, hs1, hp1_0, rfl, F0, k22, f_firsts, l9⟩
      replace f_powers := Mkt.kt k22 f_powers
      have hr1 := rng_at hx1
      refine s_app (j := 5) l9 rfl (er_op (er_op (er_neg er_iv) (er_call (eac er_iv (eac (er_var rfl f_powers) (eacO rfl l9 (eac (er_op0 er_iv er_iv) ea0)))) (gv_summed_at hG.toPwP (by have := mx2_le hr1.2.2 hm.2 hfl; omega))) (cmul_l (by have := (bk_ok hG.pr hG.lc_ok).2; exact bk_small hp this.1 this.2.1))) er_iv (by omega)) (by have h1 := congrArg List.length hp1_0; rw [fol_len] at h1; have h2 := cutL_len firsts none (some (m_settled_known p powers)); have := mx2_le hr1.2.2 hm.2 hfl; omega) fun H25 c26 l27 => ?_
      have kt28 : Kt K _ _ := Lt.kt l9 c26
      replace k22 := k22.trans kt28
      replace f_powers := Mkt.kt kt28 f_powers
      replace f_firsts := Lt.keep f_firsts kt28 c26 (by first | assumption | exact Ne.symm (by assumption))
      replace F0 := C1.ofNew F0 n0p7 c26
      exact ⟨st_settled_entries_1 p powers firsts many s1 x1, _, fold_snoc hs1 hx1, (fol_step hp1_0 (fol_at hl1 hle hr1.1)), rfl, F0, k22, f_firsts, l27⟩
    rintro _ H29 ⟨s1, j23, hs1, hp1_0, rfl, F0, k22, f_firsts, l9⟩
    rw [take_all] at hs1; subst hs1
    replace f_powers := Mkt.kt k22 f_powers
    refine q_when (et_t (er_neD (K := K) (El.er (K := K) (el_sl (er_var rfl (Lt.rl l9)) eo0 (eo1 (er_lenL (er_var rfl (Lt.rl f_firsts)))))) (El.er (K := K) (el_listL (er_var rfl (Lt.rl f_firsts)))))) (fun hb_2 H30 e31 => ?_) (fun hb_2 H30 e31 => ?_)
    ·
      have hb_2' := hb_2
      try simp only [Bool.and_eq_true, Bool.or_eq_true, Bool.not_eq_true', Bool.and_eq_false_iff, Bool.or_eq_false_iff, Bool.not_eq_false', decide_eq_true_eq, decide_eq_false_iff_not] at hb_2'
      replace f_powers := Me.ex e31 f_powers
      replace f_firsts := Lt.ex f_firsts e31
      replace l9 := Lt.ex l9 e31
      replace F0 := F0.trans e31
      exact qn (setE_n2 hl1 hm.1 hp1_0 hb_1 hb_2) _ F0
    have hb_2' := hb_2
    try simp only [Bool.and_eq_true, Bool.or_eq_true, Bool.not_eq_true', Bool.and_eq_false_iff, Bool.or_eq_false_iff, Bool.not_eq_false', decide_eq_true_eq, decide_eq_false_iff_not] at hb_2'
    replace f_powers := Me.ex e31 f_powers
    replace f_firsts := Lt.ex f_firsts e31
    replace l9 := Lt.ex l9 e31
    replace F0 := F0.trans e31
    exact go_L (el_sl (er_var rfl (Lt.rl l9)) eo0 (eo1 er_iv)) fun p9 H9 n9 e9 l9 => qs _ (setE_s hl1 hm.1 hp1_0 hb_1 hb_2) p9 H9 (fresh_back F0 n9) (F0.trans e9) l9

end
section
variable {P : Program} {w : World} {K : PySem.W.Frag} {mg : Str → Option Value} {base : Heap}
def sp__law_followed (K : PySem.W.Frag) : Sp := fun vs H Q _ => ∃ (l_p : Int) (l_powers_here : (List (List Int))) (l_begin : (List Int)) (l_many : Int) (v_l_powers_here : V) (v_l_begin : V), (vs = [.int l_p, v_l_powers_here, v_l_begin, .int l_many]) ∧ ((rT K (rT K rI)) H l_powers_here v_l_powers_here) ∧ ((rQ K rI) H l_begin v_l_begin) ∧ (PwG l_p l_powers_here) ∧ (m_settled_known l_p l_powers_here ≤ l_begin.length) ∧ (l_begin.length ≤ l_many ∧ l_many ≤ 100) ∧ (∀ (p : Addr) H', H p = none → Ex H H' → Lt rI H' p (fol l_p l_powers_here (l_many.toNat - l_begin.length) l_begin) → Q (.ref p) H')
section
variable {K : PySem.W.Frag}
theorem gv__law_followed {l_p : Int} {l_powers_here : (List (List Int))} {l_begin : (List Int)} {l_many : Int} (h0 : PwG l_p l_powers_here) (h1 : m_settled_known l_p l_powers_here ≤ l_begin.length) (h2 : l_begin.length ≤ l_many ∧ l_many ≤ 100) : Gnl (sp__law_followed K) (Ac rI l_p (Ac (rT K (rT K rI)) l_powers_here (Ac (rQ K rI) l_begin (Ac rI l_many A0)))) rI (fol l_p l_powers_here (l_many.toNat - l_begin.length) l_begin) := by
  intro vs H1 hp Q E k
  obtain ⟨v0, w0, rfl, f0, hp⟩ := hp
  cases f0
  obtain ⟨v1, w1, rfl, f1, hp⟩ := hp
  obtain ⟨v2, w2, rfl, f2, hp⟩ := hp
  obtain ⟨v3, w3, rfl, f3, hp⟩ := hp
  cases f3
  cases hp
  exact ⟨_, _, _, _, v1, v2, rfl, f1, f2, h0, h1, h2, fun p H2 n e l => k p H2 n e l⟩
end
theorem ok__law_followed {f : Addr} {fd : FuncData} (F : Fun K "_law_followed" "_law_followed" s__law_followed f fd) (n_list : mg "list" = none) (n_len : mg "len" = none) (n_range : mg "range" = none) (D__law_sum_at : Df P w K mg base CX0 1 "_law_sum_at" ["_law_p", "_law_powers_here", "_law_known", "_law_place"] (sp__law_sum_at K)) : FnOk P w K mg base CX0 2 f fd ["_law_p", "_law_powers_here", "_law_begin", "_law_many"] (sp__law_followed K) := by
  refine F.ok sc__law_followed (fun vs H Q E h => ?_) (fun cdv A outer s H vs Q E hr h => ?_)
  · obtain ⟨l_p, l_powers_here, l_begin, l_many, v_l_powers_here, v_l_begin, rfl, _⟩ := h; rfl
  · obtain ⟨l_p, l_powers_here, l_begin, l_many, v_l_powers_here, v_l_begin, rfl, f_l_powers_here, f_l_begin, hpre0, hpre1, hpre2, q⟩ := h
    refine ⟨_, (pss_cons (ps_set (i := 4) sc__law_followed.nd rfl (Or.inl rfl) (pe_ix (ix_listK K) (pe_lc (own := [("_law_place", 6)]) (by rfl) sc__law_followed.nd (pi_range1 (by rfl) n_range (pa_cons (pe_callB (call_len_seqK K) (by rfl) n_len (by decide +kernel) (pa_cons (pe_ix (ix_tupK K) (pv 1) pe_int (fun _ _ => rfl)) pa_nil)) pa_nil)) (blkOk_by (own := [("_law_place", 6)]) (N := ["_law_p", "_law_powers_here", "_law_begin", "_law_many", "_law_lead", "_law_known", "_law_place", "_law_number"]) (sc := defScope s__law_followed) (by decide +kernel)) (fun _ _ _ _ _ => (pg_name (i := 6) sc__law_followed.nd rfl (Or.inl rfl))) (fun _ _ _ _ _ => (pts_one (pt_cmpR op_ne (pe_ix (ix_tupK K) (pe_ix (ix_tupK K) (pv 1) pe_int (fun _ _ => rfl)) (pv 6) (fun _ _ => rfl)) pe_int (nomark _)))) (fun _ _ _ _ _ => (pv 6))) pe_int (fun _ _ => rfl)))
 (pss_cons (ps_set (i := 5) sc__law_followed.nd rfl (Or.inr rfl) (pe_callTy (call_list_ofK K) (by rfl) n_list (by decide +kernel) (pa_cons (pv 2) pa_nil)))
 (pss_cons (ps_while PassesOwn.never (pt_cmpR op_lt (pe_callB (call_len_seqK K) (by rfl) n_len (by decide +kernel) (pa_cons (pv 5) pa_nil)) (pv 3) (nomark _)) (pss_cons (ps_set (i := 6) sc__law_followed.nd rfl (Or.inr rfl) (pe_op op_add (pe_callB (call_len_seqK K) (by rfl) n_len (by decide +kernel) (pa_cons (pv 5) pa_nil)) (pv 4)))
 (pss_one (ps_expr (pe_bm PySem.F.plainAttrs_list PySem.F.slot_list_append PySem.F.type_list_append mt_append (pv 5) (pa_cons (pe_ix (ix_listK K) (pe_lc (own := [("_law_number", 7)]) (by rfl) sc__law_followed.nd (pi_range1 (by rfl) n_range (pa_cons (pv 0) pa_nil)) (blkOk_by (own := [("_law_number", 7)]) (N := ["_law_p", "_law_powers_here", "_law_begin", "_law_many", "_law_lead", "_law_known", "_law_place", "_law_number"]) (sc := defScope s__law_followed) (by decide +kernel)) (fun _ _ _ _ _ => (pg_name (i := 7) sc__law_followed.nd rfl (Or.inl rfl))) (fun _ _ _ _ _ => (pts_one (pt_cmpR op_eq (pe_call D__law_sum_at.ok (hr.mono (by omega)) (by rfl) D__law_sum_at.g D__law_sum_at.kp D__law_sum_at.b .nil pass0 (pa_cons (pv 0) (pa_cons (pv 1) (pa_cons (pe_op op_cat (pv 5) (pe_lst (pa_cons (pv 7) pa_nil))) (pa_cons (pv 6) pa_nil))))) pe_int (nomark _)))) (fun _ _ _ _ _ => (pv 7))) pe_int (fun _ _ => rfl)) pa_nil))))))
 (pss_one (ps_ret (pv 5)))))), ?_⟩
    have F0 : Ex H H := Ex.refl H
    have hp := hpre0.pr.le
    have h0l := hpre0.ok.1
    obtain ⟨hl1, hl2, hl3⟩ := hpre0.least
    have hO := ordR hpre0.ok.first.1
    have hl0 : (gt0 [] l_powers_here 0).length ≤ 8 := hpre0.len0
    refine q_asgI (er_ixL0 (0 : Int) (El.er (K := K) (el_lcR1c (K := K) (er_lenT (er_ixT0 [] (er_var rfl f_l_powers_here) er_int (by first | omega | assumption | (simp; omega) | (simp only [List.length_append, List.length_cons, List.length_nil, List.length_map, List.length_range, List.length_set, rng_len, enm_len, repL_len] at *; omega)) (by first | omega | assumption | (simp; omega) | (simp only [List.length_append, List.length_cons, List.length_nil, List.length_map, List.length_range, List.length_set, rng_len, enm_len, repL_len] at *; omega)))) (by first | omega | assumption | (simp only [List.length_append, List.length_cons, List.length_nil, List.length_map, List.length_range, List.length_set, rng_len, enm_len, repL_len] at *; omega)) (fun _ => rfl) (fun x3 H1 e4 hx5 => (et_t (er_neI (er_ixT0 (0 : Int) (er_ixT0 [] (er_var rfl (Me.ex e4 f_l_powers_here)) er_int (by first | omega | assumption | (simp; omega) | (simp only [List.length_append, List.length_cons, List.length_nil, List.length_map, List.length_range, List.length_set, rng_len, enm_len, repL_len] at *; omega)) (by first | omega | assumption | (simp; omega) | (simp only [List.length_append, List.length_cons, List.length_nil, List.length_map, List.length_range, List.length_set, rng_len, enm_len, repL_len] at *; omega))) er_iv (by first | omega | assumption | (simp; omega) | (simp only [List.length_append, List.length_cons, List.length_nil, List.length_map, List.length_range, List.length_set, rng_len, enm_len, repL_len] at *; omega)) (by first | omega | assumption | (simp; omega) | (simp only [List.length_append, List.length_cons, List.length_nil, List.length_map, List.length_range, List.length_set, rng_len, enm_len, repL_len] at *; omega))) er_int))) (fun x3 H1 e4 hx5 => fun hc6 => er_iv))) er_int (by omega) (Int.ofNat_lt.mpr hO.2)) fun H1 e2 => ?_
    replace f_l_powers_here := Me.ex e2 f_l_powers_here
    replace f_l_begin := Me.ex e2 f_l_begin
    replace F0 := F0.trans e2
    rw [hO.1]
    refine q_asgL (el_listQ (er_var rfl f_l_begin)) fun p9 H7 n10 e8 l11 => ?_
    have n0p9 : H p9 = none := fresh_back F0 n10
    replace f_l_powers_here := Me.ex e8 f_l_powers_here
    replace f_l_begin := Me.ex e8 f_l_begin
    replace F0 := F0.trans e8
    have k12 : Kt K _ _ := Kt.refl H7
    refine q_while (fun m σ' H' => ∃ (k1_ : Nat) (s1 : (List Int)) (j13 : Option V), m = l_many.toNat - s1.length ∧ s1 = fol l_p l_powers_here k1_ l_begin ∧ s1.length ≤ l_many.toNat ∧ σ' = [some (.int l_p), some v_l_powers_here, (some v_l_begin), some (.int l_many), some (.int ((ld l_powers_here : Int))), some (.ref p9), j13, none] ∧ Ex H H' ∧ Kt K H7 H' ∧ Lt rI H' p9 s1) _ ⟨0, (l_begin), _, rfl, rfl, (by omega), rfl, F0, k12, l11⟩ ?_
    rintro _ _ H14 ⟨k1_, s1, j13, rfl, hw1_0, hw1_1, rfl, F0, k12, l11⟩
    replace f_l_powers_here := Mkt.kt k12 f_l_powers_here
    have hlen := congrArg List.length hw1_0
    rw [fol_len] at hlen
    have hN := nx_pick (l := s1) hpre0.toPwP (enough_ge hp (by omega))
    refine ⟨_, (et_t (er_cmp (er_lenL (er_var rfl (Lt.rl l11))) er_iv)), fun hb_1 H16 e15 => ?_, fun hb_1 H16 e15 => ?_⟩
    ·
      have hb_1' := hb_1
      try simp only [Bool.and_eq_true, Bool.or_eq_true, Bool.not_eq_true', Bool.and_eq_false_iff, Bool.or_eq_false_iff, Bool.not_eq_false', decide_eq_true_eq, decide_eq_false_iff_not] at hb_1'
      replace f_l_powers_here := Me.ex e15 f_l_powers_here
      replace l11 := Lt.ex l11 e15
      replace F0 := F0.trans e15
      replace k12 := k12.trans (Kt.ex e15)
      refine ⟨fun σ2 H2 => ∃ m', m' < l_many.toNat - s1.length ∧ (fun m σ' H' => ∃ (k1_ : Nat) (s1 : (List Int)) (j13 : Option V), m = l_many.toNat - s1.length ∧ s1 = fol l_p l_powers_here k1_ l_begin ∧ s1.length ≤ l_many.toNat ∧ σ' = [some (.int l_p), some v_l_powers_here, (some v_l_begin), some (.int l_many), some (.int ((ld l_powers_here : Int))), some (.ref p9), j13, none] ∧ Ex H H' ∧ Kt K H7 H' ∧ Lt rI H' p9 s1) m' σ2 H2, fun _ _ h => h, ?_⟩
      refine q_asgI (er_op0 (er_lenL (er_var rfl (Lt.rl l11))) er_iv) fun H17 e18 => ?_
      replace f_l_powers_here := Me.ex e18 f_l_powers_here
      replace l11 := Lt.ex l11 e18
      replace F0 := F0.trans e18
      replace k12 := k12.trans (Kt.ex e18)
      refine s_app (j := 5) l11 rfl (er_ixL0 (0 : Int) (El.er (K := K) (el_lcR1c (K := K) er_iv (by first | omega | assumption | (simp only [List.length_append, List.length_cons, List.length_nil, List.length_map, List.length_range, List.length_set, rng_len, enm_len, repL_len] at *; omega)) (fun _ => rfl) (fun x19 H1 e20 hx21 => (et_t (er_eqI (er_call (eac er_iv (eac (er_var rfl (Me.ex e20 f_l_powers_here)) (eacL (el_catW (ew_var rfl (Lt.ex l11 e20)) (El.ew (el_lst (R := rI) (eas er_iv eas0) (by first | decide | simp))) (by first | omega | assumption | (simp only [List.length_append, List.length_cons, List.length_nil, List.length_map, List.length_range, List.length_set, rng_len, enm_len, repL_len] at *; omega))) (eac er_iv ea0)))) (gv__law_sum_at hpre0.toPwP (by first | assumption | omega | (simp only [List.length_append, List.length_cons, List.length_nil, List.length_map, List.length_range, List.length_set, rng_len, enm_len, repL_len] at *; omega)))) er_int))) (fun x19 H1 e20 hx21 => fun hc22 => er_iv))) er_int (by omega) (Int.ofNat_lt.mpr hN.2)) (by first | omega | assumption | (simp only [List.length_append, List.length_cons, List.length_nil, List.length_map, List.length_range, List.length_set, rng_len, enm_len, repL_len] at *; omega)) fun H23 c24 l25 => ?_
      have kt26 : Kt K _ _ := Lt.kt l11 c24
      replace k12 := k12.trans kt26
      replace f_l_powers_here := Mkt.kt kt26 f_l_powers_here
      replace F0 := C1.ofNew F0 n0p9 c24
      exact ⟨l_many.toNat - (((s1 ++ [(gt0 (0 : Int) ((((rng 0 l_p)).filter fun x19 => (decide (((sumAt l_p l_powers_here (s1 ++ ([x19] : List Int)) ((s1.length : Int) + (ld l_powers_here : Int)))) = (0 : Int)))).map fun x19 => x19) (0 : Int))]))).length, (by simp only [List.length_append, List.length_cons, List.length_nil]; omega), ⟨k1_ + 1, ((s1 ++ [(gt0 (0 : Int) ((((rng 0 l_p)).filter fun x19 => (decide (((sumAt l_p l_powers_here (s1 ++ ([x19] : List Int)) ((s1.length : Int) + (ld l_powers_here : Int)))) = (0 : Int)))).map fun x19 => x19) (0 : Int))])), _, rfl, (fol_next hw1_0 hN.1), (by simp only [List.length_append, List.length_cons, List.length_nil]; omega), rfl, F0, k12, l25⟩⟩
    have hb_1' := hb_1
    try simp only [Bool.and_eq_true, Bool.or_eq_true, Bool.not_eq_true', Bool.and_eq_false_iff, Bool.or_eq_false_iff, Bool.not_eq_false', decide_eq_true_eq, decide_eq_false_iff_not] at hb_1'
    replace f_l_powers_here := Me.ex e15 f_l_powers_here
    replace l11 := Lt.ex l11 e15
    replace F0 := F0.trans e15
    replace k12 := k12.trans (Kt.ex e15)
    exact s_retL (i := 5) rfl (q _ _ n0p9 F0 (by have hk : k1_ = l_many.toNat - l_begin.length := (by omega); rw [← hk, ← hw1_0]; exact l11))

end
section
variable {P : Program} {w : World} {K : PySem.W.Frag} {mg : Str → Option Value} {base : Heap}
/-! ### _law_told -/
/-- what the law's looks at the refusal need: the class C caught by D -/
structure Xk (K : PySem.W.Frag) (C D : Addr) : Prop where
  e : PySem.W.exmOne K (.ref C) (.ref D) = some true
  c : ExcC K C
  k1 : PySem.W.kitOne K (.ref C) (.ref C) = some true
  k2 : PySem.W.kitOne K (.ref C) (.type "ValueError") = some true
  kp : PySem.W.keepIn K (.ref C) = true
/-- what is told: a list, or the words "no row" -/
def rU (K : PySem.W.Frag) : Rp (Option (List Int)) := fun H x v => match x with
  | none => v = .str "no row"
  | some xs => rL K rI H xs v
def sp__law_told (K : PySem.W.Frag) : Sp := fun vs H Q _ => ∃ (l_p : Int) (powers : List (List Int)) (v_powers : V) (p_firsts : Addr) (firsts : List Int) (many : Int), vs = [.int l_p, v_powers, .ref p_firsts, .int many] ∧ rT K (rT K rI) H powers v_powers ∧ Lt rI H p_firsts firsts ∧ (0 ≤ many ∧ many ≤ 100) ∧ firsts.length ≤ 100 ∧ PwG l_p powers ∧ (m_settled_known l_p powers).toNat ≤ firsts.length ∧
  ∀ v H', Ex H H' → rU K H' (setE l_p powers firsts many.toNat) v → Q v H'
theorem ok__law_told {f : Addr} {fd : FuncData} (F : Fun K "_law_told" "_law_told" s__law_told f fd) {C0 C CD : Addr} (D_settled_entries : Df P w K mg base (L2.CX P w) 4 "settled_entries" ["p", "powers", "firsts", "many"] (sp_settled_entries K C0 C)) (X : Xk K C CD)
    (g_DigitError : mg "DigitError" = some (.ref CD)) (g_NoRow : mg "NoRow" = some (.ref C)) (n_isinstance : mg "isinstance" = none) (n_ValueError : mg "ValueError" = none) (n_int : mg "int" = none) : FnOk P w K mg base CX0 5 f fd ["_law_p", "_law_powers_here", "_law_firsts", "_law_many"] (sp__law_told K) := by
  refine F.ok sc__law_told (fun vs H Q E h => ?_) (fun cdv A outer s H vs Q E hr h => ?_)
  · obtain ⟨l_p, powers, v_powers, p_firsts, firsts, many, rfl, _⟩ := h; rfl
  · obtain ⟨l_p, powers, v_powers, p_firsts, firsts, many, rfl, f_powers, f_firsts, hm, hfl, hG, hle, q⟩ := h
    refine ⟨_, pss_one (ps_try_as (i := 4) (tb := fun W => tRet (tCallS (sp_settled_entries K C0 C) (WE W) (tCons (tVar 0) (tCons (tVar 1) (tCons (tVar 2) (tCons (tVar 3) tNil))))))
      (ts := fun a cls d D σ H => ∃ z : Unit, (cls = .ref C ∧ d = none) ∧ (tRet (tOp (rIxL K) (tLst (tCons (tC (.str "other")) (tCons (tC (.str "no row")) tNil))) (tCB (fun xs H Q => (∃ i, xs = [.int i] ∧ Q (.int i) H) ∨ ∃ k, xs = [.bl k] ∧ Q (.int (if k then 1 else 0)) H) (tCons (tAndV (tCB (rIsE K C a) (tCons (tVar 4) (tCons (tC (.ref C)) tNil))) (tCB (rIsE K C a) (tCons (tVar 4) (tCons (tC (.ty "ValueError")) tNil)))) tNil))) D σ H))
      (Wout := fun _ _ _ _ => False) rfl rfl sc__law_told.nd rfl rfl ⟨rfl, by decide, Or.inl g_DigitError⟩ takes0
        (fun W pn xe tk _ => pss_one (ps_ret (by exact (pe_callS D_settled_entries.ok hr (by rfl) D_settled_entries.g D_settled_entries.kp D_settled_entries.b (fun σ => passAt tk σ) (by exact (pa_cons (pv 0) (pa_cons (pv 1) (pa_cons (pv 2) (pa_cons (pv 3) pa_nil)))))))))
        (fun a oe cls d pn hz hf => pss_ex fun _ hc => ?_)), ?_⟩
    · obtain ⟨rfl, rfl⟩ := hc
      exact pss_one (ps_ret (pe_ix (ix_listK K) (pe_lst (pa_cons pe_str (pa_cons pe_str pa_nil))) (pe_callTy call_int1 (by rfl) n_int (by decide +kernel) (pa_cons (pe_and (pe_callB (call_isE X.c hz hf) (by rfl) n_isinstance (by decide +kernel) (pa_cons (pv 4) (pa_cons (pe_glob (v := .ref C) (by rfl) g_NoRow rfl) pa_nil)))
        (pe_one (pe_callB (call_isE X.c hz hf) (by rfl) n_isinstance (by decide +kernel) (pa_cons (pv 4) (pa_cons (pe_bltn (v := .ty "ValueError") (by rfl) n_ValueError (by decide +kernel) rfl) pa_nil))))) pa_nil)) (fun _ _ => rfl)))
    · refine ⟨_, rfl, _, rfl, _, rfl, _, rfl, ?_⟩
      refine ⟨.int l_p, v_powers, .ref p_firsts, many, rfl, .int _, fun z => ?_, fun p' e hp' => ?_⟩
      · rw [hG.pr.is] at z
        cases z
      · cases e
        refine ⟨powers, p_firsts, firsts, rfl, f_powers, f_firsts, hm, hfl, hG, hle, fun r hr2 l H1 n1 e1 l1 => ?_, fun hn H1 e1 => ?_⟩
        · exact q (.ref l) H1 e1 (by rw [hr2]; exact l1.rl)
        · refine ⟨true, X.e, fun _ a na => ⟨(), ⟨rfl, rfl⟩, ?_⟩, fun z => nomatch z⟩
          refine s_ret0 (go_opK ?_)
          refine go_L (el_lst (R := rS) (eas (er_str (k := "other")) (eas (er_str (k := "no row")) eas0)) (by decide)) fun pl H2 n2 e2 l2 => ?_
          refine go_cbA (go_cons ?_)
          refine ⟨_, rfl, .ref C, .ref C, true, rfl, fun u r => r, X.k1, true, rfl, ?_⟩
          refine ⟨_, rfl, .ty "ValueError", .type "ValueError", true, rfl, fun u r => r, X.k2, ?_⟩
          refine go_nil ?_
          refine go_I (er_intB er_bK) fun H3 e3 => ?_
          refine go_R (R := rS) (x := "no row") (er_ixL (K := K) (R := rS) (xs := ["other", "no row"]) (er_K (l2.ex e3).rl) er_iK (by decide) (by decide) rfl) fun v H4 e4 r => ?_
          exact q v H4 (((e1.trans e2).trans e3).trans e4) (by rw [hn]; exact r)
end
section
variable {P : Program} {w : World} {K : PySem.W.Frag} {mg : Str → Option Value} {base : Heap}
/-! ### _law_no_prime -/
def sp__law_no_prime (K : PySem.W.Frag) : Sp := fun vs H Q _ => ∃ (u : Unit) (x : V), vs = [x] ∧ rBad K H u x ∧ ∀ H', Ex H H' → Q (.bl true) H'
theorem ok__law_no_prime {f : Addr} {fd : FuncData} (F : Fun K "_law_no_prime" "_law_no_prime" s__law_no_prime f fd) {C0 C CD : Addr} (D_settled_entries : Df P w K mg base (L2.CX P w) 4 "settled_entries" ["p", "powers", "firsts", "many"] (sp_settled_entries K C0 C)) (X : Xk K C0 CD)
    (hne : PySem.W.kitOne K (.ref C0) (.ref C) = some false) (g_DigitError : mg "DigitError" = some (.ref CD)) (g_NoPrime : mg "NoPrime" = some (.ref C0)) (g_NoRow : mg "NoRow" = some (.ref C)) (n_isinstance : mg "isinstance" = none) (n_ValueError : mg "ValueError" = none) : FnOk P w K mg base CX0 5 f fd ["_law_thing"] (sp__law_no_prime K) := by
  refine F.ok sc__law_no_prime (fun vs H Q E h => ?_) (fun cdv A outer s H vs Q E hr h => ?_)
  · obtain ⟨u, x, rfl, _⟩ := h; rfl
  · obtain ⟨u, x, rfl, ⟨th, hp⟩, q⟩ := h
    refine ⟨_, pss_cons (ps_for PassesOwn.never rfl (pi_listK K (pe_lst (pa_cons (pe_tup (pa_cons (pe_lst pa_nil) (pa_cons (pe_tup (pa_cons (pe_tup (pa_cons pe_int pa_nil)) pa_nil)) pa_nil))) (pa_cons (pe_tup (pa_cons (pe_lst pa_nil) (pa_cons (pe_tup (pa_cons (pe_tup (pa_cons pe_int (pa_cons pe_int pa_nil))) (pa_cons (pe_tup (pa_cons pe_int pa_nil)) pa_nil))) pa_nil))) pa_nil))))
        (pg_tupK K 2 rfl (pgs_cons (pg_name (i := 1) sc__law_no_prime.nd rfl (Or.inl rfl)) (pgs_cons (pg_name (i := 2) sc__law_no_prime.nd rfl (Or.inl rfl)) pgs_nil)))
        (pss_one (ps_try_as (i := 3) (tb := fun W => tSeq (tDrop (tCallS (sp_settled_entries K C0 C) (WE W) (tCons (tVar 0) (tCons (tVar 2) (tCons (tVar 1) (tCons (tC (.int 3)) tNil)))))) (tRet (tC (.bl false))))
          (ts := fun a cls d D σ H => ∃ z : Unit, (cls = .ref C0 ∧ d = none) ∧ (tIfS (tOr (tNot (tB (tCB (rIsE K C0 a) (tCons (tVar 3) (tCons (tC (.ref C0)) tNil))))) (tOr (tB (tCB (rIsE K C0 a) (tCons (tVar 3) (tCons (tC (.ref C)) tNil)))) (tNot (tB (tCB (rIsE K C0 a) (tCons (tVar 3) (tCons (tC (.ty "ValueError")) tNil))))))) (tRet (tC (.bl false))) tNext) D σ H)
          (Wout := fun _ _ _ _ => False) rfl rfl sc__law_no_prime.nd rfl rfl ⟨rfl, by decide, Or.inl g_DigitError⟩ takes0
          (fun W pn xe tk _ => pss_cons (ps_expr (by exact (pe_callS D_settled_entries.ok hr (by rfl) D_settled_entries.g D_settled_entries.kp D_settled_entries.b (fun σ => passAt tk σ) (by exact (pa_cons (pv 0) (pa_cons (pv 2) (pa_cons (pv 1) (pa_cons pe_int pa_nil)))))))) (pss_one (ps_ret pe_bl)))
          (fun a oe cls d pn hz hf => pss_ex fun _ hc => ?_)))) (pss_one (ps_ret pe_bl)), ?_⟩
    · obtain ⟨rfl, rfl⟩ := hc
      exact pss_one (ps_if (PW.pt (pw_or (pt_not (pt_val (pe_callB (call_isE X.c hz hf) (by rfl) n_isinstance (by decide +kernel) (pa_cons (pv 3) (pa_cons (pe_glob (v := .ref C0) (by rfl) g_NoPrime rfl) pa_nil))))) (pw_or (pt_val (pe_callB (call_isE X.c hz hf) (by rfl) n_isinstance (by decide +kernel) (pa_cons (pv 3) (pa_cons (pe_glob (v := .ref C) (by rfl) g_NoRow rfl) pa_nil))))
        (pw_or1 (pt_not (pt_val (pe_callB (call_isE X.c hz hf) (by rfl) n_isinstance (by decide +kernel) (pa_cons (pv 3) (pa_cons (pe_bltn (v := .ty "ValueError") (by rfl) n_ValueError (by decide +kernel) rfl) pa_nil))))))))) (pss_one (ps_ret pe_bl)) pss_nil)
    · refine q_forLn (R := r2 K rV0 rV0) (el_lst (xs := [((), ()), ((), ())]) (eas (er_pr (er_v0 (El.er (K := K) (el_lst (R := rI) eas0 (by decide)))) (er_v0 (er_tup (K := K) (eas (er_tup (K := K) (eas er_int eas0) (by simp)) eas0) (by simp)))) (eas (er_pr (er_v0 (El.er (K := K) (el_lst (R := rI) eas0 (by decide)))) (er_v0 (er_tup (K := K) (R := rT K rI) (eas (er_tup (K := K) (eas er_int (eas er_int eas0)) (by simp)) (eas (er_tup (K := K) (eas er_int eas0) (by simp)) eas0)) (by simp)))) eas0)) (by decide)) fun p1 H1 n1 e1 l1 => ?_
      refine fq_LP (v := .ref p1) (xs := [((), ()), ((), ())]) l1.rl (fun i σ' H' => ∃ j1 j2 j3 : Option V, σ' = [some x, j1, j2, j3] ∧ Ex H1 H') ?_ ?_ ?_ ?_ _ rfl
      · exact ⟨_, _, _, rfl, Ex.refl H1⟩
      · rintro i σ' H' _ ⟨_, _, _, _, e⟩
        exact Me.ex e l1.rl
      · rintro i y u1 u2 _ H2 hi hy ⟨j1, j2, j3, rfl, e2⟩ _ _
        refine ⟨_, rfl, _, rfl, _, rfl, ?_⟩
        refine ⟨x, u2, u1, 3, rfl, th.mono (e1.trans e2), fun _ H3 e3 => ?_, fun p' hx hp' => ?_⟩
        · refine ⟨true, X.e, fun _ a na => ⟨(), ⟨rfl, rfl⟩, ?_⟩, fun z => nomatch z⟩
          refine s_not (et_or (et_not (et_b (er_isEc rfl X.k1))) fun _ => et_or (et_b (er_isEc rfl hne)) fun _ => et_not (et_b (er_isEv rfl X.k2))) rfl fun H4 e4 => ?_
          exact ⟨_, _, _, rfl, (e2.trans e3).trans e4⟩
        · subst hx
          have := hp'.is
          rw [hp] at this
          cases this
      · rintro _ H2 ⟨j1, j2, j3, rfl, e2⟩
        refine s_ret (R := rB) er_bl fun v H4 e4 r => ?_
        cases r
        exact q _ ((e1.trans e2).trans e4)
end
section
variable {P : Program} {w : World} {K : PySem.W.Frag} {mg : Str → Option Value} {base : Heap}
def sp__law_beginning (K : PySem.W.Frag) : Sp := fun vs H Q _ => ∃ (l_p : Int) (l_powers_here : (List (List Int))) (l_least : Int) (b : Addr) (v_l_powers_here : V), (vs = [.ref b, .int l_p, v_l_powers_here, .int l_least]) ∧ (Bag H b) ∧ ((rT K (rT K rI)) H l_powers_here v_l_powers_here) ∧ (PwG l_p l_powers_here) ∧ (l_least = m_settled_known l_p l_powers_here) ∧ (∀ (r : (List Int)) (p : Addr) H', H p = none → C1 b H H' → Bag H' b → Lt rI H' p r → (l_least.toNat ≤ r.length ∧ r.length ≤ 30) → Q (.ref p) H')
theorem ok__law_beginning {f : Addr} {fd : FuncData} (F : Fun K "_law_beginning" "_law_beginning" s__law_beginning f fd) (D__law_numbers : Df P w K mg base CX0 2 "_law_numbers" ["_law_bag_here", "_law_p", "_law_many"] (sp__law_numbers K)) (D__law_take : Df P w K mg base CX0 1 "_law_take" ["_law_bag_here", "_law_many"] (sp__law_take K)) (n_list : mg "list" = none) (D__law_followed : Df P w K mg base CX0 2 "_law_followed" ["_law_p", "_law_powers_here", "_law_begin", "_law_many"] (sp__law_followed K)) : FnOk P w K mg base CX0 3 f fd ["_law_bag_here", "_law_p", "_law_powers_here", "_law_least"] (sp__law_beginning K) := by
  refine F.ok sc__law_beginning (fun vs H Q E h => ?_) (fun cdv A outer s H vs Q E hr h => ?_)
  · obtain ⟨l_p, l_powers_here, l_least, b, v_l_powers_here, rfl, _⟩ := h; rfl
  · obtain ⟨l_p, l_powers_here, l_least, b, v_l_powers_here, rfl, B0, f_l_powers_here, hpre0, hpre1, q⟩ := h
    refine ⟨_, (pss_cons (ps_set (i := 4) sc__law_beginning.nd rfl (Or.inl rfl) (pe_call D__law_numbers.ok (hr.mono (by omega)) (by rfl) D__law_numbers.g D__law_numbers.kp D__law_numbers.b .nil pass0 (pa_cons (pv 0) (pa_cons (pv 1) (pa_cons (pv 3) pa_nil)))))
 (Evl.pss_cut (ps_if (pt_cmpR op_eq (pe_call D__law_take.ok (hr.mono (by omega)) (by rfl) D__law_take.g D__law_take.kp D__law_take.b .nil pass0 (pa_cons (pv 0) (pa_cons pe_int pa_nil))) pe_int (nomark _)) (pss_one (ps_set (i := 4) sc__law_beginning.nd rfl (Or.inl rfl) (pe_op (op_repTAK K) (pe_tup (pa_cons pe_int pa_nil)) (pv 3)))) pss_nil)
 (pss_cons (ps_set (i := 5) sc__law_beginning.nd rfl (Or.inl rfl) (pe_call D__law_take.ok (hr.mono (by omega)) (by rfl) D__law_take.g D__law_take.kp D__law_take.b .nil pass0 (pa_cons (pv 0) (pa_cons pe_int pa_nil))))
 (pss_cons (ps_if (pt_cmpR op_gt (pe_call D__law_take.ok (hr.mono (by omega)) (by rfl) D__law_take.g D__law_take.kp D__law_take.b .nil pass0 (pa_cons (pv 0) (pa_cons pe_int pa_nil))) pe_int (nomark _)) (pss_one (ps_ret (pe_call D__law_followed.ok (hr.mono (by omega)) (by rfl) D__law_followed.g D__law_followed.kp D__law_followed.b .nil pass0 (pa_cons (pv 1) (pa_cons (pv 2) (pa_cons (pv 4) (pa_cons (pe_op op_add (pv 3) (pv 5)) pa_nil))))))) pss_nil)
 (pss_one (ps_ret (pe_callTy (call_list_ofK K) (by rfl) n_list (by decide +kernel) (pa_cons (pe_op (op_catAK K) (pv 4) (pe_call D__law_numbers.ok (hr.mono (by omega)) (by rfl) D__law_numbers.g D__law_numbers.kp D__law_numbers.b .nil pass0 (pa_cons (pv 0) (pa_cons (pv 1) (pa_cons (pv 5) pa_nil))))) pa_nil)))))))), ?_⟩
    have F0 : C1 b H H := C1.refl b H
    have hp := hpre0.pr.le
    obtain ⟨hl1, hl2, hl3⟩ := hpre0.least
    refine q_asg0 ?_
    refine go_callA ?_
    refine go_cons ?_
    refine ⟨_, rfl, ?_⟩
    refine go_cons ?_
    refine ⟨_, rfl, ?_⟩
    refine go_cons ?_
    refine ⟨_, rfl, ?_⟩
    refine go_nil ?_
    refine ⟨_, _, b, rfl, B0, (by first | assumption | omega | (simp only [List.length_append, List.length_cons, List.length_nil, List.length_map, List.length_range, List.length_set, rng_len, enm_len, repL_len] at *; omega)), (by first | assumption | omega | (simp only [List.length_append, List.length_cons, List.length_nil, List.length_map, List.length_range, List.length_set, rng_len, enm_len, repL_len] at *; omega)), fun y5 v8 H4 c6 B7 f9 hqy5_0 hqy5_1 => ?_⟩
    have kt10 : Kt K _ _ := Bag.kt B0 c6
    replace f_l_powers_here := Mkt.kt kt10 f_l_powers_here
    replace F0 := F0.trans c6
    replace B0 := B7
    have k11 : Kt K _ _ := Kt.refl H4
    refine ⟨fun σ' H' => ∃ (bg : (List Int)) (v12 : V), bg.length = l_least.toNat ∧ σ' = [some (.ref b), some (.int l_p), some v_l_powers_here, some (.int l_least), some v12, none] ∧ C1 b H H' ∧ Kt K H4 H' ∧ (rT K rI) H' bg v12 ∧ Bag H' b, ?_, ?_⟩
    ·
      refine s_if0 ?_
      refine go_tV ?_
      refine go_opK ?_
      refine go_callA ?_
      refine go_cons ?_
      refine ⟨_, rfl, ?_⟩
      refine go_cons ?_
      refine go_I er_int fun H15 e16 => ?_
      replace B0 := Bag.ex B0 e16
      replace f_l_powers_here := Me.ex e16 f_l_powers_here
      replace f9 := Me.ex e16 f9
      replace F0 := F0.trans (C1.ex e16)
      replace k11 := k11.trans (Kt.ex e16)
      refine go_nil ?_
      refine ⟨b, _, rfl, B0, (by first | assumption | omega | (simp only [List.length_append, List.length_cons, List.length_nil, List.length_map, List.length_range, List.length_set, rng_len, enm_len, repL_len] at *; omega)), (by first | assumption | omega | (simp only [List.length_append, List.length_cons, List.length_nil, List.length_map, List.length_range, List.length_set, rng_len, enm_len, repL_len] at *; omega)), fun y19 H18 c20 B21 hqy19_0 => ?_⟩
      have kt22 : Kt K _ _ := Bag.kt B0 c20
      replace k11 := k11.trans kt22
      replace f_l_powers_here := Mkt.kt kt22 f_l_powers_here
      replace f9 := Mkt.kt kt22 f9
      replace F0 := F0.trans c20
      replace B0 := B21
      refine go_I er_int fun H24 e25 => ?_
      replace B0 := Bag.ex B0 e25
      replace f_l_powers_here := Me.ex e25 f_l_powers_here
      replace f9 := Me.ex e25 f9
      replace F0 := F0.trans (C1.ex e25)
      replace k11 := k11.trans (Kt.ex e25)
      refine go_B (er_eqI er_iK er_iK) fun H27 e28 => ?_
      replace B0 := Bag.ex B0 e28
      replace f_l_powers_here := Me.ex e28 f_l_powers_here
      replace f9 := Me.ex e28 f9
      replace F0 := F0.trans (C1.ex e28)
      replace k11 := k11.trans (Kt.ex e28)
      refine ⟨_, rfl, ?_⟩
      refine ite2 (fun hb_1 => ?_) (fun hb_1 => ?_)
      ·
        refine s_asg (R := (rT K rI)) (er_repT (er_tup (eas er_int eas0) (by first | decide | simp)) er_iv ⟨by omega, by omega⟩ (by first | decide | omega)) fun v31 H29 e30 f_l_begin32 => ?_
        replace B0 := Bag.ex B0 e30
        replace f_l_powers_here := Me.ex e30 f_l_powers_here
        replace F0 := F0.trans (C1.ex e30)
        replace k11 := k11.trans (Kt.ex e30)
        exact ⟨(repL [(0 : Int)] l_least), _, (by rw [repL_len]; simp), rfl, F0, k11, f_l_begin32, B0⟩
      ·
        exact ⟨y5, _, (by assumption), rfl, F0, k11, f9, B0⟩
    rintro _ H33 ⟨bg, v12, hm_bg, rfl, F0, kt34, f13, B0⟩
    replace f_l_powers_here := Mkt.kt kt34 f_l_powers_here
    refine q_asg0 ?_
    refine go_callA ?_
    refine go_cons ?_
    refine ⟨_, rfl, ?_⟩
    refine go_cons ?_
    refine go_I er_int fun H36 e37 => ?_
    replace B0 := Bag.ex B0 e37
    replace f_l_powers_here := Me.ex e37 f_l_powers_here
    replace f13 := Me.ex e37 f13
    replace F0 := F0.trans (C1.ex e37)
    refine go_nil ?_
    refine ⟨b, _, rfl, B0, (by first | assumption | omega | (simp only [List.length_append, List.length_cons, List.length_nil, List.length_map, List.length_range, List.length_set, rng_len, enm_len, repL_len] at *; omega)), (by first | assumption | omega | (simp only [List.length_append, List.length_cons, List.length_nil, List.length_map, List.length_range, List.length_set, rng_len, enm_len, repL_len] at *; omega)), fun y40 H39 c41 B42 hqy40_0 => ?_⟩
    have kt43 : Kt K _ _ := Bag.kt B0 c41
    replace f_l_powers_here := Mkt.kt kt43 f_l_powers_here
    replace f13 := Mkt.kt kt43 f13
    replace F0 := F0.trans c41
    replace B0 := B42
    refine q_when0 ?_
    refine go_tV ?_
    refine go_opK ?_
    refine go_callA ?_
    refine go_cons ?_
    refine ⟨_, rfl, ?_⟩
    refine go_cons ?_
    refine go_I er_int fun H45 e46 => ?_
    replace B0 := Bag.ex B0 e46
    replace f_l_powers_here := Me.ex e46 f_l_powers_here
    replace f13 := Me.ex e46 f13
    replace F0 := F0.trans (C1.ex e46)
    refine go_nil ?_
    refine ⟨b, _, rfl, B0, (by first | assumption | omega | (simp only [List.length_append, List.length_cons, List.length_nil, List.length_map, List.length_range, List.length_set, rng_len, enm_len, repL_len] at *; omega)), (by first | assumption | omega | (simp only [List.length_append, List.length_cons, List.length_nil, List.length_map, List.length_range, List.length_set, rng_len, enm_len, repL_len] at *; omega)), fun y49 H48 c50 B51 hqy49_0 => ?_⟩
    have kt52 : Kt K _ _ := Bag.kt B0 c50
    replace f_l_powers_here := Mkt.kt kt52 f_l_powers_here
    replace f13 := Mkt.kt kt52 f13
    replace F0 := F0.trans c50
    replace B0 := B51
    refine go_I er_int fun H54 e55 => ?_
    replace B0 := Bag.ex B0 e55
    replace f_l_powers_here := Me.ex e55 f_l_powers_here
    replace f13 := Me.ex e55 f13
    replace F0 := F0.trans (C1.ex e55)
    refine go_B (er_cmp er_iK er_iK) fun H57 e58 => ?_
    replace B0 := Bag.ex B0 e58
    replace f_l_powers_here := Me.ex e58 f_l_powers_here
    replace f13 := Me.ex e58 f13
    replace F0 := F0.trans (C1.ex e58)
    refine ⟨_, rfl, ?_⟩
    refine ite2 (fun hb_2 => ?_) (fun hb_2 => ?_)
    ·
      refine s_ret0 ?_
      refine go_L (el_call (eac er_iv (eac (er_var rfl f_l_powers_here) (eac (er_QT (er_var rfl f13)) (eac (er_op0 er_iv er_iv) ea0)))) (gv__law_followed (by first | assumption | omega | (simp only [List.length_append, List.length_cons, List.length_nil, List.length_map, List.length_range, List.length_set, rng_len, enm_len, repL_len] at *; omega)) (by first | assumption | omega | (simp only [List.length_append, List.length_cons, List.length_nil, List.length_map, List.length_range, List.length_set, rng_len, enm_len, repL_len] at *; omega)) (by first | assumption | omega | (simp only [List.length_append, List.length_cons, List.length_nil, List.length_map, List.length_range, List.length_set, rng_len, enm_len, repL_len] at *; omega)))) fun p61 H59 n62 e60 l63 => ?_
      have nebp61 : b ≠ p61 := B0.ne n62
      have n0p61 : H p61 = none := fb F0 B0 n62
      replace B0 := Bag.ex B0 e60
      replace f_l_powers_here := Me.ex e60 f_l_powers_here
      replace f13 := Me.ex e60 f13
      replace F0 := F0.trans (C1.ex e60)
      exact q _ p61 _ n0p61 F0 B0 l63 (by rw [fol_len]; omega)
    refine s_ret0 ?_
    refine go_cbA ?_
    refine go_cons ?_
    refine go_opK ?_
    refine ⟨_, rfl, ?_⟩
    refine go_callA ?_
    refine go_cons ?_
    refine ⟨_, rfl, ?_⟩
    refine go_cons ?_
    refine ⟨_, rfl, ?_⟩
    refine go_cons ?_
    refine ⟨_, rfl, ?_⟩
    refine go_nil ?_
    refine ⟨_, _, b, rfl, B0, (by first | assumption | omega | (simp only [List.length_append, List.length_cons, List.length_nil, List.length_map, List.length_range, List.length_set, rng_len, enm_len, repL_len] at *; omega)), (by first | assumption | omega | (simp only [List.length_append, List.length_cons, List.length_nil, List.length_map, List.length_range, List.length_set, rng_len, enm_len, repL_len] at *; omega)), fun y69 v72 H68 c70 B71 f73 hqy69_0 hqy69_1 => ?_⟩
    have kt74 : Kt K _ _ := Bag.kt B0 c70
    replace f_l_powers_here := Mkt.kt kt74 f_l_powers_here
    replace f13 := Mkt.kt kt74 f13
    replace F0 := F0.trans c70
    replace B0 := B71
    refine go_R (R := (rT K rI)) (er_catT (er_K f13) (er_K f73) (by first | omega | assumption | (simp only [List.length_append, List.length_cons, List.length_nil, List.length_map, List.length_range, List.length_set, rng_len, enm_len, repL_len] at *; omega))) fun v78 H76 e77 f79 => ?_
    replace B0 := Bag.ex B0 e77
    replace f_l_powers_here := Me.ex e77 f_l_powers_here
    replace f13 := Me.ex e77 f13
    replace f73 := Me.ex e77 f73
    replace F0 := F0.trans (C1.ex e77)
    refine go_nil ?_
    refine go_L (el_listT (er_K f79)) fun p83 H81 n84 e82 l85 => ?_
    have nebp83 : b ≠ p83 := B0.ne n84
    have n0p83 : H p83 = none := fb F0 B0 n84
    replace B0 := Bag.ex B0 e82
    replace f_l_powers_here := Me.ex e82 f_l_powers_here
    replace f13 := Me.ex e82 f13
    replace f79 := Me.ex e82 f79
    replace F0 := F0.trans (C1.ex e82)
    exact q _ p83 _ n0p83 F0 B0 l85 (by rw [List.length_append]; omega)

end
section
variable {P : Program} {w : World} {K : PySem.W.Frag} {mg : Str → Option Value} {base : Heap}
/-! ### settled_by -/
def sp_settled_by (K : PySem.W.Frag) (C : Addr) : Sp := fun vs H Q E => ∃ (x : V) (pw : List (List Int)) (v : V), vs = [x, v] ∧ Th K H x ∧ rT K (rT K rI) H pw v ∧ PwOk pw ∧
  (∀ p : Nat, P3 p → x = .int p → ∀ H', Ex H H' → Q (.int (m_settled_known p pw)) H') ∧ (isPr x = false → ∀ H', Ex H H' → E (.ref C) none H')
theorem ok_settled_by {f : Addr} {fd : FuncData} (F : Fun K "settled_by" "settled_by" s_settled_by f fd) {C : Addr} (D_look_prime : Df P w K mg base (L2.CX P w) 3 "look_prime" ["p"] (sp_look_prime K C)) (D_settled_known : Df P w K mg base CX0 2 "settled_known" ["p", "powers"] (sp_settled_known K)) : FnOk P w K mg base (L2.CX P w) 4 f fd ["p", "powers"] (sp_settled_by K C) := by
  refine F.okX sc_settled_by (fun vs H Q E h => ?_) (fun cdv A outer s H vs Q E hr h => ?_)
  · obtain ⟨x, pw, v, rfl, _⟩ := h; rfl
  · obtain ⟨x, pw, v, rfl, th, hv, hpw, q1, q2⟩ := h
    refine ⟨_, (pss_cons (ps_expr (pe_call D_look_prime.ok (hr.mono (by omega)) (by rfl) D_look_prime.g D_look_prime.kp D_look_prime.b .nil (passes_call (takes_of rfl rfl rfl rfl) (fun _ _ _ _ h => h)) (pa_cons (pv 0) pa_nil)))
 (pss_one (ps_ret (pe_call D_settled_known.ok (hr.mono (by omega)) (by rfl) D_settled_known.g D_settled_known.kp D_settled_known.b .nil pass0 (pa_cons (pv 0) (pa_cons (pv 1) pa_nil)))))), ?_⟩
    refine s_look rfl th (fun p hx h3 H1 e1 => ?_) q2
    subst hx
    refine s_ret (R := rI) (er_call (eac er_iv (eac (er_var rfl (Me.ex e1 hv)) ea0)) (gv_settled_known (by have := h3.le; omega) hpw)) fun v H2 e2 r => ?_
    cases r
    exact q1 p h3 rfl H2 (e1.trans e2)
theorem gv_settled_by {C : Addr} {p : Int} {pw : List (List Int)} (h : Pr p) (hp : PwOk pw) : Gv (sp_settled_by K C) (Ac rI p (Ac (rT K (rT K rI)) pw A0)) rI (m_settled_known p pw) := by
  intro vs H1 hp Q E q
  obtain ⟨v0, w0, rfl, f0, hp⟩ := hp
  cases f0
  obtain ⟨v1, w1, rfl, f1, hp⟩ := hp
  cases hp
  refine ⟨.int p, pw, v1, rfl, .int _, f1, by assumption, fun p' h3 e H2 e2 => ?_, fun z => ?_⟩
  · have : p = (p' : Int) := V.int.inj e
    subst this
    exact q _ H2 e2 rfl
  · rw [h.is] at z
    cases z
end

section
variable {P : Program} {w : World} {K : PySem.W.Frag} {mg : Str → Option Value} {base : Heap}
instance : Me (rU K) := ⟨fun {_ _ x _} e h => match x, h with | none, h => h | some _, h => Me.ex (R := rL K rI) e h⟩
instance : Rd K (rU K) where
  to x := match x with | none => .str "no row" | some xs => .list (xs.map .int)
  dep := 1
  dp {H x v} h := by
    cases x with
    | none =>
      have e : v = .str "no row" := h
      rw [e]
      exact .str _
    | some xs => exact (inferInstance : Rd K (rL K rI)).dp h
  lay x := by
    cases x with
    | none =>
      show (PyData.str "no row").canLay0 = true
      simp only [PyData.canLay0]
      decide +kernel
    | some xs => exact (inferInstance : Rd K (rL K rI)).lay xs
  dle x := by
    cases x with
    | none => show PyData.depth (.str "no row") ≤ 1; simp only [PyData.depth]; omega
    | some xs => exact (inferInstance : Rd K (rL K rI)).dle xs
  eqv x y := by
    cases x with
    | none =>
      cases y with
      | none => simp only [PyData.eqv, beq_self_eq_true]
      | some ys => simp [PyData.eqv]
    | some xs =>
      cases y with
      | none => simp [PyData.eqv]
      | some ys =>
        have h := (inferInstance : Rd K (rL K rI)).eqv xs ys
        exact h.trans ⟨fun h => by rw [h], fun h => Option.some.inj h⟩
theorem er_UL {ta : TE} {σ : L2.St} {H : Hp} {xs : List Int} (h : Er (rL K rI) ta σ H xs) : Er (rU K) ta σ H (some xs) := h
theorem er_US {ta : TE} {σ : L2.St} {H : Hp} {a : List Nat} (h : Er rX ta σ H a) (e : S a = "no row" := by decide) : Er (rU K) ta σ H none := fun H1 e1 Q q => h H1 e1 Q fun v H2 e2 r => q v H2 e2 (by have r' : v = .str (S a) := r; rw [e] at r'; exact r')
theorem gv__law_told {l_p : Int} {powers : List (List Int)} {firsts : List Int} {many : Int} (h0 : PwG l_p powers) (h1 : (m_settled_known l_p powers).toNat ≤ firsts.length) (h2 : firsts.length ≤ 100) (h3 : 0 ≤ many ∧ many ≤ 100) :
    Gv (sp__law_told K) (Ac rI l_p (Ac (rT K (rT K rI)) powers (AcL rI firsts (Ac rI many A0)))) (rU K) (setE l_p powers firsts many.toNat) := by
  intro vs H1 hp Q E k
  obtain ⟨v0, w0, rfl, f0, hp⟩ := hp
  cases f0
  obtain ⟨v1, w1, rfl, f1, hp⟩ := hp
  obtain ⟨v2, w2, rfl, f2, hp⟩ := hp
  obtain ⟨p2, rfl, f2⟩ := f2
  obtain ⟨v3, w3, rfl, f3, hp⟩ := hp
  cases f3
  cases hp
  exact ⟨_, _, v1, p2, _, _, rfl, f1, f2, h3, h2, h0, h1, fun v H2 e r => k v H2 e r⟩
/-! the law's answer -/
theorem row60 {p : Int} {pw : List (List Int)} {firsts : List Int} (hm : 0 ≤ m_settled_known p pw) (hle : (m_settled_known p pw).toNat ≤ firsts.length) : fol p pw ((60 : Int).toNat - (cutL firsts none (some (m_settled_known p pw))).length) (cutL firsts none (some (m_settled_known p pw))) = rowOf p pw firsts 60 := by
  rw [cut_some hm]
  unfold rowOf
  rw [List.length_take, Nat.min_eq_left hle]
  rfl
theorem due_eq {p many : Int} {pw : List (List Int)} {firsts : List Int} (hG : PwG p pw) (hle : (m_settled_known p pw).toNat ≤ firsts.length) (hl : firsts.length ≤ 30) (hm : 0 ≤ many ∧ many ≤ 60) :
    setE p pw firsts many.toNat = if (!(((rng 0 50).map fun x => decide (sumAt p pw (rowOf p pw firsts 60) x = 0)).all id) || (!decide (cutL (rowOf p pw firsts 60) none (some (firsts.length : Int)) = firsts))) = true then none else some (cutL (rowOf p pw firsts 60) none (some many)) := by
  obtain ⟨h1, h2, h3⟩ := hG.least
  rw [nought_iff hG.toPwP hle (by omega), cutL_hi, cut_some hm.1]
  unfold setE
  have e1 : (rowOf p pw firsts (max many.toNat firsts.length)).take firsts.length = (rowOf p pw firsts 60).take firsts.length := rowOf_take hle (by omega) (by omega)
  have e2 : (rowOf p pw firsts (max many.toNat firsts.length)).take many.toNat = (rowOf p pw firsts 60).take many.toNat := rowOf_take hle (by omega) (by omega)
  rw [e1, e2, Bool.not_not]
  cases (((rng 0 (m_settled_known p pw + ld pw)).map fun x => !decide (sumAt p pw (firsts.take (m_settled_known p pw).toNat) x = 0)).any id) with
  | true => rfl
  | false =>
    by_cases h : (rowOf p pw firsts 60).take firsts.length = firsts
    · rw [if_pos h, decide_eq_true h]; rfl
    · rw [if_neg h, decide_eq_false h]; rfl
theorem due1 {p many : Int} {pw : List (List Int)} {firsts row : List Int} (hG : PwG p pw) (hle : (m_settled_known p pw).toNat ≤ firsts.length) (hl : firsts.length ≤ 30) (hm : 0 ≤ many ∧ many ≤ 60)
    (hr : row = rowOf p pw firsts 60) (h : (!(((rng 0 50).map fun x => decide (sumAt p pw row x = 0)).all id) || (!decide (cutL row none (some (firsts.length : Int)) = firsts))) = true) : (!decide (setE p pw firsts many.toNat = none)) = false := by
  subst hr
  rw [due_eq hG hle hl hm, if_pos h]
  rfl
theorem due2 {p many : Int} {pw : List (List Int)} {firsts row : List Int} (hG : PwG p pw) (hle : (m_settled_known p pw).toNat ≤ firsts.length) (hl : firsts.length ≤ 30) (hm : 0 ≤ many ∧ many ≤ 60)
    (hr : row = rowOf p pw firsts 60) (h : (!(((rng 0 50).map fun x => decide (sumAt p pw row x = 0)).all id) || (!decide (cutL row none (some (firsts.length : Int)) = firsts))) = false) : (!decide (setE p pw firsts many.toNat = some (cutL row none (some many)))) = false := by
  subst hr
  rw [due_eq hG hle hl hm, if_neg (by rw [h]; exact Bool.false_ne_true), decide_eq_true rfl]
  rfl
theorem cut_ge {m : Int} {firsts : List Int} (hm : 0 ≤ m) (h : m.toNat ≤ firsts.length) : m ≤ ((cutL firsts none (some m)).length : Int) := by
  rw [cut_some hm, List.length_take, Nat.min_eq_left h]
  omega
theorem cut_le60 {m : Int} {b : Nat} {firsts : List Int} (hm : 0 ≤ m ∧ m ≤ 8 ∧ b ≤ 7) (h : m.toNat ≤ firsts.length) : ((cutL firsts none (some m)).length : Int) ≤ 60 ∧ (60 : Int) ≤ 100 := by
  rw [cut_some hm.1, List.length_take, Nat.min_eq_left h]
  omega
end
section
variable {P : Program} {w : World} {K : PySem.W.Frag} {mg : Str → Option Value} {base : Heap}
def spLaw (K : PySem.W.Frag) : Sp := fun vs H Q _ => ∃ (a : Addr) (ns : List Int), vs = [.ref a] ∧ SqL K H a (ns.map V.int) ∧ ns.length ≤ 63 ∧ ∀ H', Q (.bl true) H'
theorem ok_law {f : Addr} {fd : FuncData} (F : Fun K "law" "law" s_law f fd) {C_NoPrime : Addr} (n_range : mg "range" = none) (n_max : mg "max" = none) (D__law_bag : Df P w K mg base CX0 1 "_law_bag" ["_law_script", "_law_at"] (sp__law_bag K)) (D__law_powers : Df P w K mg base CX0 4 "_law_powers" ["_law_bag_here", "_law_p"] (sp__law_powers K)) (D_settled_by : Df P w K mg base (L2.CX P w) 4 "settled_by" ["p", "powers"] (sp_settled_by K C_NoPrime)) (n_min : mg "min" = none) (D__law_take : Df P w K mg base CX0 1 "_law_take" ["_law_bag_here", "_law_many"] (sp__law_take K)) (D__law_beginning : Df P w K mg base CX0 3 "_law_beginning" ["_law_bag_here", "_law_p", "_law_powers_here", "_law_least"] (sp__law_beginning K)) (D__law_followed : Df P w K mg base CX0 2 "_law_followed" ["_law_p", "_law_powers_here", "_law_begin", "_law_many"] (sp__law_followed K)) (n_all : mg "all" = none) (D__law_no_prime : Df P w K mg base CX0 5 "_law_no_prime" ["_law_thing"] (sp__law_no_prime K)) (n_len : mg "len" = none) (D__law_told : Df P w K mg base CX0 5 "_law_told" ["_law_p", "_law_powers_here", "_law_firsts", "_law_many"] (sp__law_told K)) (n_list : mg "list" = none) (D__law_sum_at : Df P w K mg base CX0 1 "_law_sum_at" ["_law_p", "_law_powers_here", "_law_known", "_law_place"] (sp__law_sum_at K)) : FnOk P w K mg base CX0 6 f fd ["_law_script"] (spLaw K) := by
  refine F.ok sc_law (fun vs H Q E h => ?_) (fun cdv A outer s H vs Q E hr h => ?_)
  · obtain ⟨a, ns, rfl, _⟩ := h; rfl
  · obtain ⟨a, ns, rfl, hS, hlen, q⟩ := h
    refine ⟨_, (pss_cons (ps_for PassesOwn.never rfl (pi_range1 (by rfl) n_range (pa_cons (pe_callB (call_max2 rfl) (by rfl) n_max (by decide +kernel) (pa_cons pe_int (pa_cons (pe_callB (call_min2 rfl) (by rfl) n_min (by decide +kernel) (pa_cons pe_int (pa_cons (pe_callB (call_len_seqK K) (by rfl) n_len (by decide +kernel) (pa_cons (pv 0) pa_nil)) pa_nil))) pa_nil))) pa_nil)) (pg_name (i := 1) sc_law.nd rfl (Or.inl rfl))
 (pss_cons (ps_set (i := 2) sc_law.nd rfl (Or.inl rfl) (pe_call D__law_bag.ok (hr.mono (by omega)) (by rfl) D__law_bag.g D__law_bag.kp D__law_bag.b .nil pass0 (pa_cons (pv 0) (pa_cons (pv 1) pa_nil))))
 (pss_cons (ps_set (i := 3) sc_law.nd rfl (Or.inr rfl) (pe_ix (ix_listK K) (pe_lst (pa_cons pe_int (pa_cons pe_int (pa_cons pe_int pa_nil)))) (pe_call D__law_take.ok (hr.mono (by omega)) (by rfl) D__law_take.g D__law_take.kp D__law_take.b .nil pass0 (pa_cons (pv 2) (pa_cons pe_int pa_nil))) (fun _ _ => rfl)))
 (pss_cons (ps_set (i := 4) sc_law.nd rfl (Or.inr rfl) (pe_call D__law_powers.ok (hr.mono (by omega)) (by rfl) D__law_powers.g D__law_powers.kp D__law_powers.b .nil pass0 (pa_cons (pv 2) (pa_cons (pv 3) pa_nil))))
 (pss_cons (ps_set (i := 5) sc_law.nd rfl (Or.inl rfl) (pe_call D_settled_by.ok (hr.mono (by omega)) (by rfl) D_settled_by.g D_settled_by.kp D_settled_by.b .nil passL (pa_cons (pv 3) (pa_cons (pv 4) pa_nil))))
 (pss_cons (ps_for PassesOwn.never rfl (pi_range1 (by rfl) n_range (pa_cons pe_int pa_nil)) (pg_name (i := 6) sc_law.nd rfl (Or.inl rfl))
 (pss_cons (ps_set (i := 7) sc_law.nd rfl (Or.inl rfl) (pe_call D__law_beginning.ok (hr.mono (by omega)) (by rfl) D__law_beginning.g D__law_beginning.kp D__law_beginning.b .nil pass0 (pa_cons (pv 2) (pa_cons (pv 3) (pa_cons (pv 4) (pa_cons (pv 5) pa_nil))))))
 (pss_cons (ps_set (i := 8) sc_law.nd rfl (Or.inr rfl) (pe_call D__law_followed.ok (hr.mono (by omega)) (by rfl) D__law_followed.g D__law_followed.kp D__law_followed.b .nil pass0 (pa_cons (pv 3) (pa_cons (pv 4) (pa_cons (pe_slice (sl_listK K) (pv 7) po_none (po_some (pv 5))) (pa_cons pe_int pa_nil))))))
 (pss_cons (ps_set (i := 9) sc_law.nd rfl (Or.inl rfl) (pe_callB (cr_allK K rfl) (by rfl) n_all (by decide +kernel) (pa_cons (pe_lc (own := [("_law_place", 12)]) (by rfl) sc_law.nd (pi_range1 (by rfl) n_range (pa_cons pe_int pa_nil)) (blkOk_by (own := [("_law_place", 12)]) (N := ["_law_script", "_law_k", "_law_bag_here", "_law_p", "_law_powers_here", "_law_least", "_law_turn", "_law_firsts", "_law_row", "_law_nought", "_law_many", "_law_due", "_law_place"]) (sc := defScope s_law) (by decide +kernel)) (fun _ _ _ _ _ => (pg_name (i := 12) sc_law.nd rfl (Or.inl rfl))) (fun _ _ _ _ _ => pts_nil) (fun _ _ _ _ _ => (pe_cmpR op_eq (pe_call D__law_sum_at.ok (hr.mono (by omega)) (by rfl) D__law_sum_at.g D__law_sum_at.kp D__law_sum_at.b .nil pass0 (pa_cons (pv 3) (pa_cons (pv 4) (pa_cons (pv 8) (pa_cons (pv 12) pa_nil))))) pe_int (nomark _)))) pa_nil)))
 (pss_cons (ps_set (i := 10) sc_law.nd rfl (Or.inl rfl) (pe_call D__law_take.ok (hr.mono (by omega)) (by rfl) D__law_take.g D__law_take.kp D__law_take.b .nil pass0 (pa_cons (pv 2) (pa_cons pe_int pa_nil))))
 (pss_cons (ps_set (i := 11) sc_law.nd rfl (Or.inl rfl) (pe_slice (sl_listK K) (pv 8) po_none (po_some (pv 10))))
 (Evl.pss_cut (ps_if (PW.pt (pw_or (pt_not (pt_val (pv 9))) (pw_or1 (pt_cmpR (op_neDK K hr.units) (pe_slice (sl_listK K) (pv 8) po_none (po_some (pe_callB (call_len_seqK K) (by rfl) n_len (by decide +kernel) (pa_cons (pv 7) pa_nil)))) (pv 7) (nomark _))))) (pss_one (ps_set (i := 11) sc_law.nd rfl (Or.inl rfl) pe_str)) pss_nil)
 (pss_one (ps_if (pt_cmpR (op_neDK K hr.units) (pe_call D__law_told.ok (hr.mono (by omega)) (by rfl) D__law_told.g D__law_told.kp D__law_told.b .nil pass0 (pa_cons (pv 3) (pa_cons (pv 4) (pa_cons (pe_callTy (call_list_ofK K) (by rfl) n_list (by decide +kernel) (pa_cons (pv 7) pa_nil)) (pa_cons (pv 10) pa_nil))))) (pv 11) (nomark _)) (pss_one (ps_ret pe_bl)) pss_nil)))))))))
 (pss_one (ps_if (pt_not (pt_val (pe_call D__law_no_prime.ok (hr.mono (by omega)) (by rfl) D__law_no_prime.g D__law_no_prime.kp D__law_no_prime.b .nil pass0 (pa_cons (pe_ix (ix_listK K) (pe_lst (pa_cons pe_non (pa_cons pe_bl (pa_cons pe_int (pa_cons pe_int (pa_cons pe_int (pa_cons pe_str (pa_cons (pe_tup (pa_cons pe_int pa_nil)) (pa_cons (pe_un un_neg pe_int) (pa_cons pe_int pa_nil)))))))))) (pe_call D__law_take.ok (hr.mono (by omega)) (by rfl) D__law_take.g D__law_take.kp D__law_take.b .nil pass0 (pa_cons (pv 2) (pa_cons pe_int pa_nil))) (fun _ _ => rfl)) pa_nil)))) (pss_one (ps_ret pe_bl)) pss_nil))))))))
 (pss_one (ps_ret pe_bl))), ?_⟩
    have F0 : Ex H H := Ex.refl H
    replace q : ∀ H', Ex H H' → Q (.bl true) H' := fun H' _ => q H'
    refine q_forR1 (er_mx2 er_int (er_mn2 er_int (er_lenL (er_var rfl (rl_of (Evl.ex_l F0 hS)))))) mm_b fun H1 e2 => ?_
    replace F0 := F0.trans e2
    have k3 : Kt K _ _ := Kt.refl H1
    refine fq_R (lo := 0) (hi := (mx2 ((3 : Int)) ((mn2 ((4 : Int)) ((ns.length : Int)))))) (by rw [Int.sub_zero]) (fun i σ' H' => ∃ (s1 : Unit) (j4 : Option V) (j5 : Option V) (j6 : Option V) (j7 : Option V) (j8 : Option V) (j9 : Option V) (j10 : Option V) (j11 : Option V) (j12 : Option V) (j13 : Option V) (j14 : Option V), True ∧ σ' = [some (.ref a), j4, j5, j6, j7, j8, j9, j10, j11, j12, j13, j14, none] ∧ Ex H H' ∧ Kt K H1 H') ?_ ?_ ?_
    · exact ⟨(), _, _, _, _, _, _, _, _, _, _, _, trivial, rfl, F0, k3⟩
    ·
      rintro i x1  _ H15 hi hx1 ⟨s1, j4, j5, j6, j7, j8, j9, j10, j11, j12, j13, j14, hs1, rfl, F0, k3⟩
      have hr1 := rng_at hx1
      refine q_asg0 ?_
      refine go_callA ?_
      refine go_cons ?_
      refine ⟨_, rfl, ?_⟩
      refine go_cons ?_
      refine ⟨_, rfl, ?_⟩
      refine go_nil ?_
      refine ⟨_, _, _, rfl, Evl.ex_l F0 hS, (by omega), (Int.lt_of_lt_of_le hr1.2.2 mm_b2), fun b18 H19 n20 e21 B22 => ?_⟩
      have n0b18 : H b18 = none := fresh_back F0 n20
      replace F0 := F0.trans e21
      replace k3 := k3.trans (Kt.ex e21)
      refine q_asg0 ?_
      refine go_opK ?_
      refine go_L (el_lst (R := rI) (eas er_int (eas er_int (eas er_int eas0))) (by first | decide | simp)) fun p25 H23 n26 e24 l27 => ?_
      have neb18p25 : b18 ≠ p25 := B22.ne n26
      have n0p25 : H p25 = none := fresh_back F0 n26
      replace B22 := Bag.ex B22 e24
      replace F0 := F0.trans e24
      replace k3 := k3.trans (Kt.ex e24)
      refine go_callA ?_
      refine go_cons ?_
      refine ⟨_, rfl, ?_⟩
      refine go_cons ?_
      refine go_I er_int fun H30 e31 => ?_
      replace B22 := Bag.ex B22 e31
      replace l27 := Lt.ex l27 e31
      replace F0 := F0.trans e31
      replace k3 := k3.trans (Kt.ex e31)
      refine go_nil ?_
      refine ⟨b18, _, rfl, B22, (by first | assumption | omega | (simp only [List.length_append, List.length_cons, List.length_nil, List.length_map, List.length_range, List.length_set, rng_len, enm_len, repL_len] at *; omega)), (by first | assumption | omega | (simp only [List.length_append, List.length_cons, List.length_nil, List.length_map, List.length_range, List.length_set, rng_len, enm_len, repL_len] at *; omega)), fun y34 H33 c35 B36 hqy34_0 => ?_⟩
      have kt37 : Kt K _ _ := Bag.kt B22 c35
      replace k3 := k3.trans kt37
      replace l27 := Lt.keep l27 kt37 c35 (by first | assumption | exact Ne.symm (by assumption))
      replace F0 := C1.ofNew F0 n0b18 c35
      replace B22 := B36
      refine go_I (er_ixL0 (0 : Int) (er_K (Lt.rl l27)) er_iK (by first | omega | assumption | (simp; omega) | (simp only [List.length_append, List.length_cons, List.length_nil, List.length_map, List.length_range, List.length_set, rng_len, enm_len, repL_len] at *; omega)) (by first | omega | assumption | (simp; omega) | (simp only [List.length_append, List.length_cons, List.length_nil, List.length_map, List.length_range, List.length_set, rng_len, enm_len, repL_len] at *; omega))) fun H39 e40 => ?_
      replace B22 := Bag.ex B22 e40
      replace l27 := Lt.ex l27 e40
      replace F0 := F0.trans e40
      replace k3 := k3.trans (Kt.ex e40)
      obtain ⟨lp, hlp, hP⟩ := pick3i (by assumption)
      rw [hlp]
      have hP5 := hP.le
      refine q_asg0 ?_
      refine go_callA ?_
      refine go_cons ?_
      refine ⟨_, rfl, ?_⟩
      refine go_cons ?_
      refine ⟨_, rfl, ?_⟩
      refine go_nil ?_
      refine ⟨_, b18, rfl, B22, (by first | assumption | omega | (simp only [List.length_append, List.length_cons, List.length_nil, List.length_map, List.length_range, List.length_set, rng_len, enm_len, repL_len] at *; omega)), fun y44 v47 H43 c45 B46 f48 hqy44_0 => ?_⟩
      have kt49 : Kt K _ _ := Bag.kt B22 c45
      replace k3 := k3.trans kt49
      replace F0 := C1.ofNew F0 n0b18 c45
      replace B22 := B46
      have hG : PwG lp y44 := by assumption
      have hgl := hG.least
      refine q_asgI (er_call (eac er_iv (eac (er_var rfl f48) ea0)) (gv_settled_by (by first | assumption | omega | (simp only [List.length_append, List.length_cons, List.length_nil, List.length_map, List.length_range, List.length_set, rng_len, enm_len, repL_len] at *; omega)) hG.ok)) fun H50 e51 => ?_
      replace B22 := Bag.ex B22 e51
      replace f48 := Me.ex e51 f48
      replace F0 := F0.trans e51
      replace k3 := k3.trans (Kt.ex e51)
      refine q_forR1 er_int (by first | omega | assumption) fun H52 e53 => ?_
      replace B22 := Bag.ex B22 e53
      replace f48 := Me.ex e53 f48
      replace F0 := F0.trans e53
      replace k3 := k3.trans (Kt.ex e53)
      have k54 : Kt K _ _ := Kt.refl H52
      refine fq_R (lo := 0) (hi := (3 : Int)) (by rw [Int.sub_zero]) (fun i σ' H' => ∃ (s2 : Unit) (j55 : Option V) (j56 : Option V) (j57 : Option V) (j58 : Option V) (j59 : Option V) (j60 : Option V), True ∧ σ' = [some (.ref a), some (.int x1), some (.ref b18), some (.int lp), some v47, some (.int (((m_settled_known lp y44)))), j55, j56, j57, j58, j59, j60, none] ∧ Ex H H' ∧ Kt K H52 H' ∧ Bag H' b18) ?_ ?_ ?_
      · exact ⟨(), _, _, _, _, _, _, trivial, rfl, F0, k54, B22⟩
      ·
        rintro i x2  _ H61 hi hx2 ⟨s2, j55, j56, j57, j58, j59, j60, hs2, rfl, F0, k54, B22⟩
        replace f48 := Mkt.kt k54 f48
        replace k3 := k3.trans k54
        have hr2 := rng_at hx2
        refine q_asg0 ?_
        refine go_callA ?_
        refine go_cons ?_
        refine ⟨_, rfl, ?_⟩
        refine go_cons ?_
        refine ⟨_, rfl, ?_⟩
        refine go_cons ?_
        refine ⟨_, rfl, ?_⟩
        refine go_cons ?_
        refine ⟨_, rfl, ?_⟩
        refine go_nil ?_
        refine ⟨_, _, _, b18, v47, rfl, B22, f48, (by first | assumption | omega | (simp only [List.length_append, List.length_cons, List.length_nil, List.length_map, List.length_range, List.length_set, rng_len, enm_len, repL_len] at *; omega)), rfl, fun y67 p70 H66 n71 c68 B69 l72 hqy67_0 => ?_⟩
        have neb18p70 : b18 ≠ p70 := B22.ne n71
        have n0p70 : H p70 = none := fresh_back F0 n71
        have kt73 : Kt K _ _ := Bag.kt B22 c68
        replace k54 := k54.trans kt73
        replace k3 := k3.trans kt73
        replace f48 := Mkt.kt kt73 f48
        replace F0 := C1.ofNew F0 n0b18 c68
        replace B22 := B69
        have hfl : (m_settled_known lp y44).toNat ≤ y67.length ∧ y67.length ≤ 30 := by assumption
        refine q_asgL (el_call (eac er_iv (eac (er_var rfl f48) (eac (er_QL (El.er (K := K) (el_sl (er_var rfl (Lt.rl l72)) eo0 (eo1 er_iv)))) (eac er_int ea0)))) (gv__law_followed (by first | assumption | omega | (simp only [List.length_append, List.length_cons, List.length_nil, List.length_map, List.length_range, List.length_set, rng_len, enm_len, repL_len] at *; omega)) (cut_ge hgl.1 hfl.1) (cut_le60 hgl hfl.1))) fun p76 H74 n77 e75 l78 => ?_
        have neb18p76 : b18 ≠ p76 := B22.ne n77
        have nep70p76 : p70 ≠ p76 := l72.ne n77
        have n0p76 : H p76 = none := fresh_back F0 n77
        replace B22 := Bag.ex B22 e75
        replace f48 := Me.ex e75 f48
        replace l72 := Lt.ex l72 e75
        replace F0 := F0.trans e75
        replace k54 := k54.trans (Kt.ex e75)
        replace k3 := k3.trans (Kt.ex e75)
        refine q_asgB (er_all (El.er (K := K) (el_lcR1 (K := K) er_int (by first | omega | assumption | (simp only [List.length_append, List.length_cons, List.length_nil, List.length_map, List.length_range, List.length_set, rng_len, enm_len, repL_len] at *; omega)) (fun _ => rfl) (fun x81 H1 e82 hx83 => (er_eqI (er_call (eac er_iv (eac (er_var rfl (Me.ex e82 f48)) (eacO rfl (Lt.ex l78 e82) (eac er_iv ea0)))) (gv__law_sum_at (PwG.toPwP (by assumption)) (by first | assumption | omega | (simp only [List.length_append, List.length_cons, List.length_nil, List.length_map, List.length_range, List.length_set, rng_len, enm_len, repL_len] at *; omega)))) er_int))))) fun H79 e80 => ?_
        replace B22 := Bag.ex B22 e80
        replace f48 := Me.ex e80 f48
        replace l72 := Lt.ex l72 e80
        replace l78 := Lt.ex l78 e80
        replace F0 := F0.trans e80
        replace k54 := k54.trans (Kt.ex e80)
        replace k3 := k3.trans (Kt.ex e80)
        refine q_asg0 ?_
        refine go_callA ?_
        refine go_cons ?_
        refine ⟨_, rfl, ?_⟩
        refine go_cons ?_
        refine go_I er_int fun H86 e87 => ?_
        replace B22 := Bag.ex B22 e87
        replace f48 := Me.ex e87 f48
        replace l72 := Lt.ex l72 e87
        replace l78 := Lt.ex l78 e87
        replace F0 := F0.trans e87
        replace k54 := k54.trans (Kt.ex e87)
        replace k3 := k3.trans (Kt.ex e87)
        refine go_nil ?_
        refine ⟨b18, _, rfl, B22, (by first | assumption | omega | (simp only [List.length_append, List.length_cons, List.length_nil, List.length_map, List.length_range, List.length_set, rng_len, enm_len, repL_len] at *; omega)), (by first | assumption | omega | (simp only [List.length_append, List.length_cons, List.length_nil, List.length_map, List.length_range, List.length_set, rng_len, enm_len, repL_len] at *; omega)), fun y90 H89 c91 B92 hqy90_0 => ?_⟩
        have kt93 : Kt K _ _ := Bag.kt B22 c91
        replace k54 := k54.trans kt93
        replace k3 := k3.trans kt93
        replace f48 := Mkt.kt kt93 f48
        replace l72 := Lt.keep l72 kt93 c91 (by first | assumption | exact Ne.symm (by assumption))
        replace l78 := Lt.keep l78 kt93 c91 (by first | assumption | exact Ne.symm (by assumption))
        replace F0 := C1.ofNew F0 n0b18 c91
        replace B22 := B92
        refine q_asgL (el_sl (er_var rfl (Lt.rl l78)) eo0 (eo1 er_iv)) fun p96 H94 n97 e95 l98 => ?_
        have neb18p96 : b18 ≠ p96 := B22.ne n97
        have nep70p96 : p70 ≠ p96 := l72.ne n97
        have nep76p96 : p76 ≠ p96 := l78.ne n97
        have n0p96 : H p96 = none := fresh_back F0 n97
        replace B22 := Bag.ex B22 e95
        replace f48 := Me.ex e95 f48
        replace l72 := Lt.ex l72 e95
        replace l78 := Lt.ex l78 e95
        replace F0 := F0.trans e95
        replace k54 := k54.trans (Kt.ex e95)
        replace k3 := k3.trans (Kt.ex e95)
        have k102 : Kt K _ _ := Kt.refl H94
        refine ⟨fun σ' H' => ((((!(((((rng 0 (50 : Int))).map fun x81 => (decide (((sumAt lp y44 ((fol lp y44 ((60 : Int).toNat - (cutL y67 none (some (((m_settled_known lp y44))))).length) (cutL y67 none (some (((m_settled_known lp y44))))))) x81)) = (0 : Int))))).all id)) || (!decide ((cutL ((fol lp y44 ((60 : Int).toNat - (cutL y67 none (some (((m_settled_known lp y44))))).length) (cutL y67 none (some (((m_settled_known lp y44))))))) none (some ((y67.length : Int)))) = y67)))) = true ∧ σ' = [some (.ref a), some (.int x1), some (.ref b18), some (.int lp), some v47, some (.int (((m_settled_known lp y44)))), some (.int x2), some (.ref p70), some (.ref p76), some (.bl ((((((rng 0 (50 : Int))).map fun x81 => (decide (((sumAt lp y44 ((fol lp y44 ((60 : Int).toNat - (cutL y67 none (some (((m_settled_known lp y44))))).length) (cutL y67 none (some (((m_settled_known lp y44))))))) x81)) = (0 : Int))))).all id))), some (.int y90), some (.str (S (([110, 111, 32, 114, 111, 119] : List Nat)))), none] ∧ Ex H H' ∧ Kt K H94 H' ∧ Lt rI H' p70 y67 ∧ Lt rI H' p76 (((fol lp y44 ((60 : Int).toNat - (cutL y67 none (some (((m_settled_known lp y44))))).length) (cutL y67 none (some (((m_settled_known lp y44)))))))) ∧ Bag H' b18) ∨ ((((!(((((rng 0 (50 : Int))).map fun x81 => (decide (((sumAt lp y44 ((fol lp y44 ((60 : Int).toNat - (cutL y67 none (some (((m_settled_known lp y44))))).length) (cutL y67 none (some (((m_settled_known lp y44))))))) x81)) = (0 : Int))))).all id)) || (!decide ((cutL ((fol lp y44 ((60 : Int).toNat - (cutL y67 none (some (((m_settled_known lp y44))))).length) (cutL y67 none (some (((m_settled_known lp y44))))))) none (some ((y67.length : Int)))) = y67)))) = false ∧ σ' = [some (.ref a), some (.int x1), some (.ref b18), some (.int lp), some v47, some (.int (((m_settled_known lp y44)))), some (.int x2), some (.ref p70), some (.ref p76), some (.bl ((((((rng 0 (50 : Int))).map fun x81 => (decide (((sumAt lp y44 ((fol lp y44 ((60 : Int).toNat - (cutL y67 none (some (((m_settled_known lp y44))))).length) (cutL y67 none (some (((m_settled_known lp y44))))))) x81)) = (0 : Int))))).all id))), some (.int y90), some (.ref p96), none] ∧ Ex H H' ∧ Kt K H94 H' ∧ Lt rI H' p70 y67 ∧ Lt rI H' p76 (((fol lp y44 ((60 : Int).toNat - (cutL y67 none (some (((m_settled_known lp y44))))).length) (cutL y67 none (some (((m_settled_known lp y44)))))))) ∧ Lt rI H' p96 ((cutL ((fol lp y44 ((60 : Int).toNat - (cutL y67 none (some (((m_settled_known lp y44))))).length) (cutL y67 none (some (((m_settled_known lp y44))))))) none (some y90))) ∧ Bag H' b18), ?_, ?_⟩
        · refine s_if (et_or (et_not (et_b er_bv)) fun hc99 => (et_t (er_neD (K := K) (El.er (K := K) (el_sl (er_var rfl (Lt.rl l78)) eo0 (eo1 (er_lenL (er_var rfl (Lt.rl l72)))))) (er_var rfl (Lt.rl l72))))) (fun hb_1 H100 e101 => ?_) (fun hb_1 H100 e101 => ?_)
          ·
            have hb_1' := hb_1
            try simp only [Bool.and_eq_true, Bool.or_eq_true, Bool.not_eq_true', Bool.and_eq_false_iff, Bool.or_eq_false_iff, Bool.not_eq_false', decide_eq_true_eq, decide_eq_false_iff_not] at hb_1'
            replace B22 := Bag.ex B22 e101
            replace f48 := Me.ex e101 f48
            replace l72 := Lt.ex l72 e101
            replace l78 := Lt.ex l78 e101
            replace l98 := Lt.ex l98 e101
            replace F0 := F0.trans e101
            replace k54 := k54.trans (Kt.ex e101)
            replace k3 := k3.trans (Kt.ex e101)
            replace k102 := k102.trans (Kt.ex e101)
            refine s_asgX (er_xc [110, 111, 32, 114, 111, 119]) fun H103 e104 => ?_
            replace B22 := Bag.ex B22 e104
            replace f48 := Me.ex e104 f48
            replace l72 := Lt.ex l72 e104
            replace l78 := Lt.ex l78 e104
            replace F0 := F0.trans e104
            replace k54 := k54.trans (Kt.ex e104)
            replace k3 := k3.trans (Kt.ex e104)
            replace k102 := k102.trans (Kt.ex e104)
            exact .inl ⟨hb_1, rfl, F0, k102, l72, l78, B22⟩
          ·
            have hb_1' := hb_1
            try simp only [Bool.and_eq_true, Bool.or_eq_true, Bool.not_eq_true', Bool.and_eq_false_iff, Bool.or_eq_false_iff, Bool.not_eq_false', decide_eq_true_eq, decide_eq_false_iff_not] at hb_1'
            replace B22 := Bag.ex B22 e101
            replace f48 := Me.ex e101 f48
            replace l72 := Lt.ex l72 e101
            replace l78 := Lt.ex l78 e101
            replace l98 := Lt.ex l98 e101
            replace F0 := F0.trans e101
            replace k54 := k54.trans (Kt.ex e101)
            replace k3 := k3.trans (Kt.ex e101)
            replace k102 := k102.trans (Kt.ex e101)
            exact .inr ⟨hb_1, rfl, F0, k102, l72, l78, l98, B22⟩
        rintro _ H106 (⟨hb_1, rfl, F0, kt105, l72, l78, B22⟩ | ⟨hb_1, rfl, F0, kt105, l72, l78, l98, B22⟩)
        ·
          have hb_1' := hb_1
          try simp only [Bool.and_eq_true, Bool.or_eq_true, Bool.not_eq_true', Bool.and_eq_false_iff, Bool.or_eq_false_iff, Bool.not_eq_false', decide_eq_true_eq, decide_eq_false_iff_not] at hb_1'
          replace k54 := k54.trans kt105
          replace k3 := k3.trans kt105
          replace f48 := Mkt.kt kt105 f48
          refine s_not (et_t (er_neD (K := K) (er_call (eac er_iv (eac (er_var rfl f48) (eacL (el_listL (er_var rfl (Lt.rl l72))) (eac er_iv ea0)))) (gv__law_told (by assumption) hfl.1 (by omega) (by omega))) (er_US er_xv))) (by first | exact due1 (by assumption) hfl.1 hfl.2 (by omega) (row60 hgl.1 hfl.1) hb_1 | exact due2 (by assumption) hfl.1 hfl.2 (by omega) (row60 hgl.1 hfl.1) hb_1) fun H107 e108 => ?_
          replace B22 := Bag.ex B22 e108
          replace f48 := Me.ex e108 f48
          replace l72 := Lt.ex l72 e108
          replace l78 := Lt.ex l78 e108
          replace F0 := F0.trans e108
          replace k54 := k54.trans (Kt.ex e108)
          replace k3 := k3.trans (Kt.ex e108)
          exact ⟨(), _, _, _, _, _, _, trivial, rfl, F0, k54, B22⟩
        have hb_1' := hb_1
        try simp only [Bool.and_eq_true, Bool.or_eq_true, Bool.not_eq_true', Bool.and_eq_false_iff, Bool.or_eq_false_iff, Bool.not_eq_false', decide_eq_true_eq, decide_eq_false_iff_not] at hb_1'
        replace k54 := k54.trans kt105
        replace k3 := k3.trans kt105
        replace f48 := Mkt.kt kt105 f48
        refine s_not (et_t (er_neD (K := K) (er_call (eac er_iv (eac (er_var rfl f48) (eacL (el_listL (er_var rfl (Lt.rl l72))) (eac er_iv ea0)))) (gv__law_told (by assumption) hfl.1 (by omega) (by omega))) (er_UL (er_var rfl (Lt.rl l98))))) (by first | exact due1 (by assumption) hfl.1 hfl.2 (by omega) (row60 hgl.1 hfl.1) hb_1 | exact due2 (by assumption) hfl.1 hfl.2 (by omega) (row60 hgl.1 hfl.1) hb_1) fun H109 e110 => ?_
        replace B22 := Bag.ex B22 e110
        replace f48 := Me.ex e110 f48
        replace l72 := Lt.ex l72 e110
        replace l78 := Lt.ex l78 e110
        replace l98 := Lt.ex l98 e110
        replace F0 := F0.trans e110
        replace k54 := k54.trans (Kt.ex e110)
        replace k3 := k3.trans (Kt.ex e110)
        exact ⟨(), _, _, _, _, _, _, trivial, rfl, F0, k54, B22⟩
      rintro _ H111 ⟨s2, j55, j56, j57, j58, j59, j60, hs2, rfl, F0, k54, B22⟩
      replace f48 := Mkt.kt k54 f48
      replace k3 := k3.trans k54
      refine s_when0 ?_
      refine go_not ?_
      refine go_tB ?_
      refine go_callA ?_
      refine go_cons ?_
      refine go_opK ?_
      refine go_L (el_lst (R := rBad K) (xs := [(), (), (), (), (), (), (), (), ()]) (eas (er_badN er_non) (eas (er_badB (er_bl (k := true))) (eas (er_badI (er_int (k := (1 : Int)))) (eas (er_badI (er_int (k := (4 : Int)))) (eas (er_badI (er_int (k := (7 : Int)))) (eas (er_badS (er_str (k := ("2" : Str)))) (eas (er_badT (er_tup (eas er_int eas0) (by first | decide | simp))) (eas (er_badI (er_neg (er_int (k := 2)))) (eas (er_badI (er_int (k := (0 : Int)))) eas0))))))))) (by decide)) fun p114 H112 n115 e113 l116 => ?_
      have neb18p114 : b18 ≠ p114 := B22.ne n115
      have n0p114 : H p114 = none := fresh_back F0 n115
      replace B22 := Bag.ex B22 e113
      replace f48 := Me.ex e113 f48
      replace F0 := F0.trans e113
      replace k3 := k3.trans (Kt.ex e113)
      refine go_callA ?_
      refine go_cons ?_
      refine ⟨_, rfl, ?_⟩
      refine go_cons ?_
      refine go_I er_int fun H119 e120 => ?_
      replace B22 := Bag.ex B22 e120
      replace f48 := Me.ex e120 f48
      replace l116 := Lt.ex l116 e120
      replace F0 := F0.trans e120
      replace k3 := k3.trans (Kt.ex e120)
      refine go_nil ?_
      refine ⟨b18, _, rfl, B22, (by first | assumption | omega | (simp only [List.length_append, List.length_cons, List.length_nil, List.length_map, List.length_range, List.length_set, rng_len, enm_len, repL_len] at *; omega)), (by first | assumption | omega | (simp only [List.length_append, List.length_cons, List.length_nil, List.length_map, List.length_range, List.length_set, rng_len, enm_len, repL_len] at *; omega)), fun y123 H122 c124 B125 hqy123_0 => ?_⟩
      have kt126 : Kt K _ _ := Bag.kt B22 c124
      replace k3 := k3.trans kt126
      replace f48 := Mkt.kt kt126 f48
      replace l116 := Lt.keep l116 kt126 c124 (by first | assumption | exact Ne.symm (by assumption))
      replace F0 := C1.ofNew F0 n0b18 c124
      replace B22 := B125
      refine go_R (R := (rBad K)) (er_ixL0 () (er_K (Lt.rl l116)) er_iK (by first | omega | assumption | (simp; omega) | (simp only [List.length_append, List.length_cons, List.length_nil, List.length_map, List.length_range, List.length_set, rng_len, enm_len, repL_len] at *; omega)) (by first | omega | assumption | (simp; omega) | (simp only [List.length_append, List.length_cons, List.length_nil, List.length_map, List.length_range, List.length_set, rng_len, enm_len, repL_len] at *; omega))) fun v130 H128 e129 f131 => ?_
      replace B22 := Bag.ex B22 e129
      replace f48 := Me.ex e129 f48
      replace l116 := Lt.ex l116 e129
      replace F0 := F0.trans e129
      replace k3 := k3.trans (Kt.ex e129)
      refine go_nil ?_
      refine ⟨_, v130, rfl, f131, fun H133 c135 => ?_⟩
      replace B22 := Bag.ex B22 c135
      replace f48 := Me.ex c135 f48
      replace f131 := Me.ex c135 f131
      replace F0 := F0.trans c135
      replace k3 := k3.trans (Kt.ex c135)
      refine ⟨_, rfl, ?_⟩
      refine ite_no rfl ?_
      exact ⟨(), _, _, _, _, _, _, _, _, _, _, _, trivial, rfl, F0, k3⟩
    rintro _ H137 ⟨s1, j4, j5, j6, j7, j8, j9, j10, j11, j12, j13, j14, hs1, rfl, F0, k3⟩
    refine s_ret (R := rB) er_bl fun v H' e r => ?_
    cases r
    have z := q _ (F0.trans e)
    exact z

end
theorem all_mk {l : PySem.W.OpenLaw} {w : World} {K : PySem.W.Frag} {h : Heap} {mg : Str → Option Value} {fa f0 f1 f2 f3 f4 f5 f6 f7 f8 f9 f10 f11 f12 f13 f14 f15 f16 f17 f18 f19 f20 : Addr} (X : K.In h) (G : h.Ns mainGlobals mg) (hfa : mg "law" = some (.ref fa))
    {od0 an0 : Option Addr} {sl0 : Array (Option Value)} {oc0 kV0 dc0 pm0 cd0 ct0 : Value}
    {od1 an1 : Option Addr} {sl1 : Array (Option Value)} {oc1 kV1 dc1 pm1 cd1 ct1 : Value}
    {od2 an2 : Option Addr} {sl2 : Array (Option Value)} {oc2 kV2 dc2 pm2 cd2 ct2 : Value}
    {od3 an3 : Option Addr} {sl3 : Array (Option Value)} {oc3 kV3 dc3 pm3 cd3 ct3 : Value}
    {od4 an4 : Option Addr} {sl4 : Array (Option Value)} {oc4 kV4 dc4 pm4 cd4 ct4 : Value}
    {od5 an5 : Option Addr} {sl5 : Array (Option Value)} {oc5 kV5 dc5 pm5 cd5 ct5 : Value}
    {od6 an6 : Option Addr} {sl6 : Array (Option Value)} {oc6 kV6 dc6 pm6 cd6 ct6 : Value}
    {od7 an7 : Option Addr} {sl7 : Array (Option Value)} {oc7 kV7 dc7 pm7 cd7 ct7 : Value}
    {od8 an8 : Option Addr} {sl8 : Array (Option Value)} {oc8 kV8 dc8 pm8 cd8 ct8 : Value}
    {od9 an9 : Option Addr} {sl9 : Array (Option Value)} {oc9 kV9 dc9 pm9 cd9 ct9 : Value}
    {od10 an10 : Option Addr} {sl10 : Array (Option Value)} {oc10 kV10 dc10 pm10 cd10 ct10 : Value}
    {od11 an11 : Option Addr} {sl11 : Array (Option Value)} {oc11 kV11 dc11 pm11 cd11 ct11 : Value}
    {od12 an12 : Option Addr} {sl12 : Array (Option Value)} {oc12 kV12 dc12 pm12 cd12 ct12 : Value}
    {od13 an13 : Option Addr} {sl13 : Array (Option Value)} {oc13 kV13 dc13 pm13 cd13 ct13 : Value}
    {od14 an14 : Option Addr} {sl14 : Array (Option Value)} {oc14 kV14 dc14 pm14 cd14 ct14 : Value}
    {od15 an15 : Option Addr} {sl15 : Array (Option Value)} {oc15 kV15 dc15 pm15 cd15 ct15 : Value}
    {od16 an16 : Option Addr} {sl16 : Array (Option Value)} {oc16 kV16 dc16 pm16 cd16 ct16 : Value}
    {od17 an17 : Option Addr} {sl17 : Array (Option Value)} {oc17 kV17 dc17 pm17 cd17 ct17 : Value}
    {od18 an18 : Option Addr} {sl18 : Array (Option Value)} {oc18 kV18 dc18 pm18 cd18 ct18 : Value}
    {od19 an19 : Option Addr} {sl19 : Array (Option Value)} {oc19 kV19 dc19 pm19 cd19 ct19 : Value}
    {od20 an20 : Option Addr} {sl20 : Array (Option Value)} {oc20 kV20 dc20 pm20 cd20 ct20 : Value}
    {a_PRIMES : Addr} {dd_PRIMES : Option Addr} {cn_PRIMES : Nat} {cs_PRIMES : Array (Option Value)} {tkPRIMES0 tkPRIMES1 tkPRIMES2 : Tok}
    {C_DigitError : Addr}
    {C_NoPrime : Addr}
    {C_NoRow : Addr}
    (a0 : PySem.W.nsIn K mainGlobals "is_whole" = some (some (.ref f0)))
    (l0 : K.lookup f0 = some ⟨oc0, od0, .func (PySem.W.fnOf "is_whole" "is_whole" (defArgs s_is_whole) (defBody s_is_whole) (defScope s_is_whole) .none kV0 dc0 pm0 an0 cd0 ct0), sl0⟩)
    (c0 : PySem.W.codeIn K cd0 "is_whole" = true)
    (k0 : PySem.W.keepIn K (.ref f0) = true)
    (a1 : PySem.W.nsIn K mainGlobals "is_prime" = some (some (.ref f1)))
    (l1 : K.lookup f1 = some ⟨oc1, od1, .func (PySem.W.fnOf "is_prime" "is_prime" (defArgs s_is_prime) (defBody s_is_prime) (defScope s_is_prime) .none kV1 dc1 pm1 an1 cd1 ct1), sl1⟩)
    (c1 : PySem.W.codeIn K cd1 "is_prime" = true)
    (k1 : PySem.W.keepIn K (.ref f1) = true)
    (a2 : PySem.W.nsIn K mainGlobals "look_prime" = some (some (.ref f2)))
    (l2 : K.lookup f2 = some ⟨oc2, od2, .func (PySem.W.fnOf "look_prime" "look_prime" (defArgs s_look_prime) (defBody s_look_prime) (defScope s_look_prime) .none kV2 dc2 pm2 an2 cd2 ct2), sl2⟩)
    (c2 : PySem.W.codeIn K cd2 "look_prime" = true)
    (k2 : PySem.W.keepIn K (.ref f2) = true)
    (a3 : PySem.W.nsIn K mainGlobals "order_of" = some (some (.ref f3)))
    (l3 : K.lookup f3 = some ⟨oc3, od3, .func (PySem.W.fnOf "order_of" "order_of" (defArgs s_order_of) (defBody s_order_of) (defScope s_order_of) .none kV3 dc3 pm3 an3 cd3 ct3), sl3⟩)
    (c3 : PySem.W.codeIn K cd3 "order_of" = true)
    (k3 : PySem.W.keepIn K (.ref f3) = true)
    (a4 : PySem.W.nsIn K mainGlobals "settled_known" = some (some (.ref f4)))
    (l4 : K.lookup f4 = some ⟨oc4, od4, .func (PySem.W.fnOf "settled_known" "settled_known" (defArgs s_settled_known) (defBody s_settled_known) (defScope s_settled_known) .none kV4 dc4 pm4 an4 cd4 ct4), sl4⟩)
    (c4 : PySem.W.codeIn K cd4 "settled_known" = true)
    (k4 : PySem.W.keepIn K (.ref f4) = true)
    (a5 : PySem.W.nsIn K mainGlobals "back_of" = some (some (.ref f5)))
    (l5 : K.lookup f5 = some ⟨oc5, od5, .func (PySem.W.fnOf "back_of" "back_of" (defArgs s_back_of) (defBody s_back_of) (defScope s_back_of) .none kV5 dc5 pm5 an5 cd5 ct5), sl5⟩)
    (c5 : PySem.W.codeIn K cd5 "back_of" = true)
    (k5 : PySem.W.keepIn K (.ref f5) = true)
    (a6 : PySem.W.nsIn K mainGlobals "summed_at" = some (some (.ref f6)))
    (l6 : K.lookup f6 = some ⟨oc6, od6, .func (PySem.W.fnOf "summed_at" "summed_at" (defArgs s_summed_at) (defBody s_summed_at) (defScope s_summed_at) .none kV6 dc6 pm6 an6 cd6 ct6), sl6⟩)
    (c6 : PySem.W.codeIn K cd6 "summed_at" = true)
    (k6 : PySem.W.keepIn K (.ref f6) = true)
    (a7 : PySem.W.nsIn K mainGlobals "settled_by" = some (some (.ref f7)))
    (l7 : K.lookup f7 = some ⟨oc7, od7, .func (PySem.W.fnOf "settled_by" "settled_by" (defArgs s_settled_by) (defBody s_settled_by) (defScope s_settled_by) .none kV7 dc7 pm7 an7 cd7 ct7), sl7⟩)
    (c7 : PySem.W.codeIn K cd7 "settled_by" = true)
    (k7 : PySem.W.keepIn K (.ref f7) = true)
    (a8 : PySem.W.nsIn K mainGlobals "settled_entries" = some (some (.ref f8)))
    (l8 : K.lookup f8 = some ⟨oc8, od8, .func (PySem.W.fnOf "settled_entries" "settled_entries" (defArgs s_settled_entries) (defBody s_settled_entries) (defScope s_settled_entries) .none kV8 dc8 pm8 an8 cd8 ct8), sl8⟩)
    (c8 : PySem.W.codeIn K cd8 "settled_entries" = true)
    (k8 : PySem.W.keepIn K (.ref f8) = true)
    (a9 : PySem.W.nsIn K mainGlobals "_law_bag" = some (some (.ref f9)))
    (l9 : K.lookup f9 = some ⟨oc9, od9, .func (PySem.W.fnOf "_law_bag" "_law_bag" (defArgs s__law_bag) (defBody s__law_bag) (defScope s__law_bag) .none kV9 dc9 pm9 an9 cd9 ct9), sl9⟩)
    (c9 : PySem.W.codeIn K cd9 "_law_bag" = true)
    (k9 : PySem.W.keepIn K (.ref f9) = true)
    (a10 : PySem.W.nsIn K mainGlobals "_law_take" = some (some (.ref f10)))
    (l10 : K.lookup f10 = some ⟨oc10, od10, .func (PySem.W.fnOf "_law_take" "_law_take" (defArgs s__law_take) (defBody s__law_take) (defScope s__law_take) .none kV10 dc10 pm10 an10 cd10 ct10), sl10⟩)
    (c10 : PySem.W.codeIn K cd10 "_law_take" = true)
    (k10 : PySem.W.keepIn K (.ref f10) = true)
    (a11 : PySem.W.nsIn K mainGlobals "_law_numbers" = some (some (.ref f11)))
    (l11 : K.lookup f11 = some ⟨oc11, od11, .func (PySem.W.fnOf "_law_numbers" "_law_numbers" (defArgs s__law_numbers) (defBody s__law_numbers) (defScope s__law_numbers) .none kV11 dc11 pm11 an11 cd11 ct11), sl11⟩)
    (c11 : PySem.W.codeIn K cd11 "_law_numbers" = true)
    (k11 : PySem.W.keepIn K (.ref f11) = true)
    (a12 : PySem.W.nsIn K mainGlobals "_law_trimmed" = some (some (.ref f12)))
    (l12 : K.lookup f12 = some ⟨oc12, od12, .func (PySem.W.fnOf "_law_trimmed" "_law_trimmed" (defArgs s__law_trimmed) (defBody s__law_trimmed) (defScope s__law_trimmed) .none kV12 dc12 pm12 an12 cd12 ct12), sl12⟩)
    (c12 : PySem.W.codeIn K cd12 "_law_trimmed" = true)
    (k12 : PySem.W.keepIn K (.ref f12) = true)
    (a13 : PySem.W.nsIn K mainGlobals "_law_low_poly" = some (some (.ref f13)))
    (l13 : K.lookup f13 = some ⟨oc13, od13, .func (PySem.W.fnOf "_law_low_poly" "_law_low_poly" (defArgs s__law_low_poly) (defBody s__law_low_poly) (defScope s__law_low_poly) .none kV13 dc13 pm13 an13 cd13 ct13), sl13⟩)
    (c13 : PySem.W.codeIn K cd13 "_law_low_poly" = true)
    (k13 : PySem.W.keepIn K (.ref f13) = true)
    (a14 : PySem.W.nsIn K mainGlobals "_law_powers" = some (some (.ref f14)))
    (l14 : K.lookup f14 = some ⟨oc14, od14, .func (PySem.W.fnOf "_law_powers" "_law_powers" (defArgs s__law_powers) (defBody s__law_powers) (defScope s__law_powers) .none kV14 dc14 pm14 an14 cd14 ct14), sl14⟩)
    (c14 : PySem.W.codeIn K cd14 "_law_powers" = true)
    (k14 : PySem.W.keepIn K (.ref f14) = true)
    (a15 : PySem.W.nsIn K mainGlobals "_law_sum_at" = some (some (.ref f15)))
    (l15 : K.lookup f15 = some ⟨oc15, od15, .func (PySem.W.fnOf "_law_sum_at" "_law_sum_at" (defArgs s__law_sum_at) (defBody s__law_sum_at) (defScope s__law_sum_at) .none kV15 dc15 pm15 an15 cd15 ct15), sl15⟩)
    (c15 : PySem.W.codeIn K cd15 "_law_sum_at" = true)
    (k15 : PySem.W.keepIn K (.ref f15) = true)
    (a16 : PySem.W.nsIn K mainGlobals "_law_followed" = some (some (.ref f16)))
    (l16 : K.lookup f16 = some ⟨oc16, od16, .func (PySem.W.fnOf "_law_followed" "_law_followed" (defArgs s__law_followed) (defBody s__law_followed) (defScope s__law_followed) .none kV16 dc16 pm16 an16 cd16 ct16), sl16⟩)
    (c16 : PySem.W.codeIn K cd16 "_law_followed" = true)
    (k16 : PySem.W.keepIn K (.ref f16) = true)
    (a17 : PySem.W.nsIn K mainGlobals "_law_beginning" = some (some (.ref f17)))
    (l17 : K.lookup f17 = some ⟨oc17, od17, .func (PySem.W.fnOf "_law_beginning" "_law_beginning" (defArgs s__law_beginning) (defBody s__law_beginning) (defScope s__law_beginning) .none kV17 dc17 pm17 an17 cd17 ct17), sl17⟩)
    (c17 : PySem.W.codeIn K cd17 "_law_beginning" = true)
    (k17 : PySem.W.keepIn K (.ref f17) = true)
    (a18 : PySem.W.nsIn K mainGlobals "_law_told" = some (some (.ref f18)))
    (l18 : K.lookup f18 = some ⟨oc18, od18, .func (PySem.W.fnOf "_law_told" "_law_told" (defArgs s__law_told) (defBody s__law_told) (defScope s__law_told) .none kV18 dc18 pm18 an18 cd18 ct18), sl18⟩)
    (c18 : PySem.W.codeIn K cd18 "_law_told" = true)
    (k18 : PySem.W.keepIn K (.ref f18) = true)
    (a19 : PySem.W.nsIn K mainGlobals "_law_no_prime" = some (some (.ref f19)))
    (l19 : K.lookup f19 = some ⟨oc19, od19, .func (PySem.W.fnOf "_law_no_prime" "_law_no_prime" (defArgs s__law_no_prime) (defBody s__law_no_prime) (defScope s__law_no_prime) .none kV19 dc19 pm19 an19 cd19 ct19), sl19⟩)
    (c19 : PySem.W.codeIn K cd19 "_law_no_prime" = true)
    (k19 : PySem.W.keepIn K (.ref f19) = true)
    (a20 : PySem.W.nsIn K mainGlobals "law" = some (some (.ref f20)))
    (l20 : K.lookup f20 = some ⟨oc20, od20, .func (PySem.W.fnOf "law" "law" (defArgs s_law) (defBody s_law) (defScope s_law) .none kV20 dc20 pm20 an20 cd20 ct20), sl20⟩)
    (c20 : PySem.W.codeIn K cd20 "law" = true)
    (k20 : PySem.W.keepIn K (.ref f20) = true)
    (n_isinstance : PySem.W.nsIn K mainGlobals "isinstance" = some none)
    (n_int : PySem.W.nsIn K mainGlobals "int" = some none)
    (n_bool : PySem.W.nsIn K mainGlobals "bool" = some none)
    (n_len : PySem.W.nsIn K mainGlobals "len" = some none)
    (n_enumerate : PySem.W.nsIn K mainGlobals "enumerate" = some none)
    (n_range : PySem.W.nsIn K mainGlobals "range" = some none)
    (n_abs : PySem.W.nsIn K mainGlobals "abs" = some none)
    (n_max : PySem.W.nsIn K mainGlobals "max" = some none)
    (n_min : PySem.W.nsIn K mainGlobals "min" = some none)
    (n_tuple : PySem.W.nsIn K mainGlobals "tuple" = some none)
    (n_list : PySem.W.nsIn K mainGlobals "list" = some none)
    (n_any : PySem.W.nsIn K mainGlobals "any" = some none)
    (n_all : PySem.W.nsIn K mainGlobals "all" = some none)
    (n_ValueError : PySem.W.nsIn K mainGlobals "ValueError" = some none)
    (ca_PRIMES : PySem.W.nsIn K mainGlobals "PRIMES" = some (some (.ref a_PRIMES)))
    (cl_PRIMES : K.lookup a_PRIMES = some ⟨.type "tuple", dd_PRIMES, .seq #[.int 2 tkPRIMES0, .int 3 tkPRIMES1, .int 5 tkPRIMES2] cn_PRIMES, cs_PRIMES⟩)
    (xa_DigitError : PySem.W.nsIn K mainGlobals "DigitError" = some (some (.ref C_DigitError)))
    (xa_NoPrime : PySem.W.nsIn K mainGlobals "NoPrime" = some (some (.ref C_NoPrime)))
    (xk_NoPrime : PySem.W.keepIn K (.ref C_NoPrime) = true)
    (xx_NoPrime : PySem.W.excIn K C_NoPrime [.type "ValueError", .type "Exception", .type "BaseException", .type "object"] "ValueError.__new__" = true)
    (xs_NoPrime : PySem.W.subIn K (.ref C_NoPrime) (.type "BaseException") = some true)
    (xt_NoPrime : PySem.W.typeIn K (.ref C_NoPrime) = some (.type "type"))
    (xa_NoRow : PySem.W.nsIn K mainGlobals "NoRow" = some (some (.ref C_NoRow)))
    (xk_NoRow : PySem.W.keepIn K (.ref C_NoRow) = true)
    (xx_NoRow : PySem.W.excIn K C_NoRow [.type "ValueError", .type "Exception", .type "BaseException", .type "object"] "ValueError.__new__" = true)
    (xs_NoRow : PySem.W.subIn K (.ref C_NoRow) (.type "BaseException") = some true)
    (xt_NoRow : PySem.W.typeIn K (.ref C_NoRow) = some (.type "type"))
    (ne1 : C_NoPrime ≠ C_NoRow)
    (ne2 : PySem.W.isClsIn K C_NoRow = true)
    (ne3 : PySem.W.subIn K (.ref C_NoPrime) (.ref C_NoRow) = some false)
    (e1_NoPrime : PySem.W.subIn K (.ref C_DigitError) (.type "BaseException") = some true)
    (e2_NoPrime : PySem.W.hasDictIn K C_DigitError = true)
    (e3_NoPrime : PySem.W.typeIn K (.ref C_DigitError) = some (.type "type"))
    (e4_NoPrime : PySem.W.subIn K (.ref C_NoPrime) (.ref C_DigitError) = some true)
    (e5_NoPrime : PySem.W.subIn K (.ref C_NoPrime) (.type "ValueError") = some true)
    (g1_NoPrime : PySem.W.findIn K (.ref C_NoPrime) "__getattribute__" = some (some (.builtin "BaseException.__getattribute__")))
    (g2_NoPrime : PySem.W.findIn K (.ref C_NoPrime) "__getattr__" = some none)
    (g3_NoPrime : PySem.W.hasDictIn K C_NoPrime = true)
    (g4_NoPrime : PySem.W.findIn K (.ref C_NoPrime) "__class__" = some (some (.builtin "object.__class__")))
    (g5_NoPrime : PySem.W.specialIn K (.builtin "object.__class__") "__get__" = some (some (.builtin "getset_descriptor.__get__")))
    (g6_NoPrime : PySem.W.takesIn K (.builtin "object.__class__") = some true)
    (g7_NoPrime : PySem.W.mroIn K C_NoPrime (.type "object") = some true)
    (e1_NoRow : PySem.W.subIn K (.ref C_DigitError) (.type "BaseException") = some true)
    (e2_NoRow : PySem.W.hasDictIn K C_DigitError = true)
    (e3_NoRow : PySem.W.typeIn K (.ref C_DigitError) = some (.type "type"))
    (e4_NoRow : PySem.W.subIn K (.ref C_NoRow) (.ref C_DigitError) = some true)
    (e5_NoRow : PySem.W.subIn K (.ref C_NoRow) (.type "ValueError") = some true)
    (g1_NoRow : PySem.W.findIn K (.ref C_NoRow) "__getattribute__" = some (some (.builtin "BaseException.__getattribute__")))
    (g2_NoRow : PySem.W.findIn K (.ref C_NoRow) "__getattr__" = some none)
    (g3_NoRow : PySem.W.hasDictIn K C_NoRow = true)
    (g4_NoRow : PySem.W.findIn K (.ref C_NoRow) "__class__" = some (some (.builtin "object.__class__")))
    (g5_NoRow : PySem.W.specialIn K (.builtin "object.__class__") "__get__" = some (some (.builtin "getset_descriptor.__get__")))
    (g6_NoRow : PySem.W.takesIn K (.builtin "object.__class__") = some true)
    (g7_NoRow : PySem.W.mroIn K C_NoRow (.type "object") = some true) :
    ∃ fd : FuncData, (∀ (s : Shared) (v : Value), BindsTo s fd ⟨[v], []⟩ [("_law_script", v)]) ∧ ∀ base : Heap, K.In base → base.Ns mainGlobals mg → FnOk l.prog w K mg base CX0 6 fa fd ["_law_script"] (spLaw K) := by
  have e := hfa.symm.trans (PySem.W.mg_of X G a20)
  cases e
  have c_PRIMES : Cn K mg "PRIMES" [.int 2, .int 3, .int 5] := ⟨a_PRIMES, PySem.W.mg_of X G ca_PRIMES, fun H => .inr ⟨_, _, _, cl_PRIMES, rfl, rfl, (by show 3 ≤ sizeLine; decide), .cons ⟨_, rfl⟩ (.cons ⟨_, rfl⟩ (.cons ⟨_, rfl⟩ (.nil)))⟩⟩
  have x_NoPrime : Xc K mg "NoPrime" C_NoPrime := ⟨PySem.W.mg_of X G xa_NoPrime, xk_NoPrime, xx_NoPrime, xs_NoPrime, xt_NoPrime⟩
  have x_NoRow : Xc K mg "NoRow" C_NoRow := ⟨PySem.W.mg_of X G xa_NoRow, xk_NoRow, xx_NoRow, xs_NoRow, xt_NoRow⟩
  have F0 := fun_mk (st := s_is_whole) l0 c0 k0
  have b0 := F0.binds (ps := ["thing"]) fun _ _ _ _ _ _ us hl => match us, hl with | [_], _ => rfl
  have F1 := fun_mk (st := s_is_prime) l1 c1 k1
  have b1 := F1.binds (ps := ["thing"]) fun _ _ _ _ _ _ us hl => match us, hl with | [_], _ => rfl
  have F2 := fun_mk (st := s_look_prime) l2 c2 k2
  have b2 := F2.binds (ps := ["p"]) fun _ _ _ _ _ _ us hl => match us, hl with | [_], _ => rfl
  have F3 := fun_mk (st := s_order_of) l3 c3 k3
  have b3 := F3.binds (ps := ["poly"]) fun _ _ _ _ _ _ us hl => match us, hl with | [_], _ => rfl
  have F4 := fun_mk (st := s_settled_known) l4 c4 k4
  have b4 := F4.binds (ps := ["p", "powers"]) fun _ _ _ _ _ _ us hl => match us, hl with | [_, _], _ => rfl
  have F5 := fun_mk (st := s_back_of) l5 c5 k5
  have b5 := F5.binds (ps := ["p", "number"]) fun _ _ _ _ _ _ us hl => match us, hl with | [_, _], _ => rfl
  have F6 := fun_mk (st := s_summed_at) l6 c6 k6
  have b6 := F6.binds (ps := ["p", "powers", "known", "place"]) fun _ _ _ _ _ _ us hl => match us, hl with | [_, _, _, _], _ => rfl
  have F7 := fun_mk (st := s_settled_by) l7 c7 k7
  have b7 := F7.binds (ps := ["p", "powers"]) fun _ _ _ _ _ _ us hl => match us, hl with | [_, _], _ => rfl
  have F8 := fun_mk (st := s_settled_entries) l8 c8 k8
  have b8 := F8.binds (ps := ["p", "powers", "firsts", "many"]) fun _ _ _ _ _ _ us hl => match us, hl with | [_, _, _, _], _ => rfl
  have F9 := fun_mk (st := s__law_bag) l9 c9 k9
  have b9 := F9.binds (ps := ["_law_script", "_law_at"]) fun _ _ _ _ _ _ us hl => match us, hl with | [_, _], _ => rfl
  have F10 := fun_mk (st := s__law_take) l10 c10 k10
  have b10 := F10.binds (ps := ["_law_bag_here", "_law_many"]) fun _ _ _ _ _ _ us hl => match us, hl with | [_, _], _ => rfl
  have F11 := fun_mk (st := s__law_numbers) l11 c11 k11
  have b11 := F11.binds (ps := ["_law_bag_here", "_law_p", "_law_many"]) fun _ _ _ _ _ _ us hl => match us, hl with | [_, _, _], _ => rfl
  have F12 := fun_mk (st := s__law_trimmed) l12 c12 k12
  have b12 := F12.binds (ps := ["_law_numbers_here"]) fun _ _ _ _ _ _ us hl => match us, hl with | [_], _ => rfl
  have F13 := fun_mk (st := s__law_low_poly) l13 c13 k13
  have b13 := F13.binds (ps := ["_law_bag_here", "_law_p", "_law_most"]) fun _ _ _ _ _ _ us hl => match us, hl with | [_, _, _], _ => rfl
  have F14 := fun_mk (st := s__law_powers) l14 c14 k14
  have b14 := F14.binds (ps := ["_law_bag_here", "_law_p"]) fun _ _ _ _ _ _ us hl => match us, hl with | [_, _], _ => rfl
  have F15 := fun_mk (st := s__law_sum_at) l15 c15 k15
  have b15 := F15.binds (ps := ["_law_p", "_law_powers_here", "_law_known", "_law_place"]) fun _ _ _ _ _ _ us hl => match us, hl with | [_, _, _, _], _ => rfl
  have F16 := fun_mk (st := s__law_followed) l16 c16 k16
  have b16 := F16.binds (ps := ["_law_p", "_law_powers_here", "_law_begin", "_law_many"]) fun _ _ _ _ _ _ us hl => match us, hl with | [_, _, _, _], _ => rfl
  have F17 := fun_mk (st := s__law_beginning) l17 c17 k17
  have b17 := F17.binds (ps := ["_law_bag_here", "_law_p", "_law_powers_here", "_law_least"]) fun _ _ _ _ _ _ us hl => match us, hl with | [_, _, _, _], _ => rfl
  have F18 := fun_mk (st := s__law_told) l18 c18 k18
  have b18 := F18.binds (ps := ["_law_p", "_law_powers_here", "_law_firsts", "_law_many"]) fun _ _ _ _ _ _ us hl => match us, hl with | [_, _, _, _], _ => rfl
  have F19 := fun_mk (st := s__law_no_prime) l19 c19 k19
  have b19 := F19.binds (ps := ["_law_thing"]) fun _ _ _ _ _ _ us hl => match us, hl with | [_], _ => rfl
  have F20 := fun_mk (st := s_law) l20 c20 k20
  refine ⟨PySem.W.fnOf "law" "law" (defArgs s_law) (defBody s_law) (defScope s_law) .none kV20 dc20 pm20 an20 cd20 ct20, fun s v => .of_eq rfl, fun base _ _ => ?_⟩
  have XK_NoPrime : Xk K C_NoPrime C_DigitError := ⟨PySem.W.exm_ref e1_NoPrime e2_NoPrime e3_NoPrime e4_NoPrime, ⟨g1_NoPrime, g2_NoPrime, xs_NoPrime, g3_NoPrime, g4_NoPrime, g5_NoPrime, g6_NoPrime, g7_NoPrime⟩, kit_self, kit_base e5_NoPrime (by decide +kernel), xk_NoPrime⟩
  have XK_NoRow : Xk K C_NoRow C_DigitError := ⟨PySem.W.exm_ref e1_NoRow e2_NoRow e3_NoRow e4_NoRow, ⟨g1_NoRow, g2_NoRow, xs_NoRow, g3_NoRow, g4_NoRow, g5_NoRow, g6_NoRow, g7_NoRow⟩, kit_self, kit_base e5_NoRow (by decide +kernel), xk_NoRow⟩
  have D_is_whole : Df l.prog w K mg base CX0 1 "is_whole" ["thing"] (sp_is_whole K) := ⟨f0, _, ok_is_whole F0 (PySem.W.mg_none_of X G n_isinstance) (PySem.W.mg_none_of X G n_int) (PySem.W.mg_none_of X G n_bool), PySem.W.mg_of X G a0, k0, b0⟩
  have D_is_prime : Df l.prog w K mg base CX0 2 "is_prime" ["thing"] (sp_is_prime K) := ⟨f1, _, ok_is_prime F1 D_is_whole c_PRIMES, PySem.W.mg_of X G a1, k1, b1⟩
  have D_look_prime : Df l.prog w K mg base (L2.CX l.prog w) 3 "look_prime" ["p"] (sp_look_prime K C_NoPrime) := ⟨f2, _, ok_look_prime F2 D_is_prime x_NoPrime, PySem.W.mg_of X G a2, k2, b2⟩
  have D_order_of : Df l.prog w K mg base CX0 1 "order_of" ["poly"] (sp_order_of K) := ⟨f3, _, ok_order_of F3 (PySem.W.mg_none_of X G n_enumerate), PySem.W.mg_of X G a3, k3, b3⟩
  have D_settled_known : Df l.prog w K mg base CX0 2 "settled_known" ["p", "powers"] (sp_settled_known K) := ⟨f4, _, ok_settled_known F4 (PySem.W.mg_none_of X G n_max) D_order_of, PySem.W.mg_of X G a4, k4, b4⟩
  have D_back_of : Df l.prog w K mg base CX0 1 "back_of" ["p", "number"] (sp_back_of K) := ⟨f5, _, ok_back_of F5 (PySem.W.mg_none_of X G n_range), PySem.W.mg_of X G a5, k5, b5⟩
  have D_summed_at : Df l.prog w K mg base CX0 1 "summed_at" ["p", "powers", "known", "place"] (sp_summed_at K) := ⟨f6, _, ok_summed_at F6 (PySem.W.mg_none_of X G n_enumerate) (PySem.W.mg_none_of X G n_len), PySem.W.mg_of X G a6, k6, b6⟩
  have D_settled_by : Df l.prog w K mg base (L2.CX l.prog w) 4 "settled_by" ["p", "powers"] (sp_settled_by K C_NoPrime) := ⟨f7, _, ok_settled_by F7 D_look_prime D_settled_known, PySem.W.mg_of X G a7, k7, b7⟩
  have D_settled_entries : Df l.prog w K mg base (L2.CX l.prog w) 4 "settled_entries" ["p", "powers", "firsts", "many"] (sp_settled_entries K C_NoPrime C_NoRow) := ⟨f8, _, ok_settled_entries F8 D_look_prime D_settled_known (PySem.W.mg_none_of X G n_list) D_order_of (PySem.W.mg_none_of X G n_any) D_back_of (PySem.W.mg_none_of X G n_range) (PySem.W.mg_none_of X G n_len) x_NoRow (PySem.W.mg_none_of X G n_max) D_summed_at, PySem.W.mg_of X G a8, k8, b8⟩
  have D__law_bag : Df l.prog w K mg base CX0 1 "_law_bag" ["_law_script", "_law_at"] (sp__law_bag K) := ⟨f9, _, ok__law_bag F9 (PySem.W.mg_none_of X G n_len) (PySem.W.mg_none_of X G n_abs) (PySem.W.mg_none_of X G n_int), PySem.W.mg_of X G a9, k9, b9⟩
  have D__law_take : Df l.prog w K mg base CX0 1 "_law_take" ["_law_bag_here", "_law_many"] (sp__law_take K) := ⟨f10, _, ok__law_take F10, PySem.W.mg_of X G a10, k10, b10⟩
  have D__law_numbers : Df l.prog w K mg base CX0 2 "_law_numbers" ["_law_bag_here", "_law_p", "_law_many"] (sp__law_numbers K) := ⟨f11, _, ok__law_numbers F11 (PySem.W.mg_none_of X G n_tuple) D__law_take (PySem.W.mg_none_of X G n_range), PySem.W.mg_of X G a11, k11, b11⟩
  have D__law_trimmed : Df l.prog w K mg base CX0 1 "_law_trimmed" ["_law_numbers_here"] (sp__law_trimmed K) := ⟨f12, _, ok__law_trimmed F12 (PySem.W.mg_none_of X G n_max) (PySem.W.mg_none_of X G n_tuple) (PySem.W.mg_none_of X G n_range) (PySem.W.mg_none_of X G n_len), PySem.W.mg_of X G a12, k12, b12⟩
  have D__law_low_poly : Df l.prog w K mg base CX0 3 "_law_low_poly" ["_law_bag_here", "_law_p", "_law_most"] (sp__law_low_poly K) := ⟨f13, _, ok__law_low_poly F13 D__law_trimmed D__law_numbers D__law_take, PySem.W.mg_of X G a13, k13, b13⟩
  have D__law_powers : Df l.prog w K mg base CX0 4 "_law_powers" ["_law_bag_here", "_law_p"] (sp__law_powers K) := ⟨f14, _, ok__law_powers F14 D__law_numbers (PySem.W.mg_none_of X G n_tuple) D__law_take D__law_trimmed D__law_low_poly (PySem.W.mg_none_of X G n_range), PySem.W.mg_of X G a14, k14, b14⟩
  have D__law_sum_at : Df l.prog w K mg base CX0 1 "_law_sum_at" ["_law_p", "_law_powers_here", "_law_known", "_law_place"] (sp__law_sum_at K) := ⟨f15, _, ok__law_sum_at F15 (PySem.W.mg_none_of X G n_range) (PySem.W.mg_none_of X G n_min) (PySem.W.mg_none_of X G n_len), PySem.W.mg_of X G a15, k15, b15⟩
  have D__law_followed : Df l.prog w K mg base CX0 2 "_law_followed" ["_law_p", "_law_powers_here", "_law_begin", "_law_many"] (sp__law_followed K) := ⟨f16, _, ok__law_followed F16 (PySem.W.mg_none_of X G n_list) (PySem.W.mg_none_of X G n_len) (PySem.W.mg_none_of X G n_range) D__law_sum_at, PySem.W.mg_of X G a16, k16, b16⟩
  have D__law_beginning : Df l.prog w K mg base CX0 3 "_law_beginning" ["_law_bag_here", "_law_p", "_law_powers_here", "_law_least"] (sp__law_beginning K) := ⟨f17, _, ok__law_beginning F17 D__law_numbers D__law_take (PySem.W.mg_none_of X G n_list) D__law_followed, PySem.W.mg_of X G a17, k17, b17⟩
  have D__law_told : Df l.prog w K mg base CX0 5 "_law_told" ["_law_p", "_law_powers_here", "_law_firsts", "_law_many"] (sp__law_told K) := ⟨f18, _, ok__law_told F18 D_settled_entries XK_NoRow (PySem.W.mg_of X G xa_DigitError) (PySem.W.mg_of X G xa_NoRow) (PySem.W.mg_none_of X G n_isinstance) (PySem.W.mg_none_of X G n_ValueError) (PySem.W.mg_none_of X G n_int), PySem.W.mg_of X G a18, k18, b18⟩
  have D__law_no_prime : Df l.prog w K mg base CX0 5 "_law_no_prime" ["_law_thing"] (sp__law_no_prime K) := ⟨f19, _, ok__law_no_prime F19 D_settled_entries XK_NoPrime (kit_own ne1 ne2 xt_NoRow ne3) (PySem.W.mg_of X G xa_DigitError) (PySem.W.mg_of X G xa_NoPrime) (PySem.W.mg_of X G xa_NoRow) (PySem.W.mg_none_of X G n_isinstance) (PySem.W.mg_none_of X G n_ValueError), PySem.W.mg_of X G a19, k19, b19⟩
  exact ok_law F20 (PySem.W.mg_none_of X G n_range) (PySem.W.mg_none_of X G n_max) D__law_bag D__law_powers D_settled_by (PySem.W.mg_none_of X G n_min) D__law_take D__law_beginning D__law_followed (PySem.W.mg_none_of X G n_all) D__law_no_prime (PySem.W.mg_none_of X G n_len) D__law_told (PySem.W.mg_none_of X G n_list) D__law_sum_at
end Dg
open PySem PySem.W PyProof.Rows
set_option maxRecDepth 100000 in
set_option maxHeartbeats 0 in
theorem PySem.Challenge.cw_digitroots_k42_no_row_holds : PySem.Challenge.rw_digitroots_k42_no_row.Holds := by
  w_on; o_law; k_head; (case hw => w_witness2)
  k_fill
  refine L2.walk_of (l := PySem.Challenge.rw_digitroots_k42_no_row) (n := 63) (k := 6) (x := "_law_script") (CX := fun _ => L2.CX0) (sp := fun w => Dg.spLaw _) rfl (by decide) rfl ⟨rfl, by decide, by decide⟩ (fun w h Y => PySem.W.kIn_of Y) ?F (fun _ _ a ns hl _ hS => ⟨a, ns, rfl, hS, hl, fun _ => rfl⟩) (fun _ _ _ _ _ h => h)
  case F =>
    intro w mg fa h KX G hmg
    refine' Dg.all_mk KX G hmg ?a0 ?l0 ?c0 ?k0 ?a1 ?l1 ?c1 ?k1 ?a2 ?l2 ?c2 ?k2 ?a3 ?l3 ?c3 ?k3 ?a4 ?l4 ?c4 ?k4 ?a5 ?l5 ?c5 ?k5 ?a6 ?l6 ?c6 ?k6 ?a7 ?l7 ?c7 ?k7 ?a8 ?l8 ?c8 ?k8 ?a9 ?l9 ?c9 ?k9 ?a10 ?l10 ?c10 ?k10 ?a11 ?l11 ?c11 ?k11 ?a12 ?l12 ?c12 ?k12 ?a13 ?l13 ?c13 ?k13 ?a14 ?l14 ?c14 ?k14 ?a15 ?l15 ?c15 ?k15 ?a16 ?l16 ?c16 ?k16 ?a17 ?l17 ?c17 ?k17 ?a18 ?l18 ?c18 ?k18 ?a19 ?l19 ?c19 ?k19 ?a20 ?l20 ?c20 ?k20 ?n_isinstance ?n_int ?n_bool ?n_len ?n_enumerate ?n_range ?n_abs ?n_max ?n_min ?n_tuple ?n_list ?n_any ?n_all ?n_ValueError ?ca_PRIMES ?cl_PRIMES ?xa_DigitError ?xa_NoPrime ?xk_NoPrime ?xx_NoPrime ?xs_NoPrime ?xt_NoPrime ?xa_NoRow ?xk_NoRow ?xx_NoRow ?xs_NoRow ?xt_NoRow ?ne1 ?ne2 ?ne3 ?e1_NoPrime ?e2_NoPrime ?e3_NoPrime ?e4_NoPrime ?e5_NoPrime ?g1_NoPrime ?g2_NoPrime ?g3_NoPrime ?g4_NoPrime ?g5_NoPrime ?g6_NoPrime ?g7_NoPrime ?e1_NoRow ?e2_NoRow ?e3_NoRow ?e4_NoRow ?e5_NoRow ?g1_NoRow ?g2_NoRow ?g3_NoRow ?g4_NoRow ?g5_NoRow ?g6_NoRow ?g7_NoRow
    (case a0 => k_is)
    (case l0 => k_is)
    (case c0 => k_is)
    (case k0 => k_is)
    (case a1 => k_is)
    (case l1 => k_is)
    (case c1 => k_is)
    (case k1 => k_is)
    (case a2 => k_is)
    (case l2 => k_is)
    (case c2 => k_is)
    (case k2 => k_is)
    (case a3 => k_is)
    (case l3 => k_is)
    (case c3 => k_is)
    (case k3 => k_is)
    (case a4 => k_is)
    (case l4 => k_is)
    (case c4 => k_is)
    (case k4 => k_is)
    (case a5 => k_is)
    (case l5 => k_is)
    (case c5 => k_is)
    (case k5 => k_is)
    (case a6 => k_is)
    (case l6 => k_is)
    (case c6 => k_is)
    (case k6 => k_is)
    (case a7 => k_is)
    (case l7 => k_is)
    (case c7 => k_is)
    (case k7 => k_is)
    (case a8 => k_is)
    (case l8 => k_is)
    (case c8 => k_is)
    (case k8 => k_is)
    (case a9 => k_is)
    (case l9 => k_is)
    (case c9 => k_is)
    (case k9 => k_is)
    (case a10 => k_is)
    (case l10 => k_is)
    (case c10 => k_is)
    (case k10 => k_is)
    (case a11 => k_is)
    (case l11 => k_is)
    (case c11 => k_is)
    (case k11 => k_is)
    (case a12 => k_is)
    (case l12 => k_is)
    (case c12 => k_is)
    (case k12 => k_is)
    (case a13 => k_is)
    (case l13 => k_is)
    (case c13 => k_is)
    (case k13 => k_is)
    (case a14 => k_is)
    (case l14 => k_is)
    (case c14 => k_is)
    (case k14 => k_is)
    (case a15 => k_is)
    (case l15 => k_is)
    (case c15 => k_is)
    (case k15 => k_is)
    (case a16 => k_is)
    (case l16 => k_is)
    (case c16 => k_is)
    (case k16 => k_is)
    (case a17 => k_is)
    (case l17 => k_is)
    (case c17 => k_is)
    (case k17 => k_is)
    (case a18 => k_is)
    (case l18 => k_is)
    (case c18 => k_is)
    (case k18 => k_is)
    (case a19 => k_is)
    (case l19 => k_is)
    (case c19 => k_is)
    (case k19 => k_is)
    (case a20 => k_is)
    (case l20 => k_is)
    (case c20 => k_is)
    (case k20 => k_is)
    (case n_isinstance => k_is)
    (case n_int => k_is)
    (case n_bool => k_is)
    (case n_len => k_is)
    (case n_enumerate => k_is)
    (case n_range => k_is)
    (case n_abs => k_is)
    (case n_max => k_is)
    (case n_min => k_is)
    (case n_tuple => k_is)
    (case n_list => k_is)
    (case n_any => k_is)
    (case n_all => k_is)
    (case n_ValueError => k_is)
    (case ca_PRIMES => k_is)
    (case cl_PRIMES => k_is)
    (case xa_DigitError => k_is)
    (case xa_NoPrime => k_is)
    (case xk_NoPrime => k_is)
    (case xx_NoPrime => k_exc)
    (case xs_NoPrime => k_is)
    (case xt_NoPrime => k_is)
    (case xa_NoRow => k_is)
    (case xk_NoRow => k_is)
    (case xx_NoRow => k_exc)
    (case xs_NoRow => k_is)
    (case xt_NoRow => k_is)
    (case ne1 => (first | decide | k_is))
    (case ne2 => k_is)
    (case ne3 => k_is)
    (case e1_NoPrime => k_is)
    (case e2_NoPrime => k_is)
    (case e3_NoPrime => k_is)
    (case e4_NoPrime => k_is)
    (case e5_NoPrime => k_is)
    (case g1_NoPrime => k_is)
    (case g2_NoPrime => k_is)
    (case g3_NoPrime => k_is)
    (case g4_NoPrime => k_is)
    (case g5_NoPrime => k_is)
    (case g6_NoPrime => k_is)
    (case g7_NoPrime => k_is)
    (case e1_NoRow => k_is)
    (case e2_NoRow => k_is)
    (case e3_NoRow => k_is)
    (case e4_NoRow => k_is)
    (case e5_NoRow => k_is)
    (case g1_NoRow => k_is)
    (case g2_NoRow => k_is)
    (case g3_NoRow => k_is)
    (case g4_NoRow => k_is)
    (case g5_NoRow => k_is)
    (case g6_NoRow => k_is)
    (case g7_NoRow => k_is)


