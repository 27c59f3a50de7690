import PyProof.Rows.All
import Wide.All
import OpenK.AllK
import Wide.FinOn
import HandS.ForMost
import HandS.ForExc
import HandS.IsInst
import HandS.ExcIs
import HandS.TupAny
import HandS.Evl
import HandS.Walk
import HandS.Zip
import HandS.Wide
import HandS.CallSlots
import KE.GoesEnum
import KE.DatumOrd
import HandS.TupMul
import PyProof.Rows.CallKwBuiltin
import HandS.Codes
import PyProof.StrOps2
import PySem.Challenge.RW_digitroots_k51_texts_written
set_option Elab.async false
set_option linter.all false
set_option maxRecDepth 100000
set_option maxHeartbeats 4000000
set_option maxRecDepth 100000
set_option maxHeartbeats 4000000
/-! Readings by what they represent: Er (a value), El (a new list), Et (a test); the bag of a law. -/
namespace Dg
open PySem PySem.Spec PyProof.Rows L2 Evl

/-! ### steps of the heap -/
/-- at most what stands at p is changed -/
def C1 (p : Addr) (H H' : Hp) : Prop := ∀ a o, a ≠ p → H a = some o → H' a = some o
theorem C1.ex {p : Addr} {H H' : Hp} (e : Ex H H') : C1 p H H' := fun a o _ h => e a o h
theorem C1.refl (p : Addr) (H : Hp) : C1 p H H := fun _ _ _ h => h
theorem C1.trans {p : Addr} {H H1 H2 : Hp} (a : C1 p H H1) (b : C1 p H1 H2) : C1 p H H2 := fun x o n h => b x o n (a x o n h)
theorem C1.up {p : Addr} {H H' : Hp} {o : HO} (a : C1 p H H') : C1 p H (upd H' p o) := fun x u n h => by rw [upd_ne n]; exact a x u n h
theorem C1.upn {p q : Addr} {H H' : Hp} {o : HO} (a : C1 p H H') (hq : H q = none) : C1 p H (upd H' q o) := fun x u n h => by rw [upd_ne (ne_of_none h hq)]; exact a x u n h
/-- a step that turns p alone, p new to H -/
theorem C1.ofNew {p : Addr} {H H1 H2 : Hp} (e : Ex H H1) (hp : H p = none) (c : C1 p H1 H2) : Ex H H2 := fun a o h => c a o (ne_of_none h hp) (e a o h)
theorem C1.ofNew2 {b p : Addr} {H H1 H2 : Hp} (e : C1 b H H1) (hp : H p = none) (c : C1 p H1 H2) : C1 b H H2 := fun a o n h => c a o (ne_of_none h hp) (e a o n h)

/-- what is read as a tuple stays so -/
def Kt (K : PySem.W.Frag) (H H' : Hp) : Prop := ∀ a xs, SqT K H a xs → SqT K H' a xs
theorem Kt.refl {K : PySem.W.Frag} (H : Hp) : Kt K H H := fun _ _ h => h
theorem Kt.trans {K : PySem.W.Frag} {H H1 H2 : Hp} (a : Kt K H H1) (b : Kt K H1 H2) : Kt K H H2 := fun x o h => b x o (a x o h)
theorem Kt.ex {K : PySem.W.Frag} {H H' : Hp} (e : Ex H H') : Kt K H H' := fun _ _ h => ex_t e h
theorem Kt.c1 {K : PySem.W.Frag} {p : Addr} {xs : List V} {H H' : Hp} (hp : H p = some (.lst xs)) (c : C1 p H H') : Kt K H H' := fun a ys h => by
  rcases h with (h | ⟨o, h⟩) | h
  · exact .inl (.inl (c a _ (ne_of h hp (by intro z; cases z)) h))
  · exact .inl (.inr ⟨o, c a _ (ne_of h hp (by intro z; cases z)) h⟩)
  · exact .inr h

/-! ### what a value stands for -/
abbrev Rp (α : Type) := Hp → α → V → Prop
def rI : Rp Int := fun _ i v => v = .int i
def rB : Rp Bool := fun _ b v => v = .bl b
def rS : Rp Str := fun _ s v => v = .str s
def rN : Rp Unit := fun _ _ v => v = .non
/-- a tuple, a list of such -/
def rT {α : Type} (K : PySem.W.Frag) (R : Rp α) : Rp (List α) := fun H xs v => ∃ a vs, v = .ref a ∧ SqT K H a vs ∧ Paired (R H) xs vs
def rL {α : Type} (K : PySem.W.Frag) (R : Rp α) : Rp (List α) := fun H xs v => ∃ a vs, v = .ref a ∧ SqL K H a vs ∧ Paired (R H) xs vs
def r2 {α β : Type} (K : PySem.W.Frag) (R : Rp α) (S : Rp β) : Rp (α × β) := fun H x v => ∃ a u w, v = .ref a ∧ SqT K H a [u, w] ∧ R H x.1 u ∧ S H x.2 w
/-- stays while tuples stay -/
class Mkt {α : Type} (K : PySem.W.Frag) (R : Rp α) : Prop where
  kt : ∀ {H H' : Hp} {x : α} {v : V}, Kt K H H' → R H x v → R H' x v
/-- stays while all stays -/
class Me {α : Type} (R : Rp α) : Prop where
  ex : ∀ {H H' : Hp} {x : α} {v : V}, Ex H H' → R H x v → R H' x v
theorem pm {α β : Type} {F G : α → β → Prop} {l : List α} {m : List β} (h : Paired F l m) (f : ∀ a b, F a b → G a b) : Paired G l m := Paired.mapP h f

section
variable {α β γ : Type} {K : PySem.W.Frag} {H H' : Hp}
instance : Me rI := ⟨fun _ h => h⟩
instance : Me rB := ⟨fun _ h => h⟩
instance : Me rS := ⟨fun _ h => h⟩
instance : Me rN := ⟨fun _ h => h⟩
instance {R : Rp α} [r : Me R] : Me (rT K R) := ⟨fun e ⟨a, vs, h1, h2, h3⟩ => ⟨a, vs, h1, ex_t e h2, pm h3 fun _ _ z => r.ex e z⟩⟩
instance {R : Rp α} [r : Me R] : Me (rL K R) := ⟨fun e ⟨a, vs, h1, h2, h3⟩ => ⟨a, vs, h1, ex_l e h2, pm h3 fun _ _ z => r.ex e z⟩⟩
instance {R : Rp α} {S : Rp β} [r : Me R] [s : Me S] : Me (r2 K R S) := ⟨fun e ⟨a, u, w, h1, h2, h3, h4⟩ => ⟨a, u, w, h1, ex_t e h2, r.ex e h3, s.ex e h4⟩⟩
instance : Mkt K rI := ⟨fun _ h => h⟩
instance : Mkt K rB := ⟨fun _ h => h⟩
instance : Mkt K rS := ⟨fun _ h => h⟩
instance : Mkt K rN := ⟨fun _ h => h⟩
instance {R : Rp α} [r : Mkt K R] : Mkt K (rT K R) := ⟨fun e ⟨a, vs, h1, h2, h3⟩ => ⟨a, vs, h1, e _ _ h2, pm h3 fun _ _ z => r.kt e z⟩⟩
instance {R : Rp α} {S : Rp β} [r : Mkt K R] [s : Mkt K S] : Mkt K (r2 K R S) := ⟨fun e ⟨a, u, w, h1, h2, h3, h4⟩ => ⟨a, u, w, h1, e _ _ h2, r.kt e h3, s.kt e h4⟩⟩
/-- a list of this def's own, at p -/
def Lt (R : Rp α) (H : Hp) (p : Addr) (xs : List α) : Prop := ∃ vs, H p = some (.lst vs) ∧ Paired (R H) xs vs
theorem Lt.rl {R : Rp α} {p : Addr} {xs : List α} (h : Lt R H p xs) : rL K R H xs (.ref p) := let ⟨vs, h1, h2⟩ := h; ⟨p, vs, rfl, SqL.of h1, h2⟩
theorem Lt.ex {R : Rp α} [Me R] {p : Addr} {xs : List α} (h : Lt R H p xs) (e : Ex H H') : Lt R H' p xs := let ⟨vs, h1, h2⟩ := h; ⟨vs, e _ _ h1, pm h2 fun _ _ z => Me.ex e z⟩
theorem Lt.c1 {R : Rp α} [Mkt K R] {p q : Addr} {xs : List α} {ys : List V} (h : Lt R H p xs) (hq : H q = some (.lst ys)) (c : C1 q H H') (n : p ≠ q) : Lt R H' p xs := let ⟨vs, h1, h2⟩ := h; ⟨vs, c _ _ n h1, pm h2 fun _ _ z => Mkt.kt (Kt.c1 (K := K) hq c) z⟩

/-! ### ints by map -/
theorem pI : ∀ {xs : List Int} {vs : List V}, Paired (rI H) xs vs → vs = xs.map V.int
  | [], _, .nil => rfl
  | x :: xs, _, .cons r t => by
    have e : _ = V.int x := r
    rw [e, pI t]
    rfl
theorem pI' : ∀ (xs : List Int), Paired (rI H) xs (xs.map V.int)
  | [] => .nil
  | _ :: xs => .cons rfl (pI' xs)
theorem paired_len {F : α → β → Prop} : ∀ {l : List α} {m : List β}, Paired F l m → l.length = m.length
  | _, _, .nil => rfl
  | _, _, .cons _ t => by rw [List.length_cons, List.length_cons, paired_len t]
theorem paired_get {F : α → β → Prop} : ∀ {l : List α} {m : List β} {i : Nat} {x : α}, Paired F l m → l[i]? = some x → ∃ y, m[i]? = some y ∧ F x y
  | _, _, i, _, .nil, h => by simp at h
  | _, _, 0, _, .cons r _, h => by
    simp only [List.getElem?_cons_zero, Option.some.injEq] at h
    subst h
    exact ⟨_, rfl, r⟩
  | _, _, i + 1, _, .cons _ t, h => by
    simp only [List.getElem?_cons_succ] at h
    exact paired_get (i := i) t h
theorem paired_get' {F : α → β → Prop} : ∀ {l : List α} {m : List β} {i : Nat} {y : β}, Paired F l m → m[i]? = some y → ∃ x, l[i]? = some x ∧ F x y
  | _, _, i, _, .nil, h => by simp at h
  | _, _, 0, _, .cons r _, h => by
    simp only [List.getElem?_cons_zero, Option.some.injEq] at h
    subst h
    exact ⟨_, rfl, r⟩
  | _, _, i + 1, _, .cons _ t, h => by
    simp only [List.getElem?_cons_succ] at h
    exact paired_get' (i := i) t h
theorem paired_append {F : α → β → Prop} : ∀ {l l' : List α} {m m' : List β}, Paired F l m → Paired F l' m' → Paired F (l ++ l') (m ++ m')
  | _, _, _, _, .nil, h => h
  | _, _, _, _, .cons r t, h => .cons r (paired_append t h)
theorem paired_set {F : α → β → Prop} : ∀ {l : List α} {m : List β} (i : Nat) {x : α} {y : β}, Paired F l m → F x y → Paired F (l.set i x) (m.set i y)
  | _, _, _, _, _, .nil, _ => .nil
  | _, _, 0, _, _, .cons _ t, h => .cons h t
  | _, _, i + 1, _, _, .cons r t, h => .cons r (paired_set i t h)
theorem paired_take {F : α → β → Prop} : ∀ {l : List α} {m : List β} (n : Nat), Paired F l m → Paired F (l.take n) (m.take n)
  | _, _, 0, _ => .nil
  | _, _, _ + 1, .nil => .nil
  | _, _, n + 1, .cons r t => .cons r (paired_take n t)
theorem paired_drop {F : α → β → Prop} : ∀ {l : List α} {m : List β} (n : Nat), Paired F l m → Paired F (l.drop n) (m.drop n)
  | _, _, 0, h => h
  | _, _, _ + 1, .nil => .nil
  | _, _, n + 1, .cons _ t => paired_drop n t
theorem paired_rep {F : α → β → Prop} {x : α} {y : β} (h : F x y) : ∀ n : Nat, Paired F (List.replicate n x) (List.replicate n y)
  | 0 => .nil
  | n + 1 => .cons h (paired_rep h n)
theorem paired_reverse {F : α → β → Prop} : ∀ {l : List α} {m : List β}, Paired F l m → Paired F l.reverse m.reverse
  | _, _, .nil => .nil
  | _, _, .cons r t => by
    rw [List.reverse_cons, List.reverse_cons]
    exact paired_append (paired_reverse t) (.cons r .nil)

/-! ### a reading's value by what it stands for -/
def Er (R : Rp α) (t : TE) (σ : L2.St) (H : Hp) (x : α) : Prop := ∀ H1, Ex H H1 → ∀ Q : VK, (∀ v H2, Ex H1 H2 → R H2 x v → Q v H2) → t σ H1 Q
/-- a new list -/
def El (R : Rp α) (t : TE) (σ : L2.St) (H : Hp) (xs : List α) : Prop := ∀ H1, Ex H H1 → ∀ Q : VK, (∀ p H2, H1 p = none → Ex H1 H2 → Lt R H2 p xs → Q (.ref p) H2) → t σ H1 Q
abbrev Et := EvT
/-- arguments -/
def Ea (t : TA) (σ : L2.St) (H : Hp) (P : List V → Hp → Prop) : Prop := ∀ H1, Ex H H1 → ∀ Q : List V → Hp → Prop, (∀ vs H2, Ex H1 H2 → P vs H2 → Q vs H2) → t σ H1 Q

variable {σ : L2.St} {ta tb te : TE} {t u : TT} {R : Rp α} {S : Rp β} {x y z : α}
theorem Er.mono (h : Er R te σ H x) (e : Ex H H') : Er R te σ H' x := fun H1 a Q q => h H1 (e.trans a) Q q
theorem El.er {xs : List α} (h : El R te σ H xs) : Er (rL K R) te σ H xs := fun H1 e Q q => h H1 e Q fun p H2 _ e2 l => q _ H2 e2 l.rl
theorem er_is (h : Er R te σ H x) (e : x = y) : Er R te σ H y := e ▸ h
theorem er_var [Me R] {i : Nat} {v : V} (h : σ[i]? = some (some v)) (r : R H x v) : Er R (tVar i) σ H x := fun H1 e _ q => ⟨v, h, q v H1 (Ex.refl H1) (Me.ex e r)⟩
theorem er_iv {i : Nat} {k : Int} (h : σ[i]? = some (some (.int k)) := by rfl) : Er rI (tVar i) σ H k := fun H1 e _ q => ⟨_, h, q _ H1 (Ex.refl H1) rfl⟩
theorem er_bv {i : Nat} {k : Bool} (h : σ[i]? = some (some (.bl k)) := by rfl) : Er rB (tVar i) σ H k := fun H1 e _ q => ⟨_, h, q _ H1 (Ex.refl H1) rfl⟩
theorem er_int {k : Int} : Er rI (tC (.int k)) σ H k := fun H1 e _ q => q _ H1 (Ex.refl H1) rfl
theorem er_bl {k : Bool} : Er rB (tC (.bl k)) σ H k := fun H1 e _ q => q _ H1 (Ex.refl H1) rfl
theorem er_str {k : Str} : Er rS (tC (.str k)) σ H k := fun H1 e _ q => q _ H1 (Ex.refl H1) rfl
/-- ints: operators -/
theorem er_op0 {g : Int → Int → Int} {i j : Int} (ha : Er rI ta σ H i) (hb : Er rI tb σ H j) : Er rI (tOp (rI0 fun i j => V.int (g i j)) ta tb) σ H (g i j) := fun H1 e Q q =>
  ha H1 e _ fun v H2 e2 r1 => hb H2 (e.trans e2) _ fun w H3 e3 r2 => ⟨i, j, r1, r2, q _ H3 (e2.trans e3) rfl⟩
theorem er_op {C : Int → Int → Prop} {g : Int → Int → Int} {i j : Int} (ha : Er rI ta σ H i) (hb : Er rI tb σ H j) (hc : C i j) : Er rI (tOp (L2.rI C fun i j => V.int (g i j)) ta tb) σ H (g i j) := fun H1 e Q q =>
  ha H1 e _ fun v H2 e2 r1 => hb H2 (e.trans e2) _ fun w H3 e3 r2 => ⟨i, j, r1, r2, hc, q _ H3 (e2.trans e3) rfl⟩
theorem er_cmp {g : Int → Int → Bool} {i j : Int} (ha : Er rI ta σ H i) (hb : Er rI tb σ H j) : Er rB (tOp (rI0 fun i j => V.bl (g i j)) ta tb) σ H (g i j) := fun H1 e Q q =>
  ha H1 e _ fun v H2 e2 r1 => hb H2 (e.trans e2) _ fun w H3 e3 r2 => ⟨i, j, r1, r2, q _ H3 (e2.trans e3) rfl⟩
theorem er_neg {i : Int} (ha : Er rI ta σ H i) : Er rI (tUn (rU fun i => V.int (-i)) ta) σ H (-i) := fun H1 e Q q => ha H1 e _ fun v H2 e2 r1 => ⟨i, r1, q _ H2 e2 rfl⟩
theorem er_eqI {i j : Int} (ha : Er rI ta σ H i) (hb : Er rI tb σ H j) : Er rB (tOp rEq ta tb) σ H (decide (i = j)) := fun H1 e Q q =>
  ha H1 e _ fun v H2 e2 r1 => hb H2 (e.trans e2) _ fun w H3 e3 r2 => by
    cases r1; cases r2
    exact ⟨rfl, q _ H3 (e2.trans e3) (by show V.bl _ = V.bl _; congr 1; exact decide_eq_decide.mpr ⟨fun z => V.int.inj z, fun z => congrArg V.int z⟩)⟩
theorem er_neI {i j : Int} (ha : Er rI ta σ H i) (hb : Er rI tb σ H j) : Er rB (tOp rNe ta tb) σ H (!decide (i = j)) := fun H1 e Q q =>
  ha H1 e _ fun v H2 e2 r1 => hb H2 (e.trans e2) _ fun w H3 e3 r2 => by
    cases r1; cases r2
    exact ⟨rfl, q _ H3 (e2.trans e3) (by show V.bl _ = V.bl _; congr 2; exact decide_eq_decide.mpr ⟨fun z => V.int.inj z, fun z => congrArg V.int z⟩)⟩
/-- tests -/
theorem et_t {b : Bool} (h : Er rB te σ H b) : Et (tTest te) σ H b := fun H1 e _ q => h H1 e _ fun v H2 e2 r => ⟨b, r, q H2 e2⟩
theorem et_b {b : Bool} (h : Er rB te σ H b) : Et (tB te) σ H b := fun H1 e _ q => h H1 e _ fun v H2 e2 r => ⟨b, r, q H2 e2⟩
theorem er_andV {a b : Bool} (h1 : Er rB ta σ H a) (h2 : a = true → Er rB tb σ H b) : Er rB (tAndV ta tb) σ H (a && b) := fun H1 e Q q => h1 H1 e _ fun v H2 e2 r => ⟨a, r, by
  cases a with
  | true =>
    show tb σ H2 Q
    exact h2 rfl H2 (e.trans e2) Q fun w H3 e3 r3 => q w H3 (e2.trans e3) r3
  | false =>
    show Q (.bl false) H2
    exact q _ H2 e2 rfl⟩
theorem er_orV {a b : Bool} (h1 : Er rB ta σ H a) (h2 : a = false → Er rB tb σ H b) : Er rB (tOrV ta tb) σ H (a || b) := fun H1 e Q q => h1 H1 e _ fun v H2 e2 r => ⟨a, r, by
  cases a with
  | true =>
    show Q (.bl true) H2
    exact q _ H2 e2 rfl
  | false =>
    show tb σ H2 Q
    exact h2 rfl H2 (e.trans e2) Q fun w H3 e3 r3 => q w H3 (e2.trans e3) r3⟩
theorem er_notV {a : Bool} (h1 : Er rB ta σ H a) : Er rB (tNotV ta) σ H (!a) := fun H1 e Q q => h1 H1 e _ fun v H2 e2 r => ⟨a, r, q _ H2 e2 rfl⟩
theorem er_if {b : Bool} (h : Et t σ H b) (h1 : b = true → Er R ta σ H x) (h2 : b = false → Er R tb σ H y) : Er R (tIf t ta tb) σ H (if b = true then x else y) := fun H1 e Q q => h H1 e _ fun H2 e2 => by
  cases b with
  | true =>
    show ta σ H2 Q
    exact h1 rfl H2 (e.trans e2) Q fun w H3 e3 r3 => q w H3 (e2.trans e3) r3
  | false =>
    show tb σ H2 Q
    exact h2 rfl H2 (e.trans e2) Q fun w H3 e3 r3 => q w H3 (e2.trans e3) r3
/-- argument lists -/
def A0 : List V → Hp → Prop := fun vs _ => vs = []
def Ac (R : Rp α) (x : α) (P : List V → Hp → Prop) : List V → Hp → Prop := fun vs H => ∃ v r, vs = v :: r ∧ R H x v ∧ P r H
theorem ea0 : Ea tNil σ H A0 := fun H1 e Q q => q [] H1 (Ex.refl H1) rfl
theorem eac [Me R] {tr : TA} {P : List V → Hp → Prop} (h : Er R ta σ H x) (hr : Ea tr σ H P) : Ea (tCons ta tr) σ H (Ac R x P) := fun H1 e Q q =>
  h H1 e _ fun v H2 e2 r2 => hr H2 (e.trans e2) _ fun vs H3 e3 p => q (v :: vs) H3 (e2.trans e3) ⟨v, vs, rfl, Me.ex e3 r2, p⟩
/-- a def's promise: from P of its arguments to the value x -/
def Gv (sp : Sp) (P : List V → Hp → Prop) (R : Rp α) (x : α) : Prop := ∀ vs H1, P vs H1 → ∀ (Q : VK) (E : XK), (∀ v H2, Ex H1 H2 → R H2 x v → Q v H2) → sp vs H1 Q E
theorem er_call {sp : Sp} {E : XK} {tr : TA} {P : List V → Hp → Prop} (h : Ea tr σ H P) (g : Gv sp P R x) : Er R (tCall sp [] E tr) σ H x := fun H1 e Q q =>
  h H1 e _ fun vs H2 e2 p => by
    show sp (vs ++ []) H2 Q E
    rw [List.append_nil]
    exact g vs H2 p Q E fun v H3 e3 r => q v H3 (e2.trans e3) r
/-- a built-in's rule -/
def Gb (r : List V → Hp → VK → Prop) (P : List V → Hp → Prop) (R : Rp α) (x : α) : Prop := ∀ vs H1, P vs H1 → ∀ (Q : VK), (∀ v H2, Ex H1 H2 → R H2 x v → Q v H2) → r vs H1 Q
theorem er_cb {r : List V → Hp → VK → Prop} {tr : TA} {P : List V → Hp → Prop} (h : Ea tr σ H P) (g : Gb r P R x) : Er R (tCB r tr) σ H x := fun H1 e Q q =>
  h H1 e _ fun vs H2 e2 p => g vs H2 p Q fun v H3 e3 r => q v H3 (e2.trans e3) r

/-! ### statements -/
variable {D : Ends} {tu tw tz : TS} {j : Nat}
theorem s_asgI {i : Int} (h : Er rI te σ H i) (k : ∀ H1, Ex H H1 → D.nx (σ.set j (some (.int i))) H1) : tAsg te (gName j) D σ H := h H (Ex.refl H) _ fun v H1 e r => by
  cases r
  exact k H1 e
theorem s_asgB {i : Bool} (h : Er rB te σ H i) (k : ∀ H1, Ex H H1 → D.nx (σ.set j (some (.bl i))) H1) : tAsg te (gName j) D σ H := h H (Ex.refl H) _ fun v H1 e r => by
  cases r
  exact k H1 e
theorem s_asgS {i : Str} (h : Er rS te σ H i) (k : ∀ H1, Ex H H1 → D.nx (σ.set j (some (.str i))) H1) : tAsg te (gName j) D σ H := h H (Ex.refl H) _ fun v H1 e r => by
  cases r
  exact k H1 e
theorem s_asg (h : Er R te σ H x) (k : ∀ v H1, Ex H H1 → R H1 x v → D.nx (σ.set j (some v)) H1) : tAsg te (gName j) D σ H := h H (Ex.refl H) _ fun v H1 e r => k v H1 e r
theorem s_asgL {xs : List α} (h : El R te σ H xs) (k : ∀ p H1, H p = none → Ex H H1 → Lt R H1 p xs → D.nx (σ.set j (some (.ref p))) H1) : tAsg te (gName j) D σ H := h H (Ex.refl H) _ k
theorem s_ret (h : Er R te σ H x) (k : ∀ v H1, Ex H H1 → R H1 x v → D.rt v H1) : tRet te D σ H := h H (Ex.refl H) _ k
theorem s_drop (h : Er R te σ H x) (k : ∀ H1, Ex H H1 → D.nx σ H1) : tDrop te D σ H := h H (Ex.refl H) _ fun _ H1 e _ => k H1 e
theorem s_if {b : Bool} (h : Et t σ H b) (h1 : b = true → ∀ H1, Ex H H1 → tu D σ H1) (h2 : b = false → ∀ H1, Ex H H1 → tw D σ H1) : tIfS t tu tw D σ H := Evl.s_if h h1 h2
theorem s_when {b : Bool} (h : Et t σ H b) (h1 : b = true → ∀ H1, Ex H H1 → tu D σ H1) (h2 : b = false → ∀ H1, Ex H H1 → D.nx σ H1) : tIfS t tu tNext D σ H := Evl.s_if h h1 h2
theorem sz0 {n : Nat} (h : n < 1000000) : n < sizeLine := Nat.lt_of_lt_of_le h (by decide)
theorem sz1 {n : Nat} (h : n ≤ 1000000) : n ≤ sizeLine := Nat.le_trans h (by decide)
/-- xs.append(e): an own list -/
theorem s_app [Mkt K R] {l : Addr} {xs : List α} (hl : Lt R H l xs) (hi : σ[j]? = some (some (.ref l))) (h : Er R te σ H x) (hz : xs.length < 1000000) (k : ∀ H1, C1 l H H1 → Lt R H1 l (xs ++ [x]) → D.nx σ H1) :
    tDrop (tBM K "list" rAppend (tVar j) (tCons te tNil)) D σ H := by
  obtain ⟨vs, h1, h2⟩ := hl
  refine ⟨_, hi, .inl ⟨rfl, vs, SqL.of h1⟩, ?_⟩
  refine h H (Ex.refl H) _ fun v H1 e r => ⟨l, vs, v, rfl, rfl, e _ _ h1, ?_, ?_⟩
  · rw [← paired_len h2]
    exact sz0 hz
  · have kt1 : Kt K H1 (upd H1 l (.lst (vs ++ [v]))) := Kt.c1 (e _ _ h1) (C1.up (C1.refl l H1))
    exact k _ (C1.up (C1.ex e)) ⟨_, upd_same, paired_append (pm h2 fun _ _ z => Mkt.kt ((Kt.ex (K := K) e).trans kt1) z) (.cons (Mkt.kt kt1 r) .nil)⟩
theorem s_while (W : Nat → L2.St → Hp → Prop) (m0 : Nat) (h0 : W m0 σ H)
    (hs : ∀ m σ' H', W m σ' H' → ∃ b, Et t σ' H' b ∧ (b = true → ∀ H1, Ex H' H1 → ∃ N : L2.St → Hp → Prop, (∀ σ2 H2, N σ2 H2 → ∃ m', m' < m ∧ W m' σ2 H2) ∧ tu { D with nx := N, ct := N, bk := D.nx } σ' H1) ∧ (b = false → ∀ H1, Ex H' H1 → D.nx σ' H1)) : tWhile t tu D σ H := Evl.s_while W m0 h0 hs

/-! ### more values: lists and tuples read -/
theorem er_sv {i : Nat} {k : Str} (h : σ[i]? = some (some (.str k)) := by rfl) : Er rS (tVar i) σ H k := fun H1 e _ q => ⟨_, h, q _ H1 (Ex.refl H1) rfl⟩
theorem er_nv {i : Nat} (h : σ[i]? = some (some .non) := by rfl) : Er rN (tVar i) σ H () := fun H1 e _ q => ⟨_, h, q _ H1 (Ex.refl H1) rfl⟩
theorem er_non : Er rN (tC .non) σ H () := fun H1 e _ q => q _ H1 (Ex.refl H1) rfl
/-- go on with an int at hand -/
theorem go_I {Q : VK} {i : Int} (h : Er rI te σ H i) (k : ∀ H1, Ex H H1 → Q (.int i) H1) : te σ H Q := h H (Ex.refl H) _ fun v H1 e r => by cases r; exact k H1 e
theorem go_R {Q : VK} (h : Er R te σ H x) (k : ∀ v H1, Ex H H1 → R H1 x v → Q v H1) : te σ H Q := h H (Ex.refl H) _ k
theorem go_L {Q : VK} {xs : List α} (h : El R te σ H xs) (k : ∀ p H1, H p = none → Ex H H1 → Lt R H1 p xs → Q (.ref p) H1) : te σ H Q := h H (Ex.refl H) _ k
/-- the place of an index -/
def ixs (n : Nat) (i : Int) : Nat := if 0 ≤ i then i.toNat else (i + n).toNat
theorem ixN_ixs {n : Nat} {i : Int} (h1 : -(n : Int) ≤ i) (h2 : i < n) : ixN n i = some (ixs n i) ∧ ixs n i < n := by
  unfold ixN ixs
  by_cases h : 0 ≤ i
  · rw [if_pos h, if_pos h2, if_pos h]
    exact ⟨rfl, by omega⟩
  · rw [if_neg h, if_pos h1, if_neg h]
    exact ⟨rfl, by omega⟩
theorem atI_ixs {xs : List V} {i : Int} {v : V} (h1 : -(xs.length : Int) ≤ i) (h2 : i < xs.length) (h : xs[ixs xs.length i]? = some v) : atI xs i = some v := by
  unfold atI
  rw [(ixN_ixs h1 h2).1]
  exact h
theorem er_ixL [Me R] {xs : List α} {i : Int} (ha : Er (rL K R) ta σ H xs) (hb : Er rI tb σ H i) (h1 : -(xs.length : Int) ≤ i) (h2 : i < xs.length) (hx : xs[ixs xs.length i]? = some x) : Er R (tOp (rIxL K) ta tb) σ H x := fun H1 e Q q =>
  ha H1 e _ fun v H2 e2 r1 => hb H2 (e.trans e2) _ fun w H3 e3 r2 => by
    cases r2
    obtain ⟨a, vs, rfl, hs, hp⟩ := r1
    obtain ⟨u, hu, ru⟩ := paired_get hp hx
    have hl := paired_len hp
    rw [hl] at h1 h2 hu
    exact ⟨a, vs, i, u, rfl, rfl, ex_l e3 hs, atI_ixs h1 h2 hu, q u H3 (e2.trans e3) (Me.ex e3 ru)⟩
theorem er_ixT [Me R] {xs : List α} {i : Int} (ha : Er (rT K R) ta σ H xs) (hb : Er rI tb σ H i) (h1 : -(xs.length : Int) ≤ i) (h2 : i < xs.length) (hx : xs[ixs xs.length i]? = some x) : Er R (tOp (rIxT K) ta tb) σ H x := fun H1 e Q q =>
  ha H1 e _ fun v H2 e2 r1 => hb H2 (e.trans e2) _ fun w H3 e3 r2 => by
    cases r2
    obtain ⟨a, vs, rfl, hs, hp⟩ := r1
    obtain ⟨u, hu, ru⟩ := paired_get hp hx
    have hl := paired_len hp
    rw [hl] at h1 h2 hu
    exact ⟨a, vs, i, u, rfl, rfl, ex_t e3 hs, atI_ixs h1 h2 hu, q u H3 (e2.trans e3) (Me.ex e3 ru)⟩
/-- by a place from 0 on -/
def gt0 (d : α) (xs : List α) (i : Int) : α := (xs[ixs xs.length i]?).getD d
theorem gt0_nat (d : α) (xs : List α) (i : Nat) : gt0 d xs (i : Int) = (xs[i]?).getD d := by unfold gt0 ixs; rw [if_pos (by omega)]; rfl
theorem gt0_some {d : α} {xs : List α} {i : Int} (h1 : -(xs.length : Int) ≤ i) (h2 : i < xs.length) : xs[ixs xs.length i]? = some (gt0 d xs i) := by
  have h := (ixN_ixs h1 h2).2
  unfold gt0
  rw [List.getElem?_eq_getElem h]
  rfl
theorem er_ixL0 [Me R] (d : α) {xs : List α} {i : Int} (ha : Er (rL K R) ta σ H xs) (hb : Er rI tb σ H i) (h1 : -(xs.length : Int) ≤ i) (h2 : i < xs.length) : Er R (tOp (rIxL K) ta tb) σ H (gt0 d xs i) := er_ixL ha hb h1 h2 (gt0_some h1 h2)
theorem er_ixT0 [Me R] (d : α) {xs : List α} {i : Int} (ha : Er (rT K R) ta σ H xs) (hb : Er rI tb σ H i) (h1 : -(xs.length : Int) ≤ i) (h2 : i < xs.length) : Er R (tOp (rIxT K) ta tb) σ H (gt0 d xs i) := er_ixT ha hb h1 h2 (gt0_some h1 h2)
/-- len -/
def rLenQ (K : PySem.W.Frag) : List V → Hp → VK → Prop := fun xs H Q => ∃ p ys, xs = [.ref p] ∧ (SqL K H p ys ∨ SqT K H p ys) ∧ Q (.int ys.length) H
theorem er_lenL {xs : List α} (ha : Er (rL K R) ta σ H xs) : Er rI (tCB (rLenQ K) (tCons ta tNil)) σ H (xs.length : Int) := fun H1 e Q q =>
  ha H1 e _ fun v H2 e2 ⟨a, vs, h1, hs, hp⟩ => ⟨a, vs, by rw [h1], .inl hs, q _ H2 e2 (by show V.int _ = V.int _; rw [paired_len hp])⟩
theorem er_lenT {xs : List α} (ha : Er (rT K R) ta σ H xs) : Er rI (tCB (rLenQ K) (tCons ta tNil)) σ H (xs.length : Int) := fun H1 e Q q =>
  ha H1 e _ fun v H2 e2 ⟨a, vs, h1, hs, hp⟩ => ⟨a, vs, by rw [h1], .inr hs, q _ H2 e2 (by show V.int _ = V.int _; rw [paired_len hp])⟩
theorem er_lenS {z : Str} (ha : Er rS ta σ H z) (hz : z.length ≤ 1000000) : Er rI (tCB (fun xs H Q => ∃ z, xs = [.str z] ∧ z.length ≤ sizeLine ∧ Q (.int z.length) H) (tCons ta tNil)) σ H (z.length : Int) := fun H1 e Q q =>
  ha H1 e _ fun v H2 e2 h => ⟨z, by rw [h], sz1 hz, q _ H2 e2 rfl⟩
theorem er_abs {i : Int} (ha : Er rI ta σ H i) : Er rI (tCB (fun xs H Q => ∃ i, xs = [.int i] ∧ Q (.int (if i < 0 then -i else i)) H) (tCons ta tNil)) σ H (if i < 0 then -i else i) := fun H1 e Q q =>
  ha H1 e _ fun v H2 e2 h => ⟨i, by rw [h], q _ H2 e2 rfl⟩
theorem er_max2 {i j : Int} (ha : Er rI ta σ H i) (hb : Er rI tb σ H j) : Er rI (tCB (fun xs H Q => ∃ i j, xs = [.int i, .int j] ∧ Q (.int (if j > i then j else i)) H) (tCons ta (tCons tb tNil))) σ H (if j > i then j else i) := fun H1 e Q q =>
  ha H1 e _ fun v H2 e2 h => hb H2 (e.trans e2) _ fun w H3 e3 h' => ⟨i, j, by rw [h, h'], q _ H3 (e2.trans e3) rfl⟩
theorem er_min2 {i j : Int} (ha : Er rI ta σ H i) (hb : Er rI tb σ H j) : Er rI (tCB (fun xs H Q => ∃ i j, xs = [.int i, .int j] ∧ Q (.int (if j < i then j else i)) H) (tCons ta (tCons tb tNil))) σ H (if j < i then j else i) := fun H1 e Q q =>
  ha H1 e _ fun v H2 e2 h => hb H2 (e.trans e2) _ fun w H3 e3 h' => ⟨i, j, by rw [h, h'], q _ H3 (e2.trans e3) rfl⟩
theorem er_intB {b : Bool} (ha : Er rB ta σ H b) : Er rI (tCB (fun xs H Q => (∃ i, xs = [.int i] ∧ Q (.int i) H) ∨ ∃ k, xs = [.bl k] ∧ Q (.int (if k then 1 else 0)) H) (tCons ta tNil)) σ H (if b then 1 else 0) := fun H1 e Q q =>
  ha H1 e _ fun v H2 e2 h => .inr ⟨b, by rw [h], q _ H2 e2 rfl⟩
/-- displays: the items one by one -/
def As (R : Rp α) (xs : List α) : List V → Hp → Prop := fun vs H => Paired (R H) xs vs
theorem eas0 : Ea tNil σ H (As R []) := fun H1 e Q q => q [] H1 (Ex.refl H1) .nil
theorem eas [Me R] {tr : TA} {xs : List α} (h : Er R ta σ H x) (hr : Ea tr σ H (As R xs)) : Ea (tCons ta tr) σ H (As R (x :: xs)) := fun H1 e Q q =>
  h H1 e _ fun v H2 e2 r2 => hr H2 (e.trans e2) _ fun vs H3 e3 p => q (v :: vs) H3 (e2.trans e3) (.cons (Me.ex e3 r2) p)
theorem el_lst [Me R] {tr : TA} {xs : List α} (h : Ea tr σ H (As R xs)) (hl : xs.length ≤ 1000000) : El R (tLst tr) σ H xs := fun H1 e Q q =>
  h H1 e _ fun vs H2 e2 p => ⟨by rw [← paired_len p]; exact sz1 hl, fun a ha => q a _ (fresh_back e2 ha) (e2.trans (Ex.new ha)) ⟨vs, upd_same, pm p fun _ _ z => Me.ex (Ex.new ha) z⟩⟩
theorem er_tup [Me R] {tr : TA} {xs : List α} (h : Ea tr σ H (As R xs)) (hl : xs.length ≤ 1000000) : Er (rT K R) (tTup tr) σ H xs := fun H1 e Q q =>
  h H1 e _ fun vs H2 e2 p => ⟨by rw [← paired_len p]; exact sz1 hl, fun a ha => q _ _ (e2.trans (Ex.new ha)) ⟨a, vs, rfl, SqT.of upd_same, pm p fun _ _ z => Me.ex (Ex.new ha) z⟩⟩
theorem s_retL {D : Ends} {σ : L2.St} {H : Hp} {p : Addr} {i : Nat} (hi : σ[i]? = some (some (.ref p))) (k : D.rt (.ref p) H) : tRet (tVar i) D σ H := ⟨_, hi, k⟩

/-! ### for -/
def Fl (J : It) (g : TG) (tb : TS) (D : Ends) (σ : L2.St) (H : Hp) : Prop := ∃ W : Nat → Nat → L2.St → Hp → Prop, (∃ m, W 0 m σ H) ∧ ∀ i m σ H, W i m σ H →
  (J.stop i H ∧ D.nx σ H) ∨ (J.go i H ∧ ∃ N : L2.St → Hp → Prop, (∀ σ' H', N σ' H' → ∃ m', m' < m ∧ W (i + 1) m' σ' H') ∧ ∀ x H', J.yld i H x H' → g x σ H' fun σ2 H2 => tb { D with nx := N, ct := N, bk := D.nx } σ2 H2)
/-- so many numbers from lo on -/
def rng (lo hi : Int) : List Int := (List.range (hi - lo).toNat).map fun (k : Nat) => lo + (k : Int)
theorem rng_len (lo hi : Int) : (rng lo hi).length = (hi - lo).toNat := by unfold rng; rw [List.length_map, List.length_range]
theorem rng_get {lo hi : Int} {i : Nat} (h : i < (hi - lo).toNat) : (rng lo hi)[i]? = some (lo + (i : Int)) := by
  unfold rng
  rw [List.getElem?_map, List.getElem?_range h]
  rfl
theorem rng_at {lo hi x : Int} {i : Nat} (h : (rng lo hi)[i]? = some x) : x = lo + (i : Int) ∧ lo ≤ x ∧ x < hi := by
  have hl := (List.getElem?_eq_some_iff.mp h).1
  rw [rng_len] at hl
  rw [rng_get hl] at h
  have := Option.some.inj h
  omega
theorem take_all {xs : List α} : xs.take xs.length = xs := List.take_length
theorem fold_snoc {σ' ι : Type} {f : σ' → ι → σ'} {b s : σ'} {xs : List ι} {i : Nat} {x : ι} (h : s = List.foldl f b (List.take i xs)) (hx : xs[i]? = some x) : f s x = List.foldl f b (List.take (i + 1) xs) := by
  rw [List.take_add_one, hx, List.foldl_append, h]
  rfl
/-- a list's items by their places -/
def enm (xs : List α) : List (Int × α) := xs.zipIdx.map fun p => ((p.2 : Int), p.1)
theorem enm_len (xs : List α) : (enm xs).length = xs.length := by unfold enm; rw [List.length_map, List.length_zipIdx]
theorem enm_get {xs : List α} {i : Nat} {x : α} (h : xs[i]? = some x) : (enm xs)[i]? = some ((i : Int), x) := by
  unfold enm
  rw [List.getElem?_map, List.getElem?_zipIdx, h]
  simp
theorem enm_at {xs : List α} {i : Nat} {x : Int × α} (h : (enm xs)[i]? = some x) : x.1 = (i : Int) ∧ xs[i]? = some x.2 := by
  have hl := (List.getElem?_eq_some_iff.mp h).1
  rw [enm_len] at hl
  have e := enm_get (List.getElem?_eq_getElem hl)
  rw [e] at h
  have := Option.some.inj h
  rw [← this]
  exact ⟨rfl, List.getElem?_eq_getElem hl⟩
theorem s_forT {tl : TE} {g : TG} {xs : List α} (h : Er (rT K R) tl σ H xs) (k : ∀ v H1, Ex H H1 → rT K R H1 xs v → ∀ a, v = .ref a → Fl (Itt K a) g tu D σ H1) : tFor (iTup K tl) g tu D σ H :=
  h H (Ex.refl H) _ fun v H1 e r => by
    obtain ⟨a, vs, h1, h2, h3⟩ := id r
    exact ⟨a, h1, ⟨vs, h2⟩, k v H1 e r a h1⟩
theorem s_forL {tl : TE} {g : TG} {xs : List α} (h : Er (rL K R) tl σ H xs) (k : ∀ v H1, Ex H H1 → rL K R H1 xs v → ∀ a, v = .ref a → Fl (Itl K a) g tu D σ H1) : tFor (iList K tl) g tu D σ H :=
  h H (Ex.refl H) _ fun v H1 e r => by
    obtain ⟨a, vs, h1, h2, h3⟩ := id r
    exact ⟨a, h1, ⟨vs, h2⟩, k v H1 e r a h1⟩
theorem s_forR1 {ta : TE} {g : TG} {hi : Int} (h : Er rI ta σ H hi) (hb : -(2 ^ 62) ≤ hi ∧ hi < 2 ^ 62) (k : ∀ H1, Ex H H1 → Fl (Itr 0 hi.toNat) g tu D σ H1) : tFor (iRng1 (tCons ta tNil)) g tu D σ H :=
  h H (Ex.refl H) _ fun v H1 e r => by
    cases r
    exact ⟨hi, rfl, hb.1, hb.2, k H1 e⟩
theorem s_forR2 {ta tb : TE} {g : TG} {lo hi : Int} (h : Er rI ta σ H lo) (h' : Er rI tb σ H hi) (hb : -(2 ^ 62) ≤ lo ∧ lo < 2 ^ 62 ∧ -(2 ^ 62) ≤ hi ∧ hi < 2 ^ 62) (k : ∀ H1, Ex H H1 → Fl (Itr lo (hi - lo).toNat) g tu D σ H1) : tFor (iRng2 (tCons ta (tCons tb tNil))) g tu D σ H :=
  h H (Ex.refl H) _ fun v H1 e r => h' H1 e _ fun v' H2 e2 r' => by
    cases r
    cases r'
    exact ⟨lo, hi, rfl, hb, k H2 (e.trans e2)⟩
theorem s_forEL {ta : TE} {g : TG} {xs : List α} (h : Er (rL K R) ta σ H xs) (k : ∀ v H1, Ex H H1 → rL K R H1 xs v → ∀ a, v = .ref a → Fl (Ite K a) g tu D σ H1) : tFor (iEnum K (tCons ta tNil)) g tu D σ H :=
  h H (Ex.refl H) _ fun v H1 e r => by
    obtain ⟨a, vs, h1, h2, h3⟩ := id r
    exact ⟨a, vs, by rw [h1], h2, k v H1 e r a h1⟩

theorem fl_core {J : It} {n : Nat} {g : TG} (Pv : Nat → L2.St → Hp → Prop) (h0 : Pv 0 σ H) (go : ∀ i σ H', i < n → Pv i σ H' → J.go i H') (stop : ∀ σ H', Pv n σ H' → J.stop n H')
    (hs : ∀ i x σ H' H'', i < n → Pv i σ H' → J.yld i H' x H'' → g x σ H'' fun σ2 H2 => tu { D with nx := Pv (i + 1), ct := Pv (i + 1), bk := D.nx } σ2 H2) (hd : ∀ σ H', Pv n σ H' → D.nx σ H') : Fl J g tu D σ H := by
  refine ⟨fun i m σ H => m = n - i ∧ i ≤ n ∧ Pv i σ H, ⟨n, by simp, Nat.zero_le _, h0⟩, ?_⟩
  rintro i m σ H ⟨rfl, hi, p⟩
  by_cases hlt : i < n
  · exact .inr ⟨go i σ H hlt p, Pv (i + 1), fun σ' H' p' => ⟨n - (i + 1), by omega, rfl, hlt, p'⟩, fun x H' y => hs i x σ H H' hlt p y⟩
  · have e : i = n := by omega
    subst e
    exact .inl ⟨stop σ H p, hd σ H p⟩
theorem fl_T {xs : List α} {v : V} (r : rT K R H xs v) (Pv : Nat → L2.St → Hp → Prop) (h0 : Pv 0 σ H) (hG : ∀ i σ H', i ≤ xs.length → Pv i σ H' → rT K R H' xs v)
    (hs : ∀ i x u σ H', i < xs.length → xs[i]? = some x → Pv i σ H' → R H' x u → tu { D with nx := Pv (i + 1), ct := Pv (i + 1), bk := D.nx } (σ.set j (some u)) H') (hd : ∀ σ H', Pv xs.length σ H' → D.nx σ H') :
    ∀ a, v = .ref a → Fl (Itt K a) (gName j) tu D σ H := by
  rintro a rfl
  refine fl_core Pv h0 (fun i σ H' hi p => ?_) (fun σ H' p => ?_) (fun i x σ H' H'' hi p y => ?_) hd
  · obtain ⟨_, vs, h1, h2, h3⟩ := hG i σ H' (by omega) p
    cases h1
    have hl := paired_len h3
    exact ⟨vs, vs[i]'(by omega), h2, List.getElem?_eq_getElem _⟩
  · obtain ⟨_, vs, h1, h2, h3⟩ := hG _ σ H' (Nat.le_refl _) p
    cases h1
    exact ⟨vs, h2, by rw [paired_len h3]; exact Nat.le_refl _⟩
  · obtain ⟨_, vs, h1, h2, h3⟩ := hG i σ H' (by omega) p
    cases h1
    obtain ⟨rfl, y⟩ := y
    have hx := y vs h2
    obtain ⟨z, hz, rz⟩ := paired_get' h3 hx
    exact hs i z x σ H'' hi hz p rz
theorem fl_L {xs : List α} {v : V} (r : rL K R H xs v) (Pv : Nat → L2.St → Hp → Prop) (h0 : Pv 0 σ H) (hG : ∀ i σ H', i ≤ xs.length → Pv i σ H' → rL K R H' xs v)
    (hs : ∀ i x u σ H', i < xs.length → xs[i]? = some x → Pv i σ H' → R H' x u → tu { D with nx := Pv (i + 1), ct := Pv (i + 1), bk := D.nx } (σ.set j (some u)) H') (hd : ∀ σ H', Pv xs.length σ H' → D.nx σ H') :
    ∀ a, v = .ref a → Fl (Itl K a) (gName j) tu D σ H := by
  rintro a rfl
  refine fl_core Pv h0 (fun i σ H' hi p => ?_) (fun σ H' p => ?_) (fun i x σ H' H'' hi p y => ?_) hd
  · obtain ⟨_, vs, h1, h2, h3⟩ := hG i σ H' (by omega) p
    cases h1
    have hl := paired_len h3
    exact ⟨vs, vs[i]'(by omega), h2, List.getElem?_eq_getElem _⟩
  · obtain ⟨_, vs, h1, h2, h3⟩ := hG _ σ H' (Nat.le_refl _) p
    cases h1
    exact ⟨vs, h2, by rw [paired_len h3]; exact Nat.le_refl _⟩
  · obtain ⟨_, vs, h1, h2, h3⟩ := hG i σ H' (by omega) p
    cases h1
    obtain ⟨rfl, y⟩ := y
    have hx := y vs h2
    obtain ⟨z, hz, rz⟩ := paired_get' h3 hx
    exact hs i z x σ H'' hi hz p rz
theorem fl_TI {xs : List Int} {v : V} (r : rT K rI H xs v) (Pv : Nat → L2.St → Hp → Prop) (h0 : Pv 0 σ H) (hG : ∀ i σ H', i ≤ xs.length → Pv i σ H' → rT K rI H' xs v)
    (hs : ∀ i x σ H', i < xs.length → xs[i]? = some x → Pv i σ H' → tu { D with nx := Pv (i + 1), ct := Pv (i + 1), bk := D.nx } (σ.set j (some (.int x))) H') (hd : ∀ σ H', Pv xs.length σ H' → D.nx σ H') :
    ∀ a, v = .ref a → Fl (Itt K a) (gName j) tu D σ H := fl_T r Pv h0 hG (fun i x u σ H' hi hx p r => by cases r; exact hs i x σ H' hi hx p) hd
theorem fl_LI {xs : List Int} {v : V} (r : rL K rI H xs v) (Pv : Nat → L2.St → Hp → Prop) (h0 : Pv 0 σ H) (hG : ∀ i σ H', i ≤ xs.length → Pv i σ H' → rL K rI H' xs v)
    (hs : ∀ i x σ H', i < xs.length → xs[i]? = some x → Pv i σ H' → tu { D with nx := Pv (i + 1), ct := Pv (i + 1), bk := D.nx } (σ.set j (some (.int x))) H') (hd : ∀ σ H', Pv xs.length σ H' → D.nx σ H') :
    ∀ a, v = .ref a → Fl (Itl K a) (gName j) tu D σ H := fl_L r Pv h0 hG (fun i x u σ H' hi hx p r => by cases r; exact hs i x σ H' hi hx p) hd
theorem fl_R {lo hi : Int} {n : Nat} (hn : n = (hi - lo).toNat) (Pv : Nat → L2.St → Hp → Prop) (h0 : Pv 0 σ H)
    (hs : ∀ i x σ H', i < (rng lo hi).length → (rng lo hi)[i]? = some x → Pv i σ H' → tu { D with nx := Pv (i + 1), ct := Pv (i + 1), bk := D.nx } (σ.set j (some (.int x))) H') (hd : ∀ σ H', Pv (rng lo hi).length σ H' → D.nx σ H') :
    Fl (Itr lo n) (gName j) tu D σ H := by
  subst hn
  have hl := rng_len lo hi
  refine fl_core (n := (hi - lo).toNat) Pv h0 (fun i σ H' hi p => hi) (fun σ H' p => Nat.le_refl _) (fun i x σ H' H'' hi p y => ?_) (fun σ H' p => hd σ H' (by rw [hl]; exact p))
  obtain ⟨rfl, rfl⟩ := y
  exact hs i _ σ H'' (by omega) (rng_get hi) p
/-- a pair's targets -/
abbrev g2 (K : PySem.W.Frag) (i j : Nat) : TG := gTup K 2 (gCons (gName i) (gCons (gName j) gNil))
theorem fl_EL {i0 : Nat} {xs : List α} {v : V} (r : rL K R H xs v) (Pv : Nat → L2.St → Hp → Prop) (h0 : Pv 0 σ H) (hG : ∀ i σ H', i ≤ xs.length → Pv i σ H' → rL K R H' xs v)
    (hs : ∀ i x u σ H' H'', i < (enm xs).length → (enm xs)[i]? = some x → Pv i σ H' → Ex H' H'' → R H' x.2 u → tu { D with nx := Pv (i + 1), ct := Pv (i + 1), bk := D.nx } ((σ.set i0 (some (.int x.1))).set j (some u)) H'') (hd : ∀ σ H', Pv (enm xs).length σ H' → D.nx σ H') :
    ∀ a, v = .ref a → Fl (Ite K a) (g2 K i0 j) tu D σ H := by
  rintro a rfl
  have hle := enm_len xs
  refine fl_core (n := xs.length) Pv h0 (fun i σ H' hi p => ?_) (fun σ H' p => ?_) (fun i x σ H' H'' hi p y => ?_) (fun σ H' p => hd σ H' (by rw [hle]; exact p))
  · obtain ⟨_, vs, h1, h2, h3⟩ := hG i σ H' (by omega) p
    cases h1
    have hl := paired_len h3
    exact ⟨vs, vs[i]'(by omega), h2, List.getElem?_eq_getElem _⟩
  · obtain ⟨_, vs, h1, h2, h3⟩ := hG _ σ H' (Nat.le_refl _) p
    cases h1
    exact ⟨vs, h2, by rw [paired_len h3]; exact Nat.le_refl _⟩
  · obtain ⟨_, vs, h1, h2, h3⟩ := hG i σ H' (by omega) p
    cases h1
    obtain ⟨T, u, rfl, nT, rfl, y⟩ := y
    have hx := y vs h2
    obtain ⟨z, hz, rz⟩ := paired_get' h3 hx
    exact ⟨T, [.int (i : Nat), u], rfl, SqT.of upd_same, rfl, _, _, rfl, _, _, rfl, rfl, hs i ((i : Int), z) u σ H' _ (by omega) (enm_get hz) p (Ex.new nT) rz⟩
theorem fl_ELI {i0 : Nat} {xs : List Int} {v : V} (r : rL K rI H xs v) (Pv : Nat → L2.St → Hp → Prop) (h0 : Pv 0 σ H) (hG : ∀ i σ H', i ≤ xs.length → Pv i σ H' → rL K rI H' xs v)
    (hs : ∀ i x σ H' H'', i < (enm xs).length → (enm xs)[i]? = some x → Pv i σ H' → Ex H' H'' → tu { D with nx := Pv (i + 1), ct := Pv (i + 1), bk := D.nx } ((σ.set i0 (some (.int x.1))).set j (some (.int x.2))) H'') (hd : ∀ σ H', Pv (enm xs).length σ H' → D.nx σ H') :
    ∀ a, v = .ref a → Fl (Ite K a) (g2 K i0 j) tu D σ H := fl_EL r Pv h0 hG (fun i x u σ H' H'' hi hx p e r => by cases r; exact hs i x σ H' H'' hi hx p e) hd

/-! ### own lists kept -/
theorem Lt.ne {p q : Addr} {xs : List α} (h : Lt R H p xs) (hq : H q = none) : p ≠ q := let ⟨_, h1, _⟩ := h; ne_of_none h1 hq
theorem Lt.kt {p : Addr} {xs : List α} (h : Lt R H p xs) (c : C1 p H H') : Kt K H H' := let ⟨_, h1, _⟩ := h; Kt.c1 h1 c
theorem Lt.keep [Mkt K R] {p q : Addr} {xs : List α} (h : Lt R H q xs) (kt : Kt K H H') (c : C1 p H H') (n : q ≠ p) : Lt R H' q xs := let ⟨vs, h1, h2⟩ := h; ⟨vs, c _ _ n h1, pm h2 fun _ _ z => Mkt.kt kt z⟩
/-- xs[i] = e: an own list -/
theorem s_set [Mkt K R] {l : Addr} {xs : List α} {i : Int} (hl : Lt R H l xs) (hj : σ[j]? = some (some (.ref l))) (h : Er R te σ H x) (hi : Er rI tb σ H i) (h1 : -(xs.length : Int) ≤ i) (h2 : i < xs.length)
    (k : ∀ H1, C1 l H H1 → Lt R H1 l (xs.set (ixs xs.length i) x) → D.nx σ H1) : tAsg te (gSub (tVar j) tb rSetL) D σ H := by
  obtain ⟨vs, e1, e2⟩ := hl
  refine h H (Ex.refl H) _ fun v H1 ex1 r => ⟨_, hj, ?_⟩
  refine hi H1 ex1 _ fun u H2 ex2 ri => ?_
  cases ri
  have hl := paired_len e2
  have e3 : H2 l = some (.lst vs) := ex2 _ _ (ex1 _ _ e1)
  refine ⟨l, vs, i, ixs xs.length i, rfl, rfl, e3, by rw [← hl]; exact (ixN_ixs h1 h2).1, ?_⟩
  have kt1 : Kt K H2 (upd H2 l (.lst (vs.set (ixs xs.length i) v))) := Kt.c1 e3 (C1.up (C1.refl l H2))
  exact k _ (C1.up (C1.ex (ex1.trans ex2))) ⟨_, upd_same, paired_set _ (pm e2 fun _ _ z => Mkt.kt ((Kt.ex (K := K) (ex1.trans ex2)).trans kt1) z) (Mkt.kt ((Kt.ex (K := K) ex2).trans kt1) r)⟩
/-! ### new lists -/
theorem el_own [Me R] {p : Addr} {xs : List α} {i : Nat} : True := trivial
theorem el_cat [Me R] {xs ys : List α} (ha : El R ta σ H xs) (hb : El R tb σ H ys) (hl : xs.length + ys.length ≤ 1000000) : El R (tOp rCat ta tb) σ H (xs ++ ys) := fun H1 e Q q =>
  ha H1 e _ fun p H2 n2 e2 l2 => hb H2 (e.trans e2) _ fun p' H3 n3 e3 l3 => by
    obtain ⟨vs, h1, h2⟩ := l2
    obtain ⟨ws, h3, h4⟩ := l3
    refine ⟨p, p', vs, ws, rfl, rfl, e3 _ _ h1, h3, by rw [← paired_len h2, ← paired_len h4]; exact sz1 hl, fun a na => ?_⟩
    exact q a _ (fresh_back (e2.trans e3) na) ((e2.trans e3).trans (Ex.new na)) ⟨_, upd_same, paired_append (pm h2 fun _ _ z => Me.ex (e3.trans (Ex.new na)) z) (pm h4 fun _ _ z => Me.ex (Ex.new na) z)⟩
def repL (xs : List α) (k : Int) : List α := (List.replicate k.toNat xs).flatten
theorem repL_len (xs : List α) (k : Int) : (repL xs k).length = k.toNat * xs.length := by unfold repL; simp
theorem paired_flat {F : α → V → Prop} {xs : List α} {vs : List V} (h : Paired F xs vs) : ∀ n, Paired F (List.replicate n xs).flatten (List.replicate n vs).flatten
  | 0 => .nil
  | n + 1 => by
    rw [List.replicate_succ, List.replicate_succ, List.flatten_cons, List.flatten_cons]
    exact paired_append h (paired_flat h n)
theorem el_rep [Me R] {xs : List α} {k : Int} (ha : El R ta σ H xs) (hb : Er rI tb σ H k) (h1 : -(2 ^ 63) ≤ k ∧ k < 2 ^ 63) (hl : xs.length * k.toNat ≤ 1000000) : El R (tOp rRep ta tb) σ H (repL xs k) := fun H1 e Q q =>
  ha H1 e _ fun p H2 n2 e2 l2 => hb H2 (e.trans e2) _ fun v H3 e3 r => by
    cases r
    obtain ⟨vs, h3, h4⟩ := l2
    refine ⟨p, k, vs, rfl, rfl, e3 _ _ h3, h1.1, h1.2, by rw [← paired_len h4]; exact sz1 hl, fun a na => ?_⟩
    exact q a _ (fresh_back (e2.trans e3) na) ((e2.trans e3).trans (Ex.new na)) ⟨_, upd_same, paired_flat (pm h4 fun _ _ z => Me.ex (e3.trans (Ex.new na)) z) _⟩
def rListQ (K : PySem.W.Frag) : List V → Hp → VK → Prop := fun xs H Q => ∃ p ys, xs = [.ref p] ∧ (SqL K H p ys ∨ SqT K H p ys) ∧ ∀ l, H l = none → Q (.ref l) (upd H l (.lst ys))
theorem el_listL [Me R] {xs : List α} (ha : Er (rL K R) ta σ H xs) : El R (tCB (rListQ K) (tCons ta tNil)) σ H xs := fun H1 e Q q =>
  ha H1 e _ fun v H2 e2 ⟨a, vs, h1, hs, hp⟩ => ⟨a, vs, by rw [h1], .inl hs, fun l nl => q l _ (fresh_back e2 nl) (e2.trans (Ex.new nl)) ⟨_, upd_same, pm hp fun _ _ z => Me.ex (Ex.new nl) z⟩⟩
theorem el_listT [Me R] {xs : List α} (ha : Er (rT K R) ta σ H xs) : El R (tCB (rListQ K) (tCons ta tNil)) σ H xs := fun H1 e Q q =>
  ha H1 e _ fun v H2 e2 ⟨a, vs, h1, hs, hp⟩ => ⟨a, vs, by rw [h1], .inr hs, fun l nl => q l _ (fresh_back e2 nl) (e2.trans (Ex.new nl)) ⟨_, upd_same, pm hp fun _ _ z => Me.ex (Ex.new nl) z⟩⟩
def rTupQ (K : PySem.W.Frag) : List V → Hp → VK → Prop := fun xs H Q => ∃ p ys, xs = [.ref p] ∧ ((SqL K H p ys ∧ ∀ l, H l = none → Q (.ref l) (upd H l (.tup ys))) ∨ (SqT K H p ys ∧ Q (.ref p) H))
theorem er_tupL [Me R] {xs : List α} (ha : Er (rL K R) ta σ H xs) : Er (rT K R) (tCB (rTupQ K) (tCons ta tNil)) σ H xs := fun H1 e Q q =>
  ha H1 e _ fun v H2 e2 ⟨a, vs, h1, hs, hp⟩ => ⟨a, vs, by rw [h1], .inl ⟨hs, fun l nl => q _ _ (e2.trans (Ex.new nl)) ⟨l, _, rfl, SqT.of upd_same, pm hp fun _ _ z => Me.ex (Ex.new nl) z⟩⟩⟩
theorem er_tupT {xs : List α} (ha : Er (rT K R) ta σ H xs) : Er (rT K R) (tCB (rTupQ K) (tCons ta tNil)) σ H xs := fun H1 e Q q =>
  ha H1 e _ fun v H2 e2 r => by
    obtain ⟨a, vs, h1, hs, hp⟩ := id r
    exact ⟨a, vs, by rw [h1], .inr ⟨hs, q _ H2 e2 (by rw [← h1]; exact r)⟩⟩
theorem er_catT [Me R] {xs ys : List α} (ha : Er (rT K R) ta σ H xs) (hb : Er (rT K R) tb σ H ys) (hl : xs.length + ys.length ≤ 1000000) : Er (rT K R) (tOp (rCatA K) ta tb) σ H (xs ++ ys) := fun H1 e Q q =>
  ha H1 e _ fun v H2 e2 r1 => hb H2 (e.trans e2) _ fun w H3 e3 r2 => by
    obtain ⟨a, vs, rfl, h1, h2⟩ := r1
    obtain ⟨b, ws, rfl, h3, h4⟩ := r2
    refine ⟨a, b, vs, ws, rfl, rfl, ex_t e3 h1, h3, by rw [← paired_len h2, ← paired_len h4]; exact sz1 hl, fun z => ?_, fun _ z => ?_, fun _ _ p np => ?_⟩
    · subst z
      cases h2
      exact q _ H3 (e2.trans e3) ⟨b, ws, rfl, h3, h4⟩
    · subst z
      cases h4
      exact q _ H3 (e2.trans e3) (by rw [List.append_nil]; exact ⟨a, vs, rfl, ex_t e3 h1, pm h2 fun _ _ z => Me.ex e3 z⟩)
    · exact q _ _ ((e2.trans e3).trans (Ex.new np)) ⟨p, _, rfl, SqT.of upd_same, paired_append (pm h2 fun _ _ z => Me.ex (e3.trans (Ex.new np)) z) (pm h4 fun _ _ z => Me.ex (Ex.new np) z)⟩
/-- slices -/
def cutL (xs : List α) (lo hi : Option Int) : List α := (xs.drop (HT.sIx xs.length 0 lo)).take (HT.sIx xs.length xs.length hi - HT.sIx xs.length 0 lo)
theorem paired_cut {F : α → V → Prop} {xs : List α} {vs : List V} (h : Paired F xs vs) (lo hi : Option Int) : Paired F (cutL xs lo hi) (cutV vs lo hi) := by
  have hl := paired_len h
  unfold cutL cutV
  rw [hl]
  exact paired_take _ (paired_drop _ h)
theorem cutL_hi {xs : List α} (k : Nat) : cutL xs none (some (k : Int)) = xs.take k := by
  unfold cutL
  rw [HT.sIx_none, HT.sIx_nat, List.drop_zero, Nat.sub_zero]
  by_cases h : k ≤ xs.length
  · rw [Nat.min_eq_left h]
  · rw [Nat.min_eq_right (by omega), List.take_of_length_le (Nat.le_refl _), List.take_of_length_le (by omega)]
theorem cutL_lo {xs : List α} (k : Nat) : cutL xs (some (k : Int)) none = xs.drop k := by
  unfold cutL
  rw [HT.sIx_none, HT.sIx_nat]
  by_cases h : k ≤ xs.length
  · rw [Nat.min_eq_left h, List.take_of_length_le (by rw [List.length_drop]; exact Nat.le_refl _)]
  · rw [Nat.min_eq_right (by omega), List.drop_of_length_le (Nat.le_refl _), List.drop_of_length_le (by omega), List.take_nil]
def Eo (to : TO) (σ : L2.St) (H : Hp) (o : Option Int) : Prop := ∀ H1, Ex H H1 → ∀ Q : Option Int → Hp → Prop, (∀ H2, Ex H1 H2 → Q o H2) → to σ H1 Q
theorem eo0 : Eo tNoPart σ H none := fun H1 _ _ q => q H1 (Ex.refl H1)
theorem eo1 {i : Int} (h : Er rI te σ H i) : Eo (tPart te) σ H (some i) := fun H1 e _ q => h H1 e _ fun v H2 e2 r => ⟨i, r, q H2 e2⟩
theorem er_slT [Me R] {tl th : TO} {xs : List α} {lo hi : Option Int} (h : Er (rT K R) te σ H xs) (h1 : Eo tl σ H lo) (h2 : Eo th σ H hi) : Er (rT K R) (tSl (rSlA K) te tl th) σ H (cutL xs lo hi) := fun H1 e Q q =>
  h H1 e _ fun v H2 e2 r => h1 H2 (e.trans e2) _ fun H3 e3 => h2 H3 ((e.trans e2).trans e3) _ fun H4 e4 => by
    obtain ⟨a, vs, rfl, hs, hp⟩ := r
    have hs4 := ex_t e4 (ex_t e3 hs)
    have hp4 : Paired (R H4) xs vs := pm hp fun _ _ z => Me.ex (e3.trans e4) z
    have e24 := (e2.trans e3).trans e4
    refine ⟨a, vs, rfl, hs4, fun z => ?_, fun _ p np => ?_⟩
    · refine q _ H4 e24 ⟨a, vs, rfl, hs4, ?_⟩
      have w : cutV vs lo hi = vs := by
        unfold cutV
        rw [z.1, z.2, List.drop_zero, Nat.sub_zero, List.take_length]
      have := paired_cut hp4 lo hi
      rw [w] at this
      exact this
    · exact q _ _ (e24.trans (Ex.new np)) ⟨p, _, rfl, SqT.of upd_same, pm (paired_cut hp4 lo hi) fun _ _ z => Me.ex (Ex.new np) z⟩
theorem el_sl [Me R] {tl th : TO} {xs : List α} {lo hi : Option Int} (h : Er (rL K R) te σ H xs) (h1 : Eo tl σ H lo) (h2 : Eo th σ H hi) : El R (tSl (rSlL K) te tl th) σ H (cutL xs lo hi) := fun H1 e Q q =>
  h H1 e _ fun v H2 e2 r => h1 H2 (e.trans e2) _ fun H3 e3 => h2 H3 ((e.trans e2).trans e3) _ fun H4 e4 => by
    obtain ⟨a, vs, rfl, hs, hp⟩ := r
    have e24 := (e2.trans e3).trans e4
    refine ⟨a, vs, rfl, ex_l e4 (ex_l e3 hs), fun p np => ?_⟩
    exact q p _ (fresh_back e24 np) (e24.trans (Ex.new np)) ⟨_, upd_same, pm (paired_cut hp lo hi) fun _ _ z => Me.ex ((e3.trans e4).trans (Ex.new np)) z⟩
/-- lists as arguments -/
def AcL (R : Rp α) (xs : List α) (P : List V → Hp → Prop) : List V → Hp → Prop := fun vs H => ∃ v r, vs = v :: r ∧ (∃ p, v = .ref p ∧ Lt R H p xs) ∧ P r H
theorem eacL [Me R] {tr : TA} {xs : List α} {P : List V → Hp → Prop} (h : El R ta σ H xs) (hr : Ea tr σ H P) : Ea (tCons ta tr) σ H (AcL R xs P) := fun H1 e Q q =>
  h H1 e _ fun p H2 _ e2 l2 => hr H2 (e.trans e2) _ fun vs H3 e3 pv => q (.ref p :: vs) H3 (e2.trans e3) ⟨.ref p, vs, rfl, ⟨p, rfl, l2.ex e3⟩, pv⟩
theorem eacO [Me R] {tr : TA} {p : Addr} {i : Nat} {xs : List α} {P : List V → Hp → Prop} (hi : σ[i]? = some (some (.ref p))) (h : Lt R H p xs) (hr : Ea tr σ H P) : Ea (tCons (tVar i) tr) σ H (AcL R xs P) := fun H1 e Q q =>
  ⟨_, hi, hr H1 e _ fun vs H3 e3 pv => q (.ref p :: vs) H3 e3 ⟨.ref p, vs, rfl, ⟨p, rfl, h.ex (e.trans e3)⟩, pv⟩⟩
def Gnl (sp : Sp) (P : List V → Hp → Prop) (R : Rp α) (xs : List α) : Prop := ∀ vs H1, P vs H1 → ∀ (Q : VK) (E : XK), (∀ p H2, H1 p = none → Ex H1 H2 → Lt R H2 p xs → Q (.ref p) H2) → sp vs H1 Q E
theorem el_call {sp : Sp} {E : XK} {tr : TA} {P : List V → Hp → Prop} {xs : List α} (h : Ea tr σ H P) (g : Gnl sp P R xs) : El R (tCall sp [] E tr) σ H xs := fun H1 e Q q =>
  h H1 e _ fun vs H2 e2 p => by
    show sp (vs ++ []) H2 Q E
    rw [List.append_nil]
    exact g vs H2 p Q E fun a H3 n e3 r => q a H3 (fresh_back e2 n) (e2.trans e3) r
end
theorem cmul_of {i j : Int} (h : (-(2 ^ 64) < i ∧ i < 2 ^ 64) ∨ (-(2 ^ 64) < j ∧ j < 2 ^ 64)) : CMul i j := h
theorem cmul_l {i j : Int} (h : -(2 ^ 64) < i ∧ i < 2 ^ 64) : CMul i j := .inl h
theorem cmul_r {i j : Int} (h : -(2 ^ 64) < j ∧ j < 2 ^ 64) : CMul i j := .inr h

/-! ### the same, with what follows -/
section
variable {α : Type} {K : PySem.W.Frag} {H : Hp} {σ : L2.St} {ta tb te : TE} {t u : TT} {R : Rp α} {x : α} {D : Ends} {tu tw tz : TS} {j : Nat}
theorem q_asgI {i : Int} (h : Er rI te σ H i) (k : ∀ H1, Ex H H1 → tz D (σ.set j (some (.int i))) H1) : tSeq (tAsg te (gName j)) tz D σ H := s_asgI (D := { D with nx := tz D }) h k
theorem q_asgB {i : Bool} (h : Er rB te σ H i) (k : ∀ H1, Ex H H1 → tz D (σ.set j (some (.bl i))) H1) : tSeq (tAsg te (gName j)) tz D σ H := s_asgB (D := { D with nx := tz D }) h k
theorem q_asgS {i : Str} (h : Er rS te σ H i) (k : ∀ H1, Ex H H1 → tz D (σ.set j (some (.str i))) H1) : tSeq (tAsg te (gName j)) tz D σ H := s_asgS (D := { D with nx := tz D }) h k
theorem q_asg (h : Er R te σ H x) (k : ∀ v H1, Ex H H1 → R H1 x v → tz D (σ.set j (some v)) H1) : tSeq (tAsg te (gName j)) tz D σ H := s_asg (D := { D with nx := tz D }) h k
theorem q_asgL {xs : List α} (h : El R te σ H xs) (k : ∀ p H1, H p = none → Ex H H1 → Lt R H1 p xs → tz D (σ.set j (some (.ref p))) H1) : tSeq (tAsg te (gName j)) tz D σ H := s_asgL (D := { D with nx := tz D }) h k
theorem q_drop (h : Er R te σ H x) (k : ∀ H1, Ex H H1 → tz D σ H1) : tSeq (tDrop te) tz D σ H := s_drop (D := { D with nx := tz D }) h k
theorem q_if {b : Bool} (h : Et t σ H b) (h1 : b = true → ∀ H1, Ex H H1 → tu { D with nx := tz D } σ H1) (h2 : b = false → ∀ H1, Ex H H1 → tw { D with nx := tz D } σ H1) : tSeq (tIfS t tu tw) tz D σ H := s_if (D := { D with nx := tz D }) h h1 h2
theorem q_when {b : Bool} (h : Et t σ H b) (h1 : b = true → ∀ H1, Ex H H1 → tu { D with nx := tz D } σ H1) (h2 : b = false → ∀ H1, Ex H H1 → tz D σ H1) : tSeq (tIfS t tu tNext) tz D σ H := s_when (D := { D with nx := tz D }) h h1 h2
theorem q_app [Mkt K R] {l : Addr} {xs : List α} (hl : Lt R H l xs) (hi : σ[j]? = some (some (.ref l))) (h : Er R te σ H x) (hz : xs.length < 1000000) (k : ∀ H1, C1 l H H1 → Lt R H1 l (xs ++ [x]) → tz D σ H1) :
    tSeq (tDrop (tBM K "list" rAppend (tVar j) (tCons te tNil))) tz D σ H := s_app (D := { D with nx := tz D }) hl hi h hz k
theorem q_set [Mkt K R] {l : Addr} {xs : List α} {i : Int} (hl : Lt R H l xs) (hj : σ[j]? = some (some (.ref l))) (h : Er R te σ H x) (hi : Er rI tb σ H i) (h1 : -(xs.length : Int) ≤ i) (h2 : i < xs.length)
    (k : ∀ H1, C1 l H H1 → Lt R H1 l (xs.set (ixs xs.length i) x) → tz D σ H1) : tSeq (tAsg te (gSub (tVar j) tb rSetL)) tz D σ H := s_set (K := K) (D := { D with nx := tz D }) hl hj h hi h1 h2 k
theorem q_while (W : Nat → L2.St → Hp → Prop) (m0 : Nat) (h0 : W m0 σ H)
    (hs : ∀ m σ' H', W m σ' H' → ∃ b, Et t σ' H' b ∧ (b = true → ∀ H1, Ex H' H1 → ∃ N : L2.St → Hp → Prop, (∀ σ2 H2, N σ2 H2 → ∃ m', m' < m ∧ W m' σ2 H2) ∧ tu { D with nx := N, ct := N, bk := tz D } σ' H1) ∧ (b = false → ∀ H1, Ex H' H1 → tz D σ' H1)) : tSeq (tWhile t tu) tz D σ H := s_while (D := { D with nx := tz D }) W m0 h0 hs
theorem q_forT {tl : TE} {g : TG} {xs : List α} (h : Er (rT K R) tl σ H xs) (k : ∀ v H1, Ex H H1 → rT K R H1 xs v → ∀ a, v = .ref a → Fl (Itt K a) g tu { D with nx := tz D } σ H1) : tSeq (tFor (iTup K tl) g tu) tz D σ H := s_forT (D := { D with nx := tz D }) h k
theorem q_forL {tl : TE} {g : TG} {xs : List α} (h : Er (rL K R) tl σ H xs) (k : ∀ v H1, Ex H H1 → rL K R H1 xs v → ∀ a, v = .ref a → Fl (Itl K a) g tu { D with nx := tz D } σ H1) : tSeq (tFor (iList K tl) g tu) tz D σ H := s_forL (D := { D with nx := tz D }) h k
theorem q_forR1 {ta : TE} {g : TG} {hi : Int} (h : Er rI ta σ H hi) (hb : -(2 ^ 62) ≤ hi ∧ hi < 2 ^ 62) (k : ∀ H1, Ex H H1 → Fl (Itr 0 hi.toNat) g tu { D with nx := tz D } σ H1) : tSeq (tFor (iRng1 (tCons ta tNil)) g tu) tz D σ H := s_forR1 (D := { D with nx := tz D }) h hb k
theorem q_forR2 {ta tb : TE} {g : TG} {lo hi : Int} (h : Er rI ta σ H lo) (h' : Er rI tb σ H hi) (hb : -(2 ^ 62) ≤ lo ∧ lo < 2 ^ 62 ∧ -(2 ^ 62) ≤ hi ∧ hi < 2 ^ 62) (k : ∀ H1, Ex H H1 → Fl (Itr lo (hi - lo).toNat) g tu { D with nx := tz D } σ H1) : tSeq (tFor (iRng2 (tCons ta (tCons tb tNil))) g tu) tz D σ H := s_forR2 (D := { D with nx := tz D }) h h' hb k
theorem q_forEL {ta : TE} {g : TG} {xs : List α} (h : Er (rL K R) ta σ H xs) (k : ∀ v H1, Ex H H1 → rL K R H1 xs v → ∀ a, v = .ref a → Fl (Ite K a) g tu { D with nx := tz D } σ H1) : tSeq (tFor (iEnum K (tCons ta tNil)) g tu) tz D σ H := s_forEL (D := { D with nx := tz D }) h k
end
/-! ### for, with what follows -/
section
variable {α : Type} {K : PySem.W.Frag} {H : Hp} {σ : L2.St} {R : Rp α} {D : Ends} {tu tz : TS} {j : Nat}
theorem fq_T {xs : List α} {v : V} (r : rT K R H xs v) (Pv : Nat → L2.St → Hp → Prop) (h0 : Pv 0 σ H) (hG : ∀ i σ H', i ≤ xs.length → Pv i σ H' → rT K R H' xs v)
    (hs : ∀ i x u σ H', i < xs.length → xs[i]? = some x → Pv i σ H' → R H' x u → tu { nx := Pv (i + 1), rt := D.rt, bk := tz D, ct := Pv (i + 1) } (σ.set j (some u)) H') (hd : ∀ σ H', Pv xs.length σ H' → tz D σ H') :
    ∀ a, v = .ref a → Fl (Itt K a) (gName j) tu { D with nx := tz D } σ H := fl_T (D := { D with nx := tz D }) r Pv h0 hG hs hd
theorem fq_L {xs : List α} {v : V} (r : rL K R H xs v) (Pv : Nat → L2.St → Hp → Prop) (h0 : Pv 0 σ H) (hG : ∀ i σ H', i ≤ xs.length → Pv i σ H' → rL K R H' xs v)
    (hs : ∀ i x u σ H', i < xs.length → xs[i]? = some x → Pv i σ H' → R H' x u → tu { nx := Pv (i + 1), rt := D.rt, bk := tz D, ct := Pv (i + 1) } (σ.set j (some u)) H') (hd : ∀ σ H', Pv xs.length σ H' → tz D σ H') :
    ∀ a, v = .ref a → Fl (Itl K a) (gName j) tu { D with nx := tz D } σ H := fl_L (D := { D with nx := tz D }) r Pv h0 hG hs hd
theorem fq_TI {xs : List Int} {v : V} (r : rT K rI H xs v) (Pv : Nat → L2.St → Hp → Prop) (h0 : Pv 0 σ H) (hG : ∀ i σ H', i ≤ xs.length → Pv i σ H' → rT K rI H' xs v)
    (hs : ∀ i x σ H', i < xs.length → xs[i]? = some x → Pv i σ H' → tu { nx := Pv (i + 1), rt := D.rt, bk := tz D, ct := Pv (i + 1) } (σ.set j (some (.int x))) H') (hd : ∀ σ H', Pv xs.length σ H' → tz D σ H') :
    ∀ a, v = .ref a → Fl (Itt K a) (gName j) tu { D with nx := tz D } σ H := fl_TI (D := { D with nx := tz D }) r Pv h0 hG hs hd
theorem fq_LI {xs : List Int} {v : V} (r : rL K rI H xs v) (Pv : Nat → L2.St → Hp → Prop) (h0 : Pv 0 σ H) (hG : ∀ i σ H', i ≤ xs.length → Pv i σ H' → rL K rI H' xs v)
    (hs : ∀ i x σ H', i < xs.length → xs[i]? = some x → Pv i σ H' → tu { nx := Pv (i + 1), rt := D.rt, bk := tz D, ct := Pv (i + 1) } (σ.set j (some (.int x))) H') (hd : ∀ σ H', Pv xs.length σ H' → tz D σ H') :
    ∀ a, v = .ref a → Fl (Itl K a) (gName j) tu { D with nx := tz D } σ H := fl_LI (D := { D with nx := tz D }) r Pv h0 hG hs hd
theorem fq_R {lo hi : Int} {n : Nat} (hn : n = (hi - lo).toNat) (Pv : Nat → L2.St → Hp → Prop) (h0 : Pv 0 σ H)
    (hs : ∀ i x σ H', i < (rng lo hi).length → (rng lo hi)[i]? = some x → Pv i σ H' → tu { nx := Pv (i + 1), rt := D.rt, bk := tz D, ct := Pv (i + 1) } (σ.set j (some (.int x))) H') (hd : ∀ σ H', Pv (rng lo hi).length σ H' → tz D σ H') :
    Fl (Itr lo n) (gName j) tu { D with nx := tz D } σ H := fl_R (D := { D with nx := tz D }) hn Pv h0 hs hd
theorem fq_EL {i0 : Nat} {xs : List α} {v : V} (r : rL K R H xs v) (Pv : Nat → L2.St → Hp → Prop) (h0 : Pv 0 σ H) (hG : ∀ i σ H', i ≤ xs.length → Pv i σ H' → rL K R H' xs v)
    (hs : ∀ i x u σ H' H'', i < (enm xs).length → (enm xs)[i]? = some x → Pv i σ H' → Ex H' H'' → R H' x.2 u → tu { nx := Pv (i + 1), rt := D.rt, bk := tz D, ct := Pv (i + 1) } ((σ.set i0 (some (.int x.1))).set j (some u)) H'') (hd : ∀ σ H', Pv (enm xs).length σ H' → tz D σ H') :
    ∀ a, v = .ref a → Fl (Ite K a) (g2 K i0 j) tu { D with nx := tz D } σ H := fl_EL (D := { D with nx := tz D }) r Pv h0 hG hs hd
theorem fq_ELI {i0 : Nat} {xs : List Int} {v : V} (r : rL K rI H xs v) (Pv : Nat → L2.St → Hp → Prop) (h0 : Pv 0 σ H) (hG : ∀ i σ H', i ≤ xs.length → Pv i σ H' → rL K rI H' xs v)
    (hs : ∀ i x σ H' H'', i < (enm xs).length → (enm xs)[i]? = some x → Pv i σ H' → Ex H' H'' → tu { nx := Pv (i + 1), rt := D.rt, bk := tz D, ct := Pv (i + 1) } ((σ.set i0 (some (.int x.1))).set j (some (.int x.2))) H'') (hd : ∀ σ H', Pv (enm xs).length σ H' → tz D σ H') :
    ∀ a, v = .ref a → Fl (Ite K a) (g2 K i0 j) tu { D with nx := tz D } σ H := fl_ELI (D := { D with nx := tz D }) r Pv h0 hG hs hd
end
/-! ### comprehensions -/
section
variable {α β ι : Type} {K : PySem.W.Frag} {H : Hp} {σ : L2.St} {ta tb te tl : TE} {tt : TT} {R : Rp α} {Ri : Rp β} {vs : List Nat} {j : Nat}
def Good (R : Rp α) (σ : L2.St) (vs : List Nat) (tt : TT) (te : TE) (σ2 : L2.St) (H : Hp) (b : Bool) (y : α) : Prop := wipe σ2 vs = wipe σ vs ∧ Et tt σ2 H b ∧ (b = true → Er R te σ2 H y)
theorem el_core [Me R] [Mkt K R] {J : It} {g : TG} {xs : List ι} (c : ι → Bool) (f : ι → α) (hl : xs.length < 1000000)
    (go : ∀ i H', Ex H H' → i < xs.length → J.go i H') (stop : ∀ H', Ex H H' → J.stop xs.length H')
    (turn : ∀ i x u H' H'' (C : L2.St → Hp → Prop), xs[i]? = some x → Ex H H' → J.yld i H' u H'' → (∀ σ2 H3, Ex H' H3 → Good R σ vs tt te σ2 H3 (c x) (f x) → C σ2 H3) → g u (wipe σ vs) H'' C)
    (Q : VK) (q : ∀ p H2, H p = none → Ex H H2 → Lt R H2 p ((xs.filter c).map f) → Q (.ref p) H2) :
    ∀ D, H D = none → ∃ W : Nat → Nat → Hp → Prop, (∃ m, W 0 m (upd H D (.lst []))) ∧ ∀ i m H, W i m H →
      (J.stop i H ∧ Q (.ref D) H) ∨ (J.go i H ∧ ∃ Nx : Hp → Prop, (∀ H', Nx H' → ∃ m', m' < m ∧ W (i + 1) m' H') ∧ ∀ x H', J.yld i H x H' → g x (wipe σ vs) H' fun σ2 H2 => wipe σ2 vs = wipe σ vs ∧ tt σ2 H2 fun b H3 =>
        if b = true then te σ2 H3 fun y H4 => ∃ acc, H4 D = some (.lst acc) ∧ acc.length < sizeLine ∧ Nx (upd H4 D (.lst (acc ++ [y]))) else Nx H3) := by
  intro D hD
  refine ⟨fun i m H' => m = xs.length - i ∧ i ≤ xs.length ∧ Ex H H' ∧ Lt R H' D (((xs.take i).filter c).map f), ⟨xs.length, rfl, Nat.zero_le _, Ex.new hD, ⟨[], upd_same, .nil⟩⟩, ?_⟩
  rintro i m H1 ⟨rfl, hi, e1, l1⟩
  by_cases hlt : i < xs.length
  · have hx : xs[i]? = some xs[i] := List.getElem?_eq_getElem hlt
    refine .inr ⟨go i H1 e1 hlt, fun H' => Ex H H' ∧ Lt R H' D (((xs.take (i + 1)).filter c).map f), fun H' h => ⟨xs.length - (i + 1), by omega, rfl, hlt, h⟩, fun u H2 y => ?_⟩
    refine turn i _ u H1 H2 _ hx e1 y fun σ2 H3 e3 g => ⟨g.1, ?_⟩
    have tk : xs.take (i + 1) = xs.take i ++ [xs[i]] := by rw [List.take_add_one, hx]; rfl
    refine g.2.1 H3 (Ex.refl H3) _ fun H4 e4 => ?_
    cases hb : c xs[i] with
    | true =>
      show te σ2 H4 _
      refine g.2.2 hb H4 e4 _ fun v H5 e5 r5 => ?_
      obtain ⟨acc, a1, a2⟩ := l1.ex ((e3.trans e4).trans e5)
      have la : acc.length ≤ i := by
        rw [← paired_len a2, List.length_map]
        exact Nat.le_trans (List.length_filter_le _ _) (by rw [List.length_take]; omega)
      have kt1 : Kt K H5 (upd H5 D (.lst (acc ++ [v]))) := Kt.c1 a1 (C1.up (C1.refl D H5))
      refine ⟨acc, a1, sz0 (by omega), (fun a o h => ?_), ⟨acc ++ [v], upd_same, ?_⟩⟩
      · rw [upd_ne (ne_of_none h hD)]
        exact e5 _ _ (e4 _ _ (e3 _ _ (e1 _ _ h)))
      · rw [tk, List.filter_append, List.map_append]
        refine paired_append (pm a2 fun _ _ z => Mkt.kt kt1 z) ?_
        rw [show [xs[i]].filter c = [xs[i]] by simp [hb]]
        exact .cons (Mkt.kt kt1 r5) .nil
    | false =>
      show Ex H H4 ∧ _
      refine ⟨((e1.trans e3).trans e4), ?_⟩
      rw [tk, List.filter_append, List.filter_cons, hb]
      simpa using l1.ex (e3.trans e4)
  · have hi2 : i = xs.length := by omega
    subst hi2
    rw [List.take_length] at l1
    exact .inl ⟨stop H1 e1, q D H1 hD e1 l1⟩
theorem et_yes {σ : L2.St} {H : Hp} : Et tYes σ H true := fun H1 _ _ q => q H1 (Ex.refl H1)
/-- [e for x in range(n) (if c)] -/
theorem el_lcR1c [Me R] [Mkt K R] {hi : Int} {c : Int → Bool} {f : Int → α} (h : Er rI ta σ H hi) (hb : -(2 ^ 62) ≤ hi ∧ hi < 1000000) (hw : ∀ x, wipe ((wipe σ vs).set j (some x)) vs = wipe σ vs)
    (ht : ∀ x H1, Ex H H1 → (0 ≤ x ∧ x < hi) → Et tt ((wipe σ vs).set j (some (.int x))) H1 (c x)) (he : ∀ x H1, Ex H H1 → (0 ≤ x ∧ x < hi) → c x = true → Er R te ((wipe σ vs).set j (some (.int x))) H1 (f x)) :
    El R (tLc (iRng1 (tCons ta tNil)) (gName j) tt te vs) σ H (((rng 0 hi).filter c).map f) := fun H1 e1 Q q =>
  h H1 e1 _ fun v H2 e2 r => by
    cases r
    have hl := rng_len 0 hi
    have hn : (rng 0 hi).length = hi.toNat := by rw [hl, Int.sub_zero]
    refine ⟨hi, rfl, hb.1, by omega, el_core (K := K) (R := R) (xs := rng 0 hi) c f (by omega) (fun i H' _ h => by rw [hn] at h; exact h) (fun H' _ => by rw [hn]; exact Nat.le_refl _) (fun i x u H' H'' C hx e3 y k => ?_) Q fun p H3 n3 e3 l3 => q p H3 (fresh_back e2 n3) (e2.trans e3) l3⟩
    obtain ⟨rfl, rfl⟩ := y
    have hx2 := rng_at hx
    have ex : x = 0 + (i : Int) := hx2.1
    refine k _ H'' (Ex.refl H'') ⟨hw _, ?_, fun hc => ?_⟩
    · rw [← ex]; exact ht x H'' ((e1.trans e2).trans e3) hx2.2
    · rw [← ex]; exact he x H'' ((e1.trans e2).trans e3) hx2.2 hc
theorem el_lcR1 [Me R] [Mkt K R] {hi : Int} {f : Int → α} (h : Er rI ta σ H hi) (hb : -(2 ^ 62) ≤ hi ∧ hi < 1000000) (hw : ∀ x, wipe ((wipe σ vs).set j (some x)) vs = wipe σ vs)
    (he : ∀ x H1, Ex H H1 → (0 ≤ x ∧ x < hi) → Er R te ((wipe σ vs).set j (some (.int x))) H1 (f x)) : El R (tLc (iRng1 (tCons ta tNil)) (gName j) tYes te vs) σ H ((rng 0 hi).map f) := by
  have z := el_lcR1c (K := K) (c := fun _ => true) (f := f) h hb hw (fun _ _ _ _ => et_yes) fun x H1 e hx _ => he x H1 e hx
  rw [List.filter_eq_self.mpr fun _ _ => rfl] at z
  exact z
/-- [e for x in xs (if c)], a list; a tuple -/
theorem el_lcLc [Me R] [Mkt K R] [Me Ri] {xs : List β} {c : β → Bool} {f : β → α} (h : Er (rL K Ri) tl σ H xs) (hb : xs.length < 1000000) (hw : ∀ x, wipe ((wipe σ vs).set j (some x)) vs = wipe σ vs)
    (ht : ∀ x v H1, Ex H H1 → x ∈ xs → Ri H1 x v → Et tt ((wipe σ vs).set j (some v)) H1 (c x)) (he : ∀ x v H1, Ex H H1 → x ∈ xs → Ri H1 x v → c x = true → Er R te ((wipe σ vs).set j (some v)) H1 (f x)) :
    El R (tLc (iList K tl) (gName j) tt te vs) σ H ((xs.filter c).map f) := fun H1 e1 Q q =>
  h H1 e1 _ fun v H2 e2 r => by
    obtain ⟨a, us, rfl, hs, hp⟩ := r
    have hl := paired_len hp
    refine ⟨a, rfl, ⟨us, hs⟩, el_core (K := K) (R := R) (J := Itl K a) (xs := xs) c f hb (fun i H' e3 h => ⟨us, us[i]'(by omega), ex_l e3 hs, List.getElem?_eq_getElem _⟩) (fun H' e3 => ⟨us, ex_l e3 hs, by omega⟩) (fun i x u H' H'' C hx e3 y k => ?_) Q fun p H3 n3 e3 l3 => q p H3 (fresh_back e2 n3) (e2.trans e3) l3⟩
    obtain ⟨rfl, y⟩ := y
    obtain ⟨u', hu, ru⟩ := paired_get hp hx
    have eu := y us (ex_l e3 hs)
    rw [hu] at eu
    cases eu
    exact k _ H'' (Ex.refl H'') ⟨hw _, ht x u H'' ((e1.trans e2).trans e3) (List.mem_of_getElem? hx) (Me.ex e3 ru), fun hc => he x u H'' ((e1.trans e2).trans e3) (List.mem_of_getElem? hx) (Me.ex e3 ru) hc⟩
theorem el_lcL [Me R] [Mkt K R] [Me Ri] {xs : List β} {f : β → α} (h : Er (rL K Ri) tl σ H xs) (hb : xs.length < 1000000) (hw : ∀ x, wipe ((wipe σ vs).set j (some x)) vs = wipe σ vs)
    (he : ∀ x v H1, Ex H H1 → x ∈ xs → Ri H1 x v → Er R te ((wipe σ vs).set j (some v)) H1 (f x)) : El R (tLc (iList K tl) (gName j) tYes te vs) σ H (xs.map f) := by
  have z := el_lcLc (K := K) (c := fun _ => true) (f := f) h hb hw (fun _ _ _ _ _ _ => et_yes) fun x v H1 e hx r _ => he x v H1 e hx r
  rw [List.filter_eq_self.mpr fun _ _ => rfl] at z
  exact z
theorem el_lcTc [Me R] [Mkt K R] [Me Ri] {xs : List β} {c : β → Bool} {f : β → α} (h : Er (rT K Ri) tl σ H xs) (hb : xs.length < 1000000) (hw : ∀ x, wipe ((wipe σ vs).set j (some x)) vs = wipe σ vs)
    (ht : ∀ x v H1, Ex H H1 → x ∈ xs → Ri H1 x v → Et tt ((wipe σ vs).set j (some v)) H1 (c x)) (he : ∀ x v H1, Ex H H1 → x ∈ xs → Ri H1 x v → c x = true → Er R te ((wipe σ vs).set j (some v)) H1 (f x)) :
    El R (tLc (iTup K tl) (gName j) tt te vs) σ H ((xs.filter c).map f) := fun H1 e1 Q q =>
  h H1 e1 _ fun v H2 e2 r => by
    obtain ⟨a, us, rfl, hs, hp⟩ := r
    have hl := paired_len hp
    refine ⟨a, rfl, ⟨us, hs⟩, el_core (K := K) (R := R) (J := Itt K a) (xs := xs) c f hb (fun i H' e3 h => ⟨us, us[i]'(by omega), ex_t e3 hs, List.getElem?_eq_getElem _⟩) (fun H' e3 => ⟨us, ex_t e3 hs, by omega⟩) (fun i x u H' H'' C hx e3 y k => ?_) Q fun p H3 n3 e3 l3 => q p H3 (fresh_back e2 n3) (e2.trans e3) l3⟩
    obtain ⟨rfl, y⟩ := y
    obtain ⟨u', hu, ru⟩ := paired_get hp hx
    have eu := y us (ex_t e3 hs)
    rw [hu] at eu
    cases eu
    exact k _ H'' (Ex.refl H'') ⟨hw _, ht x u H'' ((e1.trans e2).trans e3) (List.mem_of_getElem? hx) (Me.ex e3 ru), fun hc => he x u H'' ((e1.trans e2).trans e3) (List.mem_of_getElem? hx) (Me.ex e3 ru) hc⟩
theorem el_lcT [Me R] [Mkt K R] [Me Ri] {xs : List β} {f : β → α} (h : Er (rT K Ri) tl σ H xs) (hb : xs.length < 1000000) (hw : ∀ x, wipe ((wipe σ vs).set j (some x)) vs = wipe σ vs)
    (he : ∀ x v H1, Ex H H1 → x ∈ xs → Ri H1 x v → Er R te ((wipe σ vs).set j (some v)) H1 (f x)) : El R (tLc (iTup K tl) (gName j) tYes te vs) σ H (xs.map f) := by
  have z := el_lcTc (K := K) (c := fun _ => true) (f := f) h hb hw (fun _ _ _ _ _ _ => et_yes) fun x v H1 e hx r _ => he x v H1 e hx r
  rw [List.filter_eq_self.mpr fun _ _ => rfl] at z
  exact z
/-- the items ints -/
theorem el_lcLI [Me R] [Mkt K R] {xs : List Int} {f : Int → α} (h : Er (rL K rI) tl σ H xs) (hb : xs.length < 1000000) (hw : ∀ x, wipe ((wipe σ vs).set j (some x)) vs = wipe σ vs)
    (he : ∀ x H1, Ex H H1 → x ∈ xs → Er R te ((wipe σ vs).set j (some (.int x))) H1 (f x)) : El R (tLc (iList K tl) (gName j) tYes te vs) σ H (xs.map f) :=
  el_lcL h hb hw fun x v H1 e hx r => by cases r; exact he x H1 e hx
theorem el_lcTI [Me R] [Mkt K R] {xs : List Int} {f : Int → α} (h : Er (rT K rI) tl σ H xs) (hb : xs.length < 1000000) (hw : ∀ x, wipe ((wipe σ vs).set j (some x)) vs = wipe σ vs)
    (he : ∀ x H1, Ex H H1 → x ∈ xs → Er R te ((wipe σ vs).set j (some (.int x))) H1 (f x)) : El R (tLc (iTup K tl) (gName j) tYes te vs) σ H (xs.map f) :=
  el_lcT h hb hw fun x v H1 e hx r => by cases r; exact he x H1 e hx
theorem el_lcLIc [Me R] [Mkt K R] {xs : List Int} {c : Int → Bool} {f : Int → α} (h : Er (rL K rI) tl σ H xs) (hb : xs.length < 1000000) (hw : ∀ x, wipe ((wipe σ vs).set j (some x)) vs = wipe σ vs)
    (ht : ∀ x H1, Ex H H1 → x ∈ xs → Et tt ((wipe σ vs).set j (some (.int x))) H1 (c x)) (he : ∀ x H1, Ex H H1 → x ∈ xs → c x = true → Er R te ((wipe σ vs).set j (some (.int x))) H1 (f x)) : El R (tLc (iList K tl) (gName j) tt te vs) σ H ((xs.filter c).map f) :=
  el_lcLc h hb hw (fun x v H1 e hx r => by cases r; exact ht x H1 e hx) fun x v H1 e hx r hc => by cases r; exact he x H1 e hx hc
theorem el_lcTIc [Me R] [Mkt K R] {xs : List Int} {c : Int → Bool} {f : Int → α} (h : Er (rT K rI) tl σ H xs) (hb : xs.length < 1000000) (hw : ∀ x, wipe ((wipe σ vs).set j (some x)) vs = wipe σ vs)
    (ht : ∀ x H1, Ex H H1 → x ∈ xs → Et tt ((wipe σ vs).set j (some (.int x))) H1 (c x)) (he : ∀ x H1, Ex H H1 → x ∈ xs → c x = true → Er R te ((wipe σ vs).set j (some (.int x))) H1 (f x)) : El R (tLc (iTup K tl) (gName j) tt te vs) σ H ((xs.filter c).map f) :=
  el_lcTc h hb hw (fun x v H1 e hx r => by cases r; exact ht x H1 e hx) fun x v H1 e hx r hc => by cases r; exact he x H1 e hx hc
end
/-! ### the rules, the written part named -/
section
variable {X : Cx}
theorem ix_listK (K : PySem.W.Frag) (h : X.K = K := by rfl) : IxR X (rIxL K) := by subst h; exact ix_list
theorem ix_tupK (K : PySem.W.Frag) (h : X.K = K := by rfl) : IxR X (rIxT K) := by subst h; exact ix_tup
theorem sl_listK (K : PySem.W.Frag) (h : X.K = K := by rfl) : SlR X (rSlL K) := by subst h; exact sl_list
theorem sl_tupAK (K : PySem.W.Frag) (h : X.K = K := by rfl) : SlR X (rSlA K) := by subst h; exact sl_tupA
theorem op_catAK (K : PySem.W.Frag) (h : X.K = K := by rfl) : OpR X (binaryOp .Add) (rCatA K) := by subst h; exact op_catA
theorem op_in_seqK (K : PySem.W.Frag) (h : X.K = K := by rfl) : OpR X (compareOp .In) (rIn K false) := by subst h; exact op_in_seq
theorem op_notIn_seqK (K : PySem.W.Frag) (h : X.K = K := by rfl) : OpR X (compareOp .NotIn) (rIn K true) := by subst h; exact op_notIn_seq
theorem call_len_seqK (K : PySem.W.Frag) (h : X.K = K := by rfl) : CallR X (.builtin "len") (rLenQ K) := by subst h; exact call_len_seq
theorem call_list_ofK (K : PySem.W.Frag) (h : X.K = K := by rfl) : CallR X (.type "list") (rListQ K) := by subst h; exact call_list_of
theorem call_tuple_ofK (K : PySem.W.Frag) (h : X.K = K := by rfl) : CallR X (.type "tuple") (rTupQ K) := by subst h; exact call_tuple_of
theorem call_isiK' (K : PySem.W.Frag) (h : X.K = K := by rfl) : CallR X (.builtin "isinstance") (rIsi K) := by subst h; exact call_isi
theorem cr_sumK (K : PySem.W.Frag) (hc : X.calm = true) (h : X.K = K := by rfl) : CallR X (.builtin "sum") (rSum K) := by subst h; exact cr_sum hc
variable {tg l e : Expr} {tl : TE} {ta : TA} {p pos apos cpos : Pos} {t : TGs} {es : List Expr} {k n : Nat}
theorem pi_listK (K : PySem.W.Frag) (hl : PE X l tl) (h : X.K = K := by rfl) : PI X tg l (iList K tl) := by subst h; exact pi_list hl
theorem pi_tupK (K : PySem.W.Frag) (hl : PE X l tl) (h : X.K = K := by rfl) : PI X tg l (iTup K tl) := by subst h; exact pi_tup hl
theorem pi_enumK (K : PySem.W.Frag) {tpos : Pos} {elts : List Expr} {kk : Nat} (hg : Gl X "enumerate") (hm : X.mg "enumerate" = none) (ha : PA X [e] ta) (h : X.K = K := by rfl) (hs : starEach [e] X.env = [(false, eval e X.env)] := by rfl) :
    PI X (.Tuple elts kk tpos) (.Call (.Name "enumerate" p) [e] [] pos) (iEnum K ta) := by subst h; exact pi_enum hg hm ha hs
theorem pg_tupK (K : PySem.W.Frag) (n : Nat) (hc : X.calm = true) (h : PGs X es t) (hK : X.K = K := by rfl)
    (hn : (assignEach es X.env).length = n := by rfl) (hst : (assignEach es X.env).findIdx? (·.1) = none := by rfl) : PG X (.Tuple es k pos) (gTup K n t) := by subst hK; exact pg_tup hc h hn hst
end
/-! ### a def as it stands; a thing; primes -/
structure Df (P : Program) (w : World) (K : PySem.W.Frag) (mg : Str → Option Value) (base : Heap) (CX : CXT) (k : Nat) (x : Str) (ps : List Str) (sp : Sp) : Type where
  f : Addr
  fd : FuncData
  ok : FnOk P w K mg base CX k f fd ps sp
  g : mg x = some (.ref f)
  kp : PySem.W.keepIn K (.ref f) = true
  b : Binds K fd ps []
/-- a written tuple by its name -/
structure Cn (K : PySem.W.Frag) (mg : Str → Option Value) (x : Str) (xs : List V) : Type where
  a : Addr
  g : mg x = some (.ref a)
  s : ∀ H, SqT K H a xs
inductive Th (K : PySem.W.Frag) (H : Hp) : V → Prop where
  | non : Th K H .non
  | bl (b : Bool) : Th K H (.bl b)
  | int (i : Int) : Th K H (.int i)
  | str (s : Str) : Th K H (.str s)
  | tup {a : Addr} {xs : List V} (h : SqT K H a xs) : Th K H (.ref a)
theorem sqT_ty {K : PySem.W.Frag} {H : Hp} {a : Addr} {xs : List V} (h : SqT K H a xs) : TyX K H (.ref a) (.type "tuple") := by
  rcases h with (h | ⟨o, h⟩) | ⟨o, its, n, h, c, _⟩
  · exact .base (.tup h)
  · exact .fTuple h
  · exact .kTuple h c
def isW : V → Bool
  | .int _ => true
  | _ => false
def Pr (p : Int) : Prop := p = 2 ∨ p = 3 ∨ p = 5
instance (p : Int) : Decidable (Pr p) := inferInstanceAs (Decidable (_ ∨ _ ∨ _))
def isPr : V → Bool
  | .int p => decide (Pr p)
  | _ => false
theorem Pr.is {p : Int} (h : Pr p) : isPr (.int p) = true := decide_eq_true h
theorem isPr_int {x : V} (h : isPr x = true) : ∃ p, x = .int p ∧ Pr p := by
  cases x <;> first | exact ⟨_, rfl, of_decide_eq_true h⟩ | cases h
theorem isPr_W {x : V} (h : isW x = false) : isPr x = false := by
  cases x <;> first | rfl | cases h
theorem Th.kt {K : PySem.W.Frag} {H H' : Hp} {x : V} (e : Kt K H H') (h : Th K H x) : Th K H' x := by
  cases h with
  | non => exact .non
  | bl b => exact .bl b
  | int i => exact .int i
  | str s => exact .str s
  | tup h => exact .tup (e _ _ h)
theorem Th.mono {K : PySem.W.Frag} {H H' : Hp} {x : V} (e : Ex H H') (h : Th K H x) : Th K H' x := h.kt (Kt.ex e)
/-- what is no prime -/
def rBad (K : PySem.W.Frag) : Rp Unit := fun H _ v => Th K H v ∧ isPr v = false
instance {K : PySem.W.Frag} : Me (rBad K) := ⟨fun e h => ⟨h.1.mono e, h.2⟩⟩
instance {K : PySem.W.Frag} : Mkt K (rBad K) := ⟨fun e h => ⟨h.1.kt e, h.2⟩⟩
theorem er_bad {K : PySem.W.Frag} {α : Type} {R : Rp α} {t : TE} {σ : L2.St} {H : Hp} {x : α} (h : Er R t σ H x) (k : ∀ v H1, R H1 x v → Th K H1 v ∧ isPr v = false) : Er (rBad K) t σ H () := fun H1 e Q q => h H1 e Q fun v H2 e2 r => q v H2 e2 (k v H2 r)
theorem er_badI {K : PySem.W.Frag} {t : TE} {σ : L2.St} {H : Hp} {x : Int} (h : Er rI t σ H x) (k : isPr (.int x) = false := by decide) : Er (rBad K) t σ H () := er_bad h fun v H1 r => by cases r; exact ⟨.int x, k⟩
theorem er_badB {K : PySem.W.Frag} {t : TE} {σ : L2.St} {H : Hp} {x : Bool} (h : Er rB t σ H x) : Er (rBad K) t σ H () := er_bad h fun v H1 r => by cases r; exact ⟨.bl x, rfl⟩
theorem er_badN {K : PySem.W.Frag} {t : TE} {σ : L2.St} {H : Hp} (h : Er rN t σ H ()) : Er (rBad K) t σ H () := er_bad h fun v H1 r => by cases r; exact ⟨.non, rfl⟩
theorem er_badS {K : PySem.W.Frag} {t : TE} {σ : L2.St} {H : Hp} {x : Str} (h : Er rS t σ H x) : Er (rBad K) t σ H () := er_bad h fun v H1 r => by cases r; exact ⟨.str x, rfl⟩
theorem er_badT {K : PySem.W.Frag} {α : Type} {R : Rp α} {t : TE} {σ : L2.St} {H : Hp} {x : List α} (h : Er (rT K R) t σ H x) : Er (rBad K) t σ H () := er_bad h fun v H1 r => by
  obtain ⟨a, vs, rfl, h2, _⟩ := r
  exact ⟨.tup h2, rfl⟩
/-- a thing's kind among built-in classes -/
def isIB : V → Bool
  | .int _ => true
  | .bl _ => true
  | _ => false
def isB : V → Bool
  | .bl _ => true
  | _ => false
theorem isW_eq (x : V) : isW x = (isIB x && !isB x) := by cases x <;> rfl
theorem Th.ty {K : PySem.W.Frag} {H : Hp} {x : V} (h : Th K H x) : ∃ t : String, TyX K H x (.type t) ∧ kitB t "int" = some (isIB x) ∧ kitB t "bool" = some (isB x) := by
  cases h with
  | non => exact ⟨_, .base .non, (show kitB _ "int" = some false by decide +kernel), (show kitB _ "bool" = some false by decide +kernel)⟩
  | bl b => exact ⟨_, .base (.bl b), (show kitB _ "int" = some true by decide +kernel), (show kitB _ "bool" = some true by decide +kernel)⟩
  | int i => exact ⟨_, .base (.int i), (show kitB _ "int" = some true by decide +kernel), (show kitB _ "bool" = some false by decide +kernel)⟩
  | str s => exact ⟨_, .base (.str s), (show kitB _ "int" = some false by decide +kernel), (show kitB _ "bool" = some false by decide +kernel)⟩
  | tup h => exact ⟨_, sqT_ty h, (show kitB _ "int" = some false by decide +kernel), (show kitB _ "bool" = some false by decide +kernel)⟩

/-! ### the bag of a law: four numbers (three) -/
def Bag (H : Hp) (b : Addr) : Prop := ∃ b0 b1 pr c : Int, Lt rI H b [b0, b1, pr, c] ∧ 0 ≤ b0 ∧ 0 ≤ b1 ∧ b1 < 4294967296 ∧ 0 < pr ∧ pr < 4294967296
theorem Bag.ex {H H' : Hp} {b : Addr} (h : Bag H b) (e : Ex H H') : Bag H' b := let ⟨a, c, d, f, l, r⟩ := h; ⟨a, c, d, f, l.ex e, r⟩
theorem Bag.kt {K : PySem.W.Frag} {H H' : Hp} {b : Addr} (h : Bag H b) (c : C1 b H H') : Kt K H H' := let ⟨_, _, _, _, l, _⟩ := h; l.kt c
theorem Bag.keep {H H' : Hp} {b p : Addr} (h : Bag H b) (c : C1 p H H') (n : b ≠ p) : Bag H' b := let ⟨a, d, e, f, ⟨vs, h1, h2⟩, r⟩ := h; ⟨a, d, e, f, ⟨vs, c _ _ n h1, h2⟩, r⟩
theorem Bag.there {H : Hp} {b : Addr} (h : Bag H b) : ∃ xs, H b = some (.lst xs) := let ⟨_, _, _, _, ⟨vs, h1, _⟩, _⟩ := h; ⟨vs, h1⟩
theorem Bag.ne {H : Hp} {b q : Addr} (h : Bag H b) (hq : H q = none) : b ≠ q := let ⟨_, h1⟩ := h.there; ne_of_none h1 hq
/-- what was fresh -/
theorem fb {H H' : Hp} {b p : Addr} (c : C1 b H H') (h : Bag H' b) (hp : H' p = none) : H p = none := by
  by_cases z : p = b
  · obtain ⟨xs, q⟩ := h.there
    rw [z, q] at hp
    cases hp
  · cases q : H p with
    | none => rfl
    | some o =>
      rw [c p o z q] at hp
      cases hp
/-- a list that is read by whoever holds it -/
theorem rl_of {K : PySem.W.Frag} {H : Hp} {a : Addr} {ns : List Int} (h : SqL K H a (ns.map V.int)) : rL K rI H ns (.ref a) := ⟨a, _, rfl, h, pI' ns⟩

/-! ### steps one by one -/
section
variable {α : Type} {K : PySem.W.Frag} {H : Hp} {σ : L2.St} {ta tb te : TE} {t u : TT} {R : Rp α} {x : α} {D : Ends} {tu tw tz : TS} {j : Nat}
theorem q_asg0 (h : te σ H fun x H1 => tz D (σ.set j (some x)) H1) : tSeq (tAsg te (gName j)) tz D σ H := h
theorem s_asg0 (h : te σ H fun x H1 => D.nx (σ.set j (some x)) H1) : tAsg te (gName j) D σ H := h
theorem q_if0 (h : t σ H fun b H1 => if b = true then tu { D with nx := tz D } σ H1 else tw { D with nx := tz D } σ H1) : tSeq (tIfS t tu tw) tz D σ H := h
theorem q_when0 (h : t σ H fun b H1 => if b = true then tu { D with nx := tz D } σ H1 else tz D σ H1) : tSeq (tIfS t tu tNext) tz D σ H := h
theorem s_when0 (h : t σ H fun b H1 => if b = true then tu D σ H1 else D.nx σ H1) : tIfS t tu tNext D σ H := h
theorem q_for0 {wi : TI} {g : TG} (h : wi σ H fun J H1 => Fl J g tu { D with nx := tz D } σ H1) : tSeq (tFor wi g tu) tz D σ H := h
theorem s_for0 {wi : TI} {g : TG} (h : wi σ H fun J H1 => Fl J g tu D σ H1) : tFor wi g tu D σ H := h
theorem q_drop0 (h : te σ H fun _ H1 => tz D σ H1) : tSeq (tDrop te) tz D σ H := h
theorem go_call1 {sp : Sp} {E : XK} {Q : VK} (h : ta σ H fun x H1 => sp [x] H1 Q E) : tCall sp [] E (tCons ta tNil) σ H Q := h
theorem go_call2 {sp : Sp} {E : XK} {Q : VK} (h : ta σ H fun x H1 => tb σ H1 fun y H2 => sp [x, y] H2 Q E) : tCall sp [] E (tCons ta (tCons tb tNil)) σ H Q := h
theorem go_call3 {sp : Sp} {E : XK} {Q : VK} {tc : TE} (h : ta σ H fun x H1 => tb σ H1 fun y H2 => tc σ H2 fun z H3 => sp [x, y, z] H3 Q E) : tCall sp [] E (tCons ta (tCons tb (tCons tc tNil))) σ H Q := h
theorem go_not {Q : Bool → Hp → Prop} (h : t σ H fun b H1 => Q (!b) H1) : tNot t σ H Q := h
theorem go_tB {Q : Bool → Hp → Prop} (h : te σ H fun x H1 => ∃ c, x = .bl c ∧ Q c H1) : tB te σ H Q := h
theorem go_tT {Q : Bool → Hp → Prop} (h : te σ H fun x H1 => ∃ c, x = .bl c ∧ Q c H1) : tTest te σ H Q := h
theorem go_var {Q : VK} {i : Nat} {v : V} (h : σ[i]? = some (some v)) (k : Q v H) : tVar i σ H Q := ⟨v, h, k⟩
theorem go_op {r : R2} {Q : VK} (h : ta σ H fun x H1 => tb σ H1 fun y H2 => r x y H2 Q) : tOp r ta tb σ H Q := h
theorem go_ixL [Me R] {Q : VK} {p : Addr} {xs : List α} {i : Int} (l : Lt R H p xs) (h1 : -(xs.length : Int) ≤ i) (h2 : i < xs.length) (d : α) (k : ∀ v, R H (gt0 d xs i) v → Q v H) : rIxL K (.ref p) (.int i) H Q := by
  obtain ⟨vs, e1, e2⟩ := l
  obtain ⟨u, hu, ru⟩ := paired_get e2 (gt0_some (d := d) h1 h2)
  have hl := paired_len e2
  rw [hl] at h1 h2 hu
  exact ⟨p, vs, i, u, rfl, rfl, SqL.of e1, atI_ixs h1 h2 hu, k u ru⟩
theorem er_isI {i : Int} (h : Er rI ta σ H i) : Er rB (tCB (rIsi K) (tCons ta (tCons (tC (.ty "int")) tNil))) σ H true := fun H1 e Q q =>
  h H1 e _ fun v H2 e2 r => by
    cases r
    exact ⟨_, _, _, _, true, rfl, .ty "int", .base (.int i), kit_ty (show kitB "int" "int" = some true by decide +kernel), q _ H2 e2 rfl⟩
theorem er_isIb {i : Int} (h : Er rI ta σ H i) : Er rB (tCB (rIsi K) (tCons ta (tCons (tC (.ty "bool")) tNil))) σ H false := fun H1 e Q q =>
  h H1 e _ fun v H2 e2 r => by
    cases r
    exact ⟨_, _, _, _, false, rfl, .ty "bool", .base (.int i), kit_ty (show kitB "int" "bool" = some false by decide +kernel), q _ H2 e2 rfl⟩
theorem er_chain {g g' : Int → Int → Bool} {a b c : Int} {tc : TE} (ha : Er rI ta σ H a) (hb : Er rI tb σ H b) (hc : Er rI tc σ H c) : Er rB (tChain (rI0 fun i j => V.bl (g i j)) (rI0 fun i j => V.bl (g' i j)) ta tb tc) σ H (g a b && g' b c) := fun H1 e Q q =>
  ha H1 e _ fun v H2 e2 r1 => hb H2 (e.trans e2) _ fun u H3 e3 r2 => by
    cases r1
    cases r2
    refine ⟨a, b, rfl, rfl, g a b, rfl, ?_⟩
    cases hg : g a b with
    | true => exact hc H3 ((e.trans e2).trans e3) _ fun w H4 e4 r3 => ⟨b, c, rfl, r3, q _ H4 ((e2.trans e3).trans e4) (by rw [hg]; rfl)⟩
    | false => exact q _ H3 (e2.trans e3) (by rw [hg]; rfl)
/-- a way that can't be -/
theorem q_not {b : Bool} (h : Et t σ H b) (hb : b = false) (k : ∀ H1, Ex H H1 → tz D σ H1) : tSeq (tIfS t tu tNext) tz D σ H := q_when h (fun z => by rw [hb] at z; cases z) fun _ H1 e => k H1 e
theorem s_not {b : Bool} (h : Et t σ H b) (hb : b = false) (k : ∀ H1, Ex H H1 → D.nx σ H1) : tIfS t tu tNext D σ H := s_when h (fun z => by rw [hb] at z; cases z) fun _ H1 e => k H1 e
/-- a reading of which something is known -/
theorem pss_ex {X : Cx} {st : List Stmt} {ι : Type} {P : ι → Prop} {t : ι → TS} (h : ∀ z, P z → PSs X st (t z)) : PSs X st (fun D σ H => ∃ z, P z ∧ t z D σ H) :=
  ⟨fun pins s σ H D I ⟨z, hz, q⟩ => (h z hz).run pins s σ H D I q⟩
end

/-! ### kinds of errors -/
theorem kit_self {K : PySem.W.Frag} {C : Addr} : PySem.W.kitOne K (.ref C) (.ref C) = some true := by
  unfold PySem.W.kitOne
  rw [if_pos (by simp)]
theorem kit_base {K : PySem.W.Frag} {C : Addr} {T : String} {b : Bool} (h : PySem.W.subIn K (.ref C) (.type T) = some b) (hm : PySem.W.kitMeta T = true) : PySem.W.kitOne K (.ref C) (.type T) = some b := by
  unfold PySem.W.kitOne
  rw [if_neg (by intro z; cases (eq_of_beq z))]
  show (if PySem.W.kitMeta T = true then PySem.W.subIn K (.ref C) (.type T) else none) = some b
  rw [if_pos hm, h]
theorem kit_own {K : PySem.W.Frag} {C D : Addr} {b : Bool} (hne : C ≠ D) (h1 : PySem.W.isClsIn K D = true) (h2 : PySem.W.typeIn K (.ref D) = some (.type "type")) (h : PySem.W.subIn K (.ref C) (.ref D) = some b) : PySem.W.kitOne K (.ref C) (.ref D) = some b := by
  unfold PySem.W.kitOne
  rw [if_neg (by intro z; exact hne (Value.ref.inj (eq_of_beq z)))]
  show (if ((PySem.W.clsIn K D).isSome && PySem.W.typeIn K (.ref D) == some (.type "type")) = true then PySem.W.subIn K (.ref C) (.ref D) else none) = some b
  have e : (PySem.W.clsIn K D).isSome = true := h1
  rw [e, h2, h]
  rfl
end Dg

set_option maxRecDepth 100000
set_option maxHeartbeats 4000000
namespace PySem
set_option maxRecDepth 100000
set_option maxHeartbeats 1000000 in
theorem meets_enumerate_newB1 {v : Value} {o : Obj} {H : Heap → Prop} (B : Begins v o H) :
    Meets (Builtin.«enumerate.__new__» ⟨[.type "enumerate", v], []⟩) (fun _ R s => H s.heap ∧
      R (.ok (.ret (.ref (s.heap.push o).objs.size))) { s with heap := (s.heap.push o).push { cls := .type "enumerate", data := .fields #[.none, .bool false, .ref s.heap.objs.size, rawInt 0, .none, .none] } }) :=
  .of_wp fun prog w A R s h => by
    obtain ⟨hp, g, d, tk, os⟩ := s; obtain ⟨h1, h⟩ := h
    have hsub := sub_enumerate
    have q1 : ∀ {A' : Around} {E : Value → Shared → Prop} {Q : Value → Shared → Prop}, Q (.ref hp.objs.size) ⟨hp.push o, g, d, tk, os⟩ → wpAny (model prog w) A' (pyIter v) Q E ⟨hp, g, d, tk, os⟩ :=
      fun q => B.iter prog w _ _ ⟨hp, g, d, tk, os⟩ _ h1 q
    wp_walk using q1
    refine wpAny_stack_any fun st => wpAny_pure ?_
    split
    · rename_i c _ _ _ _ _
      cases (c == Value.type "enumerate")
      · wp_walk using q1
        exact ⟨_, rfl, h⟩
      · wp_walk using q1
        exact ⟨_, rfl, h⟩
    · wp_walk using q1
      exact ⟨_, rfl, h⟩
theorem enum_begins1 {prog : Program} {w : World} {A : Around} {E : Value → Shared → Prop} {s : Shared} {v : Value} {o : Obj} {H : Heap → Prop} {Q : Value → Shared → Prop} (B : Begins v o H) (h1 : H s.heap)
    (h : ∀ h', IsEnum h' (s.heap.objs.size + 1) s.heap.objs.size 0 .none → h'.get? s.heap.objs.size = some o → h'.objs.size = s.heap.objs.size + 2 →
      (∀ b o, s.heap.get? b = some o → h'.get? b = some o) → Q (.ref (s.heap.objs.size + 1)) { s with heap := h' }) :
    wpAny (model prog w) A (call (.type "enumerate") [v]) Q E s := by
  refine callType_new F.called_enumerate (by decide) (F.typeCall_enumerate_1 _) (F.newCall_enumerate_1 _) (fun obj => F.args_object_init_2 obj _) F.entry_enumerate_new
    (meets_enumerate_newB1 B) ⟨h1, ?_⟩
  have hz : (s.heap.push o).objs.size = s.heap.objs.size + 1 := Heap.size_push ..
  show _ ∧ _
  rw [hz]
  have he : IsEnum ((s.heap.push o).push { cls := .type "enumerate", data := .fields #[.none, .bool false, .ref s.heap.objs.size, rawInt 0, .none, .none] }) (s.heap.objs.size + 1) s.heap.objs.size 0 .none := by
    have := Heap.get?_push_size (s.heap.push o) (o := { cls := .type "enumerate", data := .fields #[.none, .bool false, .ref s.heap.objs.size, rawInt 0, .none, .none] }) rfl
    rw [hz] at this; exact this
  refine ⟨⟨_, he, rfl⟩, h _ he (Heap.get?_push_of_some _ (Heap.get?_push_size _ B.free)) (by rw [Heap.size_push, hz]) fun b o x => Heap.get?_push_of_some _ (Heap.get?_push_of_some _ x)⟩
end PySem
namespace Dg
open PySem PySem.Spec PyProof.Rows L2 Evl
/-! ### enumerate(tuple) -/
def IteT (K : PySem.W.Frag) (a : Addr) : It :=
  ⟨fun i H => ∃ (xs : List V) (x : V), SqT K H a xs ∧ xs[i]? = some x, fun i H v H' => ∃ T x, v = .ref T ∧ H T = none ∧ H' = upd H T (.tup [.int (i : Nat), x]) ∧ ∀ xs, SqT K H a xs → xs[i]? = some x, fun i H => ∃ xs : List V, SqT K H a xs ∧ xs.length ≤ i⟩
theorem tup_ne_iter {h : Heap} {a it : Addr} {i : Nat} {its : Array Value} (p : IsTup h a its) (q : h.IsTupleIter it a i) : a ≠ it := by
  rintro rfl
  obtain ⟨o, ho, hc, _⟩ := q
  obtain ⟨o', ho', hc', _⟩ := p
  rw [ho] at ho'
  cases ho'
  rw [hc] at hc'
  exact absurd (Value.type.inj hc') (by decide)
theorem enum_ne_tup {h : Heap} {a e it : Addr} {i : Int} {old : Value} {its : Array Value} (p : IsTup h a its) (q : IsEnum h e it i old) : e ≠ a := by
  rintro rfl
  obtain ⟨o', ho', hc', _⟩ := p
  have q' : h.get? e = some _ := q
  rw [q'] at ho'
  cases ho'
  exact absurd (Value.type.inj hc') (by decide)
theorem turn_enumT {P : Program} {w : World} {K : PySem.W.Frag} {elts : List Expr} {kk : Nat} {tpos : Pos} (a e it : Addr) :
    Turn P w K (.Tuple elts kk tpos) (IteT K a) [e, it] e (fun i h => (∃ old, IsEnum h e it ((i : Nat) : Int) old) ∧ h.IsTupleIter it a i ∧ e ≠ it) where
  mem := by simp
  obj := fun i h st b hb => by
    obtain ⟨⟨old, he⟩, ⟨o, ho, hc, hd⟩, _⟩ := st
    have e' : b = e ∨ b = it := by simpa using hb
    rcases e' with z | z
    · rw [z]; exact ⟨_, he, fun v q => nomatch q⟩
    · rw [z]; exact ⟨o, ho, fun v q => by rw [hd] at q; cases q⟩
  keep := fun i h h' st k => let ⟨⟨old, he⟩, hi, hne⟩ := st; ⟨⟨old, k e (by simp) _ he⟩, hi.at fun o q => k it (by simp) o q, hne⟩
  item := by
    intro X hP hw hK hc i pins s σ H E I hf st hg
    subst hP hw hK
    obtain ⟨⟨old, he⟩, hit, hne⟩ := st
    obtain ⟨xs, x, hq, hx⟩ := hg
    obtain ⟨its, rv, p, hz⟩ := I.tuple hq
    obtain ⟨u, hu, ru⟩ := rv.get hx
    have hel : e < s.heap.objs.size := Heap.lt_size he
    have hil : it < s.heap.objs.size := by obtain ⟨_, q, _⟩ := hit; exact Heap.lt_size q
    have hai := tup_ne_iter p hit
    have hea := enum_ne_tup p he
    have hlt : i < its.toArray.size := by
      have := List.getElem?_eq_some_iff.mp hu
      simpa using this.1
    refine wpAny_pyNext_enum_itemD (Draws.tuple (A := X.A.in1) (I.ok.hd hc) it a hai its.toArray) he ⟨hit, p⟩ hlt hne (by simp; exact ⟨hne, hea⟩) fun x' h' tk hx' ho hit' hT hsz hk => ?_
    have ex : x' = u := by
      have hx2 : its.toArray[i]? = some x' := hx'
      have hu2 : its.toArray[i]? = some u := by simpa using hu
      rw [hu2] at hx2
      exact (Option.some.inj hx2).symm
    subst ex
    refine ⟨_, rfl, wpAny_letOwnedTupleGo_enum (s := { s with heap := h', toks := tk + 1 }) ho fun h'' he' sb => ?_⟩
    have hT2 : h''.get? s.heap.objs.size = some { cls := .type "tuple", data := .seq #[.int i tk, x'] } := (sb.2 _ (Nat.ne_of_gt hel)).trans hT
    have new : ObjOk X.prog X.w (upd H s.heap.objs.size (.tup [.int (i : Nat), x])) h'' s.heap.objs.size (.tup [.int (i : Nat), x]) :=
      ⟨by show 2 ≤ sizeLine; decide, [.int i tk, x'], .cons ⟨_, rfl⟩ (.cons ru .nil), ⟨_, hT2, rfl, _, rfl⟩⟩
    have I1 : Inv X pins σ (upd H s.heap.objs.size (.tup [.int (i : Nat), x])) { s with heap := h'', toks := tk + 1 } :=
      I.turnedNew (ch := [e, it]) (fun b ob hb q => (sb.2 b (fun z => hb (by simp [z]))).trans (hk b ob (fun z => hb (by simp [z])) (fun z => hb (by simp [z])) q)) hf (Nat.le_refl _) new
    refine ⟨.ref s.heap.objs.size, _, I1, rfl, ⟨_, x, rfl, I.hok.fresh (Nat.le_refl _), rfl, fun ys hy => by rw [I.tuple_inj hy hq]; exact hx⟩, ⟨⟨x', ?_⟩, hit'.1.at fun o q => (sb.2 it (Ne.symm hne)).trans q, hne⟩, fun b hb => ?_⟩
    · have e1 : ((i + 1 : Nat) : Int) = (i : Int) + 1 := by omega
      rw [e1]; exact he'
    · have hb' : b < s.heap.objs.size := by
        have e' : b = e ∨ b = it := by simpa using hb
        rcases e' with z | z
        · rw [z]; exact hel
        · rw [z]; exact hil
      rw [upd_ne (Nat.ne_of_lt hb')]
      exact (hf b hb).1
  done := by
    intro X hP hw hK hc i pins s σ H E I hf st hg
    subst hP hw hK
    obtain ⟨⟨old, he⟩, hit, hne⟩ := st
    obtain ⟨xs, hq, hx⟩ := hg
    obtain ⟨its, rv, p, hz⟩ := I.tuple hq
    obtain ⟨f0, f1, f2, f3, f4, f5⟩ := hf it (by simp)
    have hl := rv.length
    have hT : s.TypeIs (.ref e) "enumerate" := ⟨_, he, rfl⟩
    unfold pyNext
    refine wpAny_bind (wpAny_attempt (wpAny_callSpecial?_slot (name := Str.ofString "__next__") hT F.slot_enumerate_next
      (wpAny_call_entry F.slot_enumerate_next hT F.entry_enumerate_next ?_ (F.args_enumerate_next_1 _))))
    show wpAny _ _ (field (.ref e) 2 >>= _) _ _ _
    refine wpAny_bind (wpAny_field he rfl (x := .ref it) rfl ?_)
    refine wpAny_bind (wpAny_nextOf_tuple_end (A := X.A.in1) (I.ok.hd hc) hit p (by simp; omega) fun h' x he' hx' => ?_)
    obtain ⟨o, ho, hcl⟩ := hx'
    refine wpAny_bind (wpAny_isInstance (T := "StopIteration") (b := true) ⟨o, ho, hcl⟩ isSubtype_stop ?_)
    exact wpAny_pure ⟨rfl, I.turned (t' := s.toks) (fun b o hb q => he' b o hb q) f0 f1 f3 f4 f5⟩
  self := fun A i s Q E st h => let ⟨⟨_, he⟩, _⟩ := st; wpAny_pyIter_enum he h
def iEnumT (K : PySem.W.Frag) (ta : TA) : TI := fun σ H R => ta σ H fun vs H1 => ∃ a xs, vs = [.ref a] ∧ SqT K H1 a xs ∧ R (IteT K a) H1
theorem pi_enumT {X : Cx} {e : Expr} {ta : TA} {p pos tpos : Pos} {elts : List Expr} {kk : Nat} (hg : Gl X "enumerate") (hm : X.mg "enumerate" = none) (ha : PA X [e] ta) (hs : starEach [e] X.env = [(false, eval e X.env)] := by rfl) :
    PI X (.Tuple elts kk tpos) (.Call (.Name "enumerate" p) [e] [] pos) (iEnumT X.K ta) := by
  refine ⟨fun pins s σ H R I h => ?_⟩
  refine Call_ (ld_blt I hg hm boot_enumerate (PyProof.Rows.callWith_type1 (thn (ha.run pos pins s σ H _ I h) fun us s1 ⟨vs, H1, I1, r1, q1⟩ => ?_) hs rfl))
  obtain ⟨a, xs, ex, hq, q⟩ := q1
  subst ex
  cases r1 with
  | cons r rr =>
    cases rr
    cases r
    obtain ⟨its, rv, p', hz⟩ := I1.tuple hq
    refine enum_begins1 (begins_tuple a its.toArray) p' fun h' he hit hsz hk => wpAny_pyIter_enum he ?_
    have I2 : Inv X pins σ H1 { s1 with heap := h' } := I1.kept (t' := s1.toks) hk
    refine ⟨s1.heap.objs.size + 1, [s1.heap.objs.size + 1, s1.heap.objs.size], _, _, H1, rfl, I2, turn_enumT a (s1.heap.objs.size + 1) s1.heap.objs.size, ⟨⟨.none, he⟩, ⟨_, hit, rfl, rfl⟩, Nat.succ_ne_self _⟩, fun b hb => ?_, q⟩
    have e' : b = s1.heap.objs.size + 1 ∨ b = s1.heap.objs.size := by simpa using hb
    have hle : s1.heap.objs.size ≤ b := by
      rcases e' with z | z
      · rw [z]; exact Nat.le_add_right _ _
      · rw [z]; exact Nat.le_refl _
    exact I1.fpOk hle (I1.hok.fresh hle)
theorem pi_enumTK {X : Cx} {e : Expr} {ta : TA} {p pos : Pos} (K : PySem.W.Frag) {tpos : Pos} {elts : List Expr} {kk : Nat} (hg : Gl X "enumerate") (hm : X.mg "enumerate" = none) (ha : PA X [e] ta) (h : X.K = K := by rfl) (hs : starEach [e] X.env = [(false, eval e X.env)] := by rfl) :
    PI X (.Tuple elts kk tpos) (.Call (.Name "enumerate" p) [e] [] pos) (iEnumT K ta) := by subst h; exact pi_enumT hg hm ha hs

/-! ### tuple * int -/
end Dg
namespace PySem
set_option maxRecDepth 100000
set_option maxHeartbeats 1000000
theorem tuple_mulS (l : Addr) (items : Array Value) (n : Nat) (dd : Option Addr) (sl : Array (Option Value)) (x : Int) (u : Tok) (c0 : (decide (x < -(2 ^ 63)) || decide (x ≥ 2 ^ 63)) = false) (c1 : (items.isEmpty || x == 1) = true) :
    Meets (Builtin.«tuple.__mul__» ⟨[.ref l, .int x u], []⟩) (fun _ R s => s.heap.get? l = some { cls := .type "tuple", dict := dd, data := .seq items n, slots := sl } ∧ R (.ok (.ret (Value.ref l))) s) :=
  .of_wp fun prog w A R s h => by
    obtain ⟨hp, g, d, tk, os⟩ := s
    obtain ⟨hl, h⟩ := h
    have f1 := AutoSeq1.idx_int
    wp_walk using AutoSeq1.wpAny_loadPart' hl
    repeat (first
      | (refine wpAny_ite_false (decide_eq_false (by rw [c0]; exact Bool.false_ne_true)) ?_; wp_walk using AutoSeq1.wpAny_loadPart' hl)
      | (refine wpAny_ite_true (decide_eq_true (by exact c1)) ?_; wp_walk using AutoSeq1.wpAny_loadPart' hl))
    exact ⟨_, rfl, h⟩
theorem tuple_mul0 (l : Addr) (items : Array Value) (n : Nat) (dd : Option Addr) (sl : Array (Option Value)) (x : Int) (u : Tok) (c0 : (decide (x < -(2 ^ 63)) || decide (x ≥ 2 ^ 63)) = false) (c1 : (items.isEmpty || x == 1) = false) (c2 : (decide (x ≤ 0) || items.isEmpty) = true) :
    Meets (Builtin.«tuple.__mul__» ⟨[.ref l, .int x u], []⟩) (fun _ R s => s.heap.get? l = some { cls := .type "tuple", dict := dd, data := .seq items n, slots := sl } ∧
      R (.ok (.ret (Value.ref s.heap.objs.size))) { s with heap := s.heap.push { cls := Value.type "tuple", data := Data.seq #[] }, toks := s.toks }) :=
  .of_wp fun prog w A R s h => by
    obtain ⟨hp, g, d, tk, os⟩ := s
    obtain ⟨hl, h⟩ := h
    have f1 := AutoSeq1.idx_int
    wp_walk using AutoSeq1.wpAny_loadPart' hl
    repeat (first
      | (refine wpAny_ite_false (decide_eq_false (by rw [c0]; exact Bool.false_ne_true)) ?_; wp_walk using AutoSeq1.wpAny_loadPart' hl)
      | (refine wpAny_ite_false (decide_eq_false (by rw [c1]; exact Bool.false_ne_true)) ?_; wp_walk using AutoSeq1.wpAny_loadPart' hl)
      | (refine wpAny_ite_true (decide_eq_true (by exact c2)) ?_; wp_walk using AutoSeq1.wpAny_loadPart' hl))
    exact ⟨_, rfl, h⟩
end PySem
namespace Dg
open PySem PySem.Spec PyProof.Rows L2 Evl
section
variable {X : Cx}
def rRepTA (K : PySem.W.Frag) : R2 := fun x y H Q => ∃ l k xs, x = .ref l ∧ y = .int k ∧ SqT K H l xs ∧ -1000000 ≤ k ∧ k ≤ 1000 ∧ xs.length ≤ 1000 ∧
  (xs = [] ∨ k = 1 → Q (.ref l) H) ∧ (xs ≠ [] → k ≠ 1 → ∀ p, H p = none → Q (.ref p) (upd H p (.tup (List.replicate k.toNat xs).flatten)))
theorem op_repTA : OpR X (binaryOp .Mult) (rRepTA X.K) := by
  intro pins s σ H x y v u Q I rx ry h
  obtain ⟨l, k, xs, rfl, rfl, hT, h0, h1, hz, q1, q2⟩ := h
  by_cases hs : xs = [] ∨ k = 1
  · cases rx
    obtain ⟨t, rfl⟩ := ry
    obtain ⟨its, r, ⟨⟨cls, dd, data, sl⟩, ho, hc, n, hd⟩, hz'⟩ := I.tuple hT
    simp only at hc hd
    subst hc hd
    have c0 : (decide (k < -(2 ^ 63)) || decide (k ≥ 2 ^ 63)) = false := by
      rw [decide_eq_false (by omega), decide_eq_false (by omega)] <;> rfl
    have c1 : (its.toArray.isEmpty || k == 1) = true := by
      rcases hs with hs | hs
      · subst hs
        cases r
        rfl
      · rw [hs, Bool.or_eq_true]
        exact .inr rfl
    exact wpAny_binaryOp_repeat_ref (T := "tuple") (U := "int") (by decide) ⟨_, ho, rfl⟩ (fun s' => typeIs_int s' k t) noFill_tuple_mul F.fills_int_mul F.slot_int_rmul repeat_tuple F.slot_int_index.lookup
      (call_meets F.slot_int_rmul (typeIs_int s k t) F.entry_int_rmul (F.args_int_rmul_2 _ _) (int_rmul_tuple k t l its.toArray n dd sl)
        ⟨ho, rfl, ⟨_, ho, rfl⟩, call_meets F.slot_tuple_mul ⟨_, ho, rfl⟩ F.entry_tuple_mul (F.args_tuple_mul_2 _ _) (tuple_mulS l its.toArray n dd sl k t c0 c1) ⟨ho, ⟨.ref l, H, I, rfl, q1 hs⟩⟩⟩)
  · have hne : xs ≠ [] := fun z => hs (.inl z)
    have hk1 : k ≠ 1 := fun z => hs (.inr z)
    by_cases h2 : 2 ≤ k
    · exact op_repT pins s σ H _ _ v u Q I rx ry ⟨l, k, xs, rfl, rfl, hT, hne, h2, h1, hz, q2 hne hk1⟩
    · cases rx
      obtain ⟨t, rfl⟩ := ry
      obtain ⟨its, r, ⟨⟨cls, dd, data, sl⟩, ho, hc, n, hd⟩, hz'⟩ := I.tuple hT
      simp only at hc hd
      subst hc hd
      have c0 : (decide (k < -(2 ^ 63)) || decide (k ≥ 2 ^ 63)) = false := by
        rw [decide_eq_false (by omega), decide_eq_false (by omega)] <;> rfl
      have hi : its.toArray.isEmpty = false := by
        cases its with
        | nil => cases r; exact absurd rfl hne
        | cons a b => rfl
      have c1 : (its.toArray.isEmpty || k == 1) = false := by
        rw [hi, Bool.false_or]
        exact beq_eq_false_iff_ne.mpr hk1
      have c2 : (decide (k ≤ 0) || its.toArray.isEmpty) = true := by
        rw [decide_eq_true (show k ≤ 0 by omega)] <;> rfl
      refine wpAny_binaryOp_repeat_ref (T := "tuple") (U := "int") (by decide) ⟨_, ho, rfl⟩ (fun s' => typeIs_int s' k t) noFill_tuple_mul F.fills_int_mul F.slot_int_rmul repeat_tuple F.slot_int_index.lookup
        (call_meets F.slot_int_rmul (typeIs_int s k t) F.entry_int_rmul (F.args_int_rmul_2 _ _) (int_rmul_tuple k t l its.toArray n dd sl)
          ⟨ho, rfl, ⟨_, ho, rfl⟩, call_meets F.slot_tuple_mul ⟨_, ho, rfl⟩ F.entry_tuple_mul (F.args_tuple_mul_2 _ _) (tuple_mul0 l its.toArray n dd sl k t c0 c1 c2) ⟨ho, ?_⟩⟩)
      have ek : k.toNat = 0 := by omega
      have q3 := q2 hne hk1 _ (I.hok.fresh (Nat.le_refl _))
      rw [ek] at q3
      refine ⟨.ref s.heap.objs.size, _, I.laid (t' := s.toks) (o := .tup []) (fun b ob q => Heap.get?_push_of_some _ q) (Nat.le_refl _) ⟨Nat.zero_le _, [], .nil, IsTup.new _ _⟩, rfl, q3⟩
theorem op_repTAK (K : PySem.W.Frag) (h : X.K = K := by rfl) : OpR X (binaryOp .Mult) (rRepTA K) := by subst h; exact op_repTA
end
section
variable {α : Type} {K : PySem.W.Frag} {H : Hp} {σ : L2.St} {ta tb te tl : TE} {R : Rp α}
theorem repL_one (x : α) (k : Int) : repL [x] k = List.replicate k.toNat x := by
  unfold repL
  induction k.toNat with
  | zero => rfl
  | succ n ih => rw [List.replicate_succ, List.flatten_cons, ih, List.replicate_succ]; rfl
theorem er_repT [Me R] {xs : List α} {k : Int} (ha : Er (rT K R) ta σ H xs) (hb : Er rI tb σ H k) (h0 : -1000000 ≤ k ∧ k ≤ 1000) (hl : xs.length ≤ 1000) : Er (rT K R) (tOp (rRepTA K) ta tb) σ H (repL xs k) := fun H1 e Q q =>
  ha H1 e _ fun v H2 e2 r1 => hb H2 (e.trans e2) _ fun w H3 e3 r2 => by
    cases r2
    obtain ⟨a, vs, rfl, h1, h2⟩ := r1
    refine ⟨a, k, vs, rfl, rfl, ex_t e3 h1, h0.1, h0.2, by rw [← paired_len h2]; exact hl, fun z => ?_, fun _ _ p np => ?_⟩
    · refine q _ H3 (e2.trans e3) ⟨a, vs, rfl, ex_t e3 h1, ?_⟩
      rcases z with z | z
      · subst z
        cases h2
        unfold repL
        simp
        exact .nil
      · subst z
        unfold repL
        simp
        exact pm h2 fun _ _ z => Me.ex e3 z
    · exact q _ _ ((e2.trans e3).trans (Ex.new np)) ⟨p, _, rfl, SqT.of upd_same, paired_flat (pm h2 fun _ _ z => Me.ex (e3.trans (Ex.new np)) z) k.toNat⟩
end
/-! ### max with a default -/
theorem holdI {h : Heap} : ∀ {us : List Value} {ns : List Int}, IntsAre us ns → ReadsAll h us (ns.map PySem.W.Datum.toD) ((ns.map fun _ => []).flatten)
  | [], [], .nil => ReadsAll.nil
  | _ :: _, n :: ns, .cons _ k r => by
    show ReadsAll h _ _ ([] ++ (ns.map fun _ => []).flatten)
    exact ReadsAll.cons (Reads.int n k) (holdI r)
def mxI (x : Int) (xs : List Int) : Int := xs.foldl (fun a b => if a < b then b else a) x
def mxD (d : Int) : List Int → Int
  | [] => d
  | x :: xs => mxI x xs
theorem mxI_eq (x : Int) (xs : List Int) : PySem.W.maxOf x xs = mxI x xs := by
  unfold PySem.W.maxOf mxI
  congr 1
  funext a y
  show (if PySem.W.DatumOrd.lt a y = true then y else a) = _
  show (if decide (a < y) = true then y else a) = _
  simp only [decide_eq_true_eq]
theorem mxI_le : ∀ (xs : List Int) (x : Int), x ≤ mxI x xs ∧ ∀ y ∈ xs, y ≤ mxI x xs
  | [], x => ⟨Int.le_refl _, fun _ h => nomatch h⟩
  | z :: xs, x => by
    have h := mxI_le xs (if x < z then z else x)
    have e : mxI x (z :: xs) = mxI (if x < z then z else x) xs := rfl
    rw [e]
    refine ⟨?_, fun y hy => ?_⟩
    · have := h.1
      split at this <;> split <;> omega
    · rcases List.mem_cons.mp hy with hy | hy
      · subst hy
        have := h.1
        split at this <;> split <;> omega
      · exact h.2 y hy
theorem mxI_mem : ∀ (xs : List Int) (x : Int), mxI x xs = x ∨ mxI x xs ∈ xs
  | [], x => .inl rfl
  | z :: xs, x => by
    have e : mxI x (z :: xs) = mxI (if x < z then z else x) xs := rfl
    rw [e]
    rcases mxI_mem xs (if x < z then z else x) with h | h
    · rw [h]
      split
      · exact .inr (List.mem_cons_self ..)
      · exact .inl rfl
    · exact .inr (List.mem_cons_of_mem _ h)
section
variable {X : Cx} {e d : Expr} {te td : TE} {x : Str} {p pos kpos : Pos}
def tMaxd (K : PySem.W.Frag) (ta tk : TA) : TE := fun σ H Q => ta σ H fun vs H1 => tk σ H1 fun ws H2 => ∃ (a : Addr) (ns : List Int) (k : Int), vs = [.ref a] ∧ ws = [.int k] ∧ SqL K H2 a (ns.map V.int) ∧ Q (.int (mxD k ns)) H2
theorem pe_maxd (hg : Gl X "max") (hm : X.mg "max" = none) (hb : bootBuiltins "max" = some (.builtin "max")) (hu : X.A.units + 64 < cLine) (hc : X.calm = true) (he : PE X e te) (hd : PE X d td)
    (hs : starEach [e] X.env = (false, eval e X.env) :: starEach [] X.env := by rfl) : PE X (.Call (.Name "max" p) [e] [⟨some "default", d, kpos⟩] pos) (tMaxd X.K (tCons te tNil) (tCons td tNil)) := by
  refine ⟨fun pins s σ H Q I h => ?_⟩
  refine wpAny_Call_Name_kw (ld_blt I hg hm hb ?_)
  refine PyProof.Rows.callWith_kw ?_ (by rw [hs]; rfl) (by rw [hs]; rfl)
  refine thn ((pa_cons he pa_nil hs).run pos pins s σ H _ I h) fun us s1 ⟨vs, H1, I1, r1, q1⟩ => ?_
  refine thn ((pk_cons (nm := some "default") (kpos := kpos) hd pk_nil).run pos pins s1 σ H1 _ I1 q1) fun ws s2 ⟨zs, H2, I2, rz, a, ns, k, e1, e2, hL, q2⟩ => ?_
  subst e1 e2
  obtain ⟨its, rv, hl, _⟩ := I2.list hL
  rw [Vals.ref1 r1]
  cases rz with
  | cons r rr =>
    cases rr
    obtain ⟨t, rfl⟩ := r
    refine PySem.W.max_list_datum_default (xs := ns) (I2.ok.hd hc) hl.isList ⟨_, holdI rv.ints⟩ (by show X.A.units + 1 + 0 < cLine; omega) (fun e h' tk hk => ?_) fun y ys i v h' tk e hi hv hk => ?_
    · subst e
      exact ⟨.int k, H2, I2.kept hk, ⟨_, rfl⟩, q2⟩
    · subst e
      obtain ⟨as, rd⟩ := hv
      rw [mxI_eq] at rd
      cases rd
      exact ⟨.int _, H2, I2.kept hk, ⟨_, rfl⟩, q2⟩
theorem pe_maxdK (K : PySem.W.Frag) (hg : Gl X "max") (hm : X.mg "max" = none) (hb : bootBuiltins "max" = some (.builtin "max")) (hu : X.A.units + 64 < cLine) (hc : X.calm = true) (he : PE X e te) (hd : PE X d td) (h : X.K = K := by rfl)
    (hs : starEach [e] X.env = (false, eval e X.env) :: starEach [] X.env := by rfl) : PE X (.Call (.Name "max" p) [e] [⟨some "default", d, kpos⟩] pos) (tMaxd K (tCons te tNil) (tCons td tNil)) := by subst h; exact pe_maxd hg hm hb hu hc he hd hs
end
section
variable {K : PySem.W.Frag} {H : Hp} {σ : L2.St} {ta tb te tl : TE}
theorem er_maxd {xs : List Int} {k : Int} (ha : Er (rL K rI) ta σ H xs) (hb : Er rI tb σ H k) : Er rI (tMaxd K (tCons ta tNil) (tCons tb tNil)) σ H (mxD k xs) := fun H1 e Q q =>
  ha H1 e _ fun v H2 e2 r1 => hb H2 (e.trans e2) _ fun w H3 e3 r2 => by
    cases r2
    obtain ⟨a, vs, rfl, h1, h2⟩ := r1
    have e4 := pI h2
    subst e4
    exact ⟨a, xs, k, rfl, rfl, ex_l e3 h1, q _ H3 (e2.trans e3) rfl⟩
end
/-! ### data compared -/
class Rd {α : Type} (K : PySem.W.Frag) (R : Rp α) where
  to : α → PyData
  dep : Nat
  dp : ∀ {H : Hp} {x : α} {v : V}, R H x v → Dp K H v (to x)
  lay : ∀ x, (to x).canLay0 = true
  dle : ∀ x, (to x).depth ≤ dep
  eqv : ∀ x y, (PyData.eqv (to x) (to y) = true) ↔ x = y
section
variable {α β : Type} {K : PySem.W.Frag}
instance : Rd K rI where
  to := .int
  dep := 0
  dp h := by cases h; exact .int _
  lay _ := by simp only [PyData.canLay0]
  dle _ := by simp only [PyData.depth]; exact Nat.le_refl _
  eqv x y := by simp only [PyData.eqv, beq_iff_eq]
instance : Rd K rB where
  to := .bool
  dep := 0
  dp h := by cases h; exact .bl _
  lay _ := by simp only [PyData.canLay0]
  dle _ := by simp only [PyData.depth]; exact Nat.le_refl _
  eqv x y := by simp only [PyData.eqv, beq_iff_eq]
instance : Rd K rN where
  to _ := .none
  dep := 0
  dp h := by cases h; exact .non
  lay _ := by simp only [PyData.canLay0]
  dle _ := by simp only [PyData.depth]; exact Nat.le_refl _
  eqv x y := by simp only [PyData.eqv]
theorem dpAll_of {R : Rp α} (f : α → PyData) {H : Hp} (h : ∀ {x v}, R H x v → Dp K H v (f x)) : ∀ {xs : List α} {vs : List V}, Paired (R H) xs vs → DpAll K H vs (xs.map f)
  | _, _, .nil => .nil
  | _, _, .cons r t => .cons (h r) (dpAll_of f h t)
theorem layAll_of (f : α → PyData) (h : ∀ x, (f x).canLay0 = true) : ∀ xs : List α, PyData.canLayAll0 (xs.map f) = true
  | [] => by simp only [List.map_nil, PyData.canLayAll0]
  | x :: xs => by simp only [List.map_cons, PyData.canLayAll0, h x, layAll_of f h xs, Bool.and_self]
theorem depAll_of (f : α → PyData) {n : Nat} (h : ∀ x, (f x).depth ≤ n) : ∀ xs : List α, PyData.depthAll (xs.map f) ≤ n
  | [] => by simp only [List.map_nil, PyData.depthAll]; omega
  | x :: xs => by
    have h1 := h x
    have h2 := depAll_of f h xs
    simp only [List.map_cons, PyData.depthAll]
    omega
theorem eqvAll_of (f : α → PyData) (h : ∀ x y, (PyData.eqv (f x) (f y) = true) ↔ x = y) : ∀ xs ys : List α, (PyData.eqvAll (xs.map f) (ys.map f) = true) ↔ xs = ys
  | [], [] => by simp [PyData.eqvAll]
  | [], _ :: _ => by simp [PyData.eqvAll]
  | _ :: _, [] => by simp [PyData.eqvAll]
  | x :: xs, y :: ys => by simp only [List.map_cons, PyData.eqvAll, Bool.and_eq_true, h x y, eqvAll_of f h xs ys, List.cons.injEq]
instance {R : Rp α} [r : Rd K R] : Rd K (rT K R) where
  to xs := .tuple (xs.map r.to)
  dep := r.dep + 1
  dp h := by obtain ⟨a, vs, rfl, h1, h2⟩ := h; exact .tup h1 (dpAll_of r.to (fun q => r.dp q) h2)
  lay xs := by simp only [PyData.canLay0]; exact layAll_of _ r.lay xs
  dle xs := by simp only [PyData.depth]; exact Nat.succ_le_succ (depAll_of _ r.dle xs)
  eqv xs ys := by simp only [PyData.eqv]; exact eqvAll_of _ r.eqv xs ys
instance {R : Rp α} [r : Rd K R] : Rd K (rL K R) where
  to xs := .list (xs.map r.to)
  dep := r.dep + 1
  dp h := by obtain ⟨a, vs, rfl, h1, h2⟩ := h; exact .lst h1 (dpAll_of r.to (fun q => r.dp q) h2)
  lay xs := by simp only [PyData.canLay0]; exact layAll_of _ r.lay xs
  dle xs := by simp only [PyData.depth]; exact Nat.succ_le_succ (depAll_of _ r.dle xs)
  eqv xs ys := by simp only [PyData.eqv]; exact eqvAll_of _ r.eqv xs ys
instance {R : Rp α} {S : Rp β} [r : Rd K R] [s : Rd K S] : Rd K (r2 K R S) where
  to x := .tuple [r.to x.1, s.to x.2]
  dep := max r.dep s.dep + 1
  dp h := by obtain ⟨a, u, w, rfl, h1, h2, h3⟩ := h; exact .tup h1 (.cons (r.dp h2) (.cons (s.dp h3) .nil))
  lay x := by simp only [PyData.canLay0, PyData.canLayAll0, r.lay, s.lay, Bool.and_self]
  dle x := by
    have h1 := r.dle x.1
    have h2 := s.dle x.2
    simp only [PyData.depth, PyData.depthAll]
    omega
  eqv x y := by
    simp only [PyData.eqv, PyData.eqvAll, Bool.and_eq_true, r.eqv, s.eqv, and_true]
    exact ⟨fun h => Prod.ext h.1 h.2, fun h => by rw [h]; exact ⟨rfl, rfl⟩⟩
variable {R : Rp α} {H : Hp} {σ : L2.St} {ta tb : TE} {x y : α}
theorem Rd.shaped [r : Rd K R] (h : r.dep ≤ 64 := by exact Nat.le_of_ble_eq_true rfl) (x : α) : SeqAt.shaped (r.to x) = true := by
  unfold SeqAt.shaped
  rw [r.lay x, Bool.true_and]
  exact decide_eq_true (Nat.le_trans (r.dle x) h)
theorem er_eqD [DecidableEq α] [Me R] [r : Rd K R] (ha : Er R ta σ H x) (hb : Er R tb σ H y) (h : r.dep ≤ 64 := by exact Nat.le_of_ble_eq_true rfl) : Er rB (tOp (rEqD K) ta tb) σ H (decide (x = y)) := fun H1 e Q q =>
  ha H1 e _ fun v H2 e2 r1 => hb H2 (e.trans e2) _ fun w H3 e3 r2 => ⟨r.to x, r.to y, r.dp (Me.ex e3 r1), r.dp r2, Rd.shaped h x, Rd.shaped h y, by
    rw [show PyData.eqv (r.to x) (r.to y) = decide (x = y) by rw [Bool.eq_iff_iff, decide_eq_true_eq]; exact r.eqv x y]
    exact q _ H3 (e2.trans e3) rfl⟩
theorem er_neD [DecidableEq α] [Me R] [r : Rd K R] (ha : Er R ta σ H x) (hb : Er R tb σ H y) (h : r.dep ≤ 64 := by exact Nat.le_of_ble_eq_true rfl) : Er rB (tOp (rNeD K) ta tb) σ H (!decide (x = y)) := fun H1 e Q q =>
  ha H1 e _ fun v H2 e2 r1 => hb H2 (e.trans e2) _ fun w H3 e3 r2 => ⟨r.to x, r.to y, r.dp (Me.ex e3 r1), r.dp r2, Rd.shaped h x, Rd.shaped h y, by
    rw [show PyData.eqv (r.to x) (r.to y) = decide (x = y) by rw [Bool.eq_iff_iff, decide_eq_true_eq]; exact r.eqv x y]
    exact q _ H3 (e2.trans e3) rfl⟩
end
section
variable {X : Cx}
theorem op_eqDK (K : PySem.W.Frag) (hu : X.A.units + 64 < cLine) (h : X.K = K := by rfl) : OpR X (compareOp .Eq) (rEqD K) := by subst h; exact op_eqD hu
theorem op_neDK (K : PySem.W.Frag) (hu : X.A.units + 64 < cLine) (h : X.K = K := by rfl) : OpR X (compareOp .NotEq) (rNeD K) := by subst h; exact op_neD hu
end
section
variable {α : Type} {K : PySem.W.Frag} {H : Hp} {σ : L2.St} {R : Rp α} {D : Ends} {tu tz : TS} {j : Nat}
theorem s_forET {ta : TE} {g : TG} {xs : List α} (h : Er (rT K R) ta σ H xs) (k : ∀ v H1, Ex H H1 → rT K R H1 xs v → ∀ a, v = .ref a → Fl (IteT K a) g tu D σ H1) : tFor (iEnumT K (tCons ta tNil)) g tu D σ H :=
  h H (Ex.refl H) _ fun v H1 e r => by
    obtain ⟨a, vs, h1, h2, h3⟩ := id r
    exact ⟨a, vs, by rw [h1], h2, k v H1 e r a h1⟩
theorem fl_ET {i0 : Nat} {xs : List α} {v : V} (r : rT K R H xs v) (Pv : Nat → L2.St → Hp → Prop) (h0 : Pv 0 σ H) (hG : ∀ i σ H', i ≤ xs.length → Pv i σ H' → rT K R H' xs v)
    (hs : ∀ i x u σ H' H'', i < (enm xs).length → (enm xs)[i]? = some x → Pv i σ H' → Ex H' H'' → R H' x.2 u → tu { D with nx := Pv (i + 1), ct := Pv (i + 1), bk := D.nx } ((σ.set i0 (some (.int x.1))).set j (some u)) H'') (hd : ∀ σ H', Pv (enm xs).length σ H' → D.nx σ H') :
    ∀ a, v = .ref a → Fl (IteT K a) (g2 K i0 j) tu D σ H := by
  rintro a rfl
  have hle := enm_len xs
  refine fl_core (n := xs.length) Pv h0 (fun i σ H' hi p => ?_) (fun σ H' p => ?_) (fun i x σ H' H'' hi p y => ?_) (fun σ H' p => hd σ H' (by rw [hle]; exact p))
  · obtain ⟨_, vs, h1, h2, h3⟩ := hG i σ H' (by omega) p
    cases h1
    have hl := paired_len h3
    exact ⟨vs, vs[i]'(by omega), h2, List.getElem?_eq_getElem _⟩
  · obtain ⟨_, vs, h1, h2, h3⟩ := hG _ σ H' (Nat.le_refl _) p
    cases h1
    exact ⟨vs, h2, by rw [paired_len h3]; exact Nat.le_refl _⟩
  · obtain ⟨_, vs, h1, h2, h3⟩ := hG i σ H' (by omega) p
    cases h1
    obtain ⟨T, u, rfl, nT, rfl, y⟩ := y
    have hx := y vs h2
    obtain ⟨z, hz, rz⟩ := paired_get' h3 hx
    exact ⟨T, [.int (i : Nat), u], rfl, SqT.of upd_same, rfl, _, _, rfl, _, _, rfl, rfl, hs i ((i : Int), z) u σ H' _ (by omega) (enm_get hz) p (Ex.new nT) rz⟩
theorem fl_ETI {i0 : Nat} {xs : List Int} {v : V} (r : rT K rI H xs v) (Pv : Nat → L2.St → Hp → Prop) (h0 : Pv 0 σ H) (hG : ∀ i σ H', i ≤ xs.length → Pv i σ H' → rT K rI H' xs v)
    (hs : ∀ i x σ H' H'', i < (enm xs).length → (enm xs)[i]? = some x → Pv i σ H' → Ex H' H'' → tu { D with nx := Pv (i + 1), ct := Pv (i + 1), bk := D.nx } ((σ.set i0 (some (.int x.1))).set j (some (.int x.2))) H'') (hd : ∀ σ H', Pv (enm xs).length σ H' → D.nx σ H') :
    ∀ a, v = .ref a → Fl (IteT K a) (g2 K i0 j) tu D σ H := fl_ET r Pv h0 hG (fun i x u σ H' H'' hi hx p e r => by cases r; exact hs i x σ H' H'' hi hx p e) hd

theorem q_forET {ta : TE} {g : TG} {xs : List α} (h : Er (rT K R) ta σ H xs) (k : ∀ v H1, Ex H H1 → rT K R H1 xs v → ∀ a, v = .ref a → Fl (IteT K a) g tu { D with nx := tz D } σ H1) : tSeq (tFor (iEnumT K (tCons ta tNil)) g tu) tz D σ H := s_forET (D := { D with nx := tz D }) h k
theorem fq_ET {i0 : Nat} {xs : List α} {v : V} (r : rT K R H xs v) (Pv : Nat → L2.St → Hp → Prop) (h0 : Pv 0 σ H) (hG : ∀ i σ H', i ≤ xs.length → Pv i σ H' → rT K R H' xs v)
    (hs : ∀ i x u σ H' H'', i < (enm xs).length → (enm xs)[i]? = some x → Pv i σ H' → Ex H' H'' → R H' x.2 u → tu { nx := Pv (i + 1), rt := D.rt, bk := tz D, ct := Pv (i + 1) } ((σ.set i0 (some (.int x.1))).set j (some u)) H'') (hd : ∀ σ H', Pv (enm xs).length σ H' → tz D σ H') :
    ∀ a, v = .ref a → Fl (IteT K a) (g2 K i0 j) tu { D with nx := tz D } σ H := fl_ET (D := { D with nx := tz D }) r Pv h0 hG hs hd
theorem fq_ETI {i0 : Nat} {xs : List Int} {v : V} (r : rT K rI H xs v) (Pv : Nat → L2.St → Hp → Prop) (h0 : Pv 0 σ H) (hG : ∀ i σ H', i ≤ xs.length → Pv i σ H' → rT K rI H' xs v)
    (hs : ∀ i x σ H' H'', i < (enm xs).length → (enm xs)[i]? = some x → Pv i σ H' → Ex H' H'' → tu { nx := Pv (i + 1), rt := D.rt, bk := tz D, ct := Pv (i + 1) } ((σ.set i0 (some (.int x.1))).set j (some (.int x.2))) H'') (hd : ∀ σ H', Pv (enm xs).length σ H' → tz D σ H') :
    ∀ a, v = .ref a → Fl (IteT K a) (g2 K i0 j) tu { D with nx := tz D } σ H := fl_ETI (D := { D with nx := tz D }) r Pv h0 hG hs hd
end
section
variable {α β ι : Type} {K : PySem.W.Frag} {H : Hp} {σ : L2.St} {ta tb te tl : TE} {tt : TT} {R : Rp α} {Ri : Rp β} {vs : List Nat} {j : Nat}
theorem el_lcELc [Me R] [Mkt K R] [Me Ri] {i0 : Nat} {xs : List β} {c : Int × β → Bool} {f : Int × β → α} (h : Er (rL K Ri) tl σ H xs) (hb : xs.length < 1000000) (hw : ∀ x y, wipe (((wipe σ vs).set i0 (some x)).set j (some y)) vs = wipe σ vs)
    (ht : ∀ x v H1, Ex H H1 → x ∈ enm xs → Ri H1 x.2 v → Et tt (((wipe σ vs).set i0 (some (.int x.1))).set j (some v)) H1 (c x)) (he : ∀ x v H1, Ex H H1 → x ∈ enm xs → Ri H1 x.2 v → c x = true → Er R te (((wipe σ vs).set i0 (some (.int x.1))).set j (some v)) H1 (f x)) :
    El R (tLc (iEnum K (tCons tl tNil)) (g2 K i0 j) tt te vs) σ H (((enm xs).filter c).map f) := fun H1 e1 Q q =>
  h H1 e1 _ fun v H2 e2 r => by
    obtain ⟨a, us, rfl, hs, hp⟩ := r
    have hl := paired_len hp
    have hle := enm_len xs
    refine ⟨a, us, rfl, hs, el_core (K := K) (R := R) (J := Ite K a) (xs := enm xs) c f (by omega) (fun i H' e3 h => ⟨us, us[i]'(by omega), ex_l e3 hs, List.getElem?_eq_getElem _⟩) (fun H' e3 => ⟨us, ex_l e3 hs, by omega⟩) (fun i x u H' H'' C hx e3 y k => ?_) Q fun p H3 n3 e3 l3 => q p H3 (fresh_back e2 n3) (e2.trans e3) l3⟩
    obtain ⟨T, u', rfl, nT, rfl, y⟩ := y
    obtain ⟨n0, z0⟩ := x
    have ea := enm_at hx
    obtain rfl : n0 = (i : Int) := ea.1
    obtain ⟨u2, hu, ru⟩ := paired_get hp ea.2
    have eu := y us (ex_l e3 hs)
    rw [hu] at eu
    cases eu
    have eN := Ex.new (o := .tup [.int (i : Nat), u']) nT
    have e9 := ((e1.trans e2).trans e3).trans eN
    have hm := List.mem_of_getElem? hx
    refine ⟨T, [.int (i : Nat), u'], rfl, SqT.of upd_same, rfl, _, _, rfl, _, _, rfl, rfl, k _ _ eN ⟨hw _ _, ?_, fun hc => ?_⟩⟩
    · exact ht ((i : Int), z0) u' _ e9 hm (Me.ex (e3.trans eN) ru)
    · exact he ((i : Int), z0) u' _ e9 hm (Me.ex (e3.trans eN) ru) hc
theorem el_lcEL [Me R] [Mkt K R] [Me Ri] {i0 : Nat} {xs : List β} {f : Int × β → α} (h : Er (rL K Ri) tl σ H xs) (hb : xs.length < 1000000) (hw : ∀ x y, wipe (((wipe σ vs).set i0 (some x)).set j (some y)) vs = wipe σ vs)
    (he : ∀ x v H1, Ex H H1 → x ∈ enm xs → Ri H1 x.2 v → Er R te (((wipe σ vs).set i0 (some (.int x.1))).set j (some v)) H1 (f x)) :
    El R (tLc (iEnum K (tCons tl tNil)) (g2 K i0 j) tYes te vs) σ H ((enm xs).map f) := by
  have z := el_lcELc (K := K) (c := fun _ => true) (f := f) h hb hw (fun _ _ _ _ _ _ => et_yes) fun x v H1 e hx r _ => he x v H1 e hx r
  rw [List.filter_eq_self.mpr fun _ _ => rfl] at z
  exact z
theorem el_lcELIc [Me R] [Mkt K R] {i0 : Nat} {xs : List Int} {c : Int × Int → Bool} {f : Int × Int → α} (h : Er (rL K rI) tl σ H xs) (hb : xs.length < 1000000) (hw : ∀ x y, wipe (((wipe σ vs).set i0 (some x)).set j (some y)) vs = wipe σ vs)
    (ht : ∀ x H1, Ex H H1 → x ∈ enm xs → Et tt (((wipe σ vs).set i0 (some (.int x.1))).set j (some (.int x.2))) H1 (c x)) (he : ∀ x H1, Ex H H1 → x ∈ enm xs → c x = true → Er R te (((wipe σ vs).set i0 (some (.int x.1))).set j (some (.int x.2))) H1 (f x)) :
    El R (tLc (iEnum K (tCons tl tNil)) (g2 K i0 j) tt te vs) σ H (((enm xs).filter c).map f) :=
  el_lcELc h hb hw (fun x v H1 e hx r => by cases r; exact ht x H1 e hx) fun x v H1 e hx r hc => by cases r; exact he x H1 e hx hc
theorem el_lcELI [Me R] [Mkt K R] {i0 : Nat} {xs : List Int} {f : Int × Int → α} (h : Er (rL K rI) tl σ H xs) (hb : xs.length < 1000000) (hw : ∀ x y, wipe (((wipe σ vs).set i0 (some x)).set j (some y)) vs = wipe σ vs)
    (he : ∀ x H1, Ex H H1 → x ∈ enm xs → Er R te (((wipe σ vs).set i0 (some (.int x.1))).set j (some (.int x.2))) H1 (f x)) :
    El R (tLc (iEnum K (tCons tl tNil)) (g2 K i0 j) tYes te vs) σ H ((enm xs).map f) :=
  el_lcEL h hb hw fun x v H1 e hx r => by cases r; exact he x H1 e hx
theorem el_lcETc [Me R] [Mkt K R] [Me Ri] {i0 : Nat} {xs : List β} {c : Int × β → Bool} {f : Int × β → α} (h : Er (rT K Ri) tl σ H xs) (hb : xs.length < 1000000) (hw : ∀ x y, wipe (((wipe σ vs).set i0 (some x)).set j (some y)) vs = wipe σ vs)
    (ht : ∀ x v H1, Ex H H1 → x ∈ enm xs → Ri H1 x.2 v → Et tt (((wipe σ vs).set i0 (some (.int x.1))).set j (some v)) H1 (c x)) (he : ∀ x v H1, Ex H H1 → x ∈ enm xs → Ri H1 x.2 v → c x = true → Er R te (((wipe σ vs).set i0 (some (.int x.1))).set j (some v)) H1 (f x)) :
    El R (tLc (iEnumT K (tCons tl tNil)) (g2 K i0 j) tt te vs) σ H (((enm xs).filter c).map f) := fun H1 e1 Q q =>
  h H1 e1 _ fun v H2 e2 r => by
    obtain ⟨a, us, rfl, hs, hp⟩ := r
    have hl := paired_len hp
    have hle := enm_len xs
    refine ⟨a, us, rfl, hs, el_core (K := K) (R := R) (J := IteT K a) (xs := enm xs) c f (by omega) (fun i H' e3 h => ⟨us, us[i]'(by omega), ex_t e3 hs, List.getElem?_eq_getElem _⟩) (fun H' e3 => ⟨us, ex_t e3 hs, by omega⟩) (fun i x u H' H'' C hx e3 y k => ?_) Q fun p H3 n3 e3 l3 => q p H3 (fresh_back e2 n3) (e2.trans e3) l3⟩
    obtain ⟨T, u', rfl, nT, rfl, y⟩ := y
    obtain ⟨n0, z0⟩ := x
    have ea := enm_at hx
    obtain rfl : n0 = (i : Int) := ea.1
    obtain ⟨u2, hu, ru⟩ := paired_get hp ea.2
    have eu := y us (ex_t e3 hs)
    rw [hu] at eu
    cases eu
    have eN := Ex.new (o := .tup [.int (i : Nat), u']) nT
    have e9 := ((e1.trans e2).trans e3).trans eN
    have hm := List.mem_of_getElem? hx
    refine ⟨T, [.int (i : Nat), u'], rfl, SqT.of upd_same, rfl, _, _, rfl, _, _, rfl, rfl, k _ _ eN ⟨hw _ _, ?_, fun hc => ?_⟩⟩
    · exact ht ((i : Int), z0) u' _ e9 hm (Me.ex (e3.trans eN) ru)
    · exact he ((i : Int), z0) u' _ e9 hm (Me.ex (e3.trans eN) ru) hc
theorem el_lcET [Me R] [Mkt K R] [Me Ri] {i0 : Nat} {xs : List β} {f : Int × β → α} (h : Er (rT K Ri) tl σ H xs) (hb : xs.length < 1000000) (hw : ∀ x y, wipe (((wipe σ vs).set i0 (some x)).set j (some y)) vs = wipe σ vs)
    (he : ∀ x v H1, Ex H H1 → x ∈ enm xs → Ri H1 x.2 v → Er R te (((wipe σ vs).set i0 (some (.int x.1))).set j (some v)) H1 (f x)) :
    El R (tLc (iEnumT K (tCons tl tNil)) (g2 K i0 j) tYes te vs) σ H ((enm xs).map f) := by
  have z := el_lcETc (K := K) (c := fun _ => true) (f := f) h hb hw (fun _ _ _ _ _ _ => et_yes) fun x v H1 e hx r _ => he x v H1 e hx r
  rw [List.filter_eq_self.mpr fun _ _ => rfl] at z
  exact z
theorem el_lcETIc [Me R] [Mkt K R] {i0 : Nat} {xs : List Int} {c : Int × Int → Bool} {f : Int × Int → α} (h : Er (rT K rI) tl σ H xs) (hb : xs.length < 1000000) (hw : ∀ x y, wipe (((wipe σ vs).set i0 (some x)).set j (some y)) vs = wipe σ vs)
    (ht : ∀ x H1, Ex H H1 → x ∈ enm xs → Et tt (((wipe σ vs).set i0 (some (.int x.1))).set j (some (.int x.2))) H1 (c x)) (he : ∀ x H1, Ex H H1 → x ∈ enm xs → c x = true → Er R te (((wipe σ vs).set i0 (some (.int x.1))).set j (some (.int x.2))) H1 (f x)) :
    El R (tLc (iEnumT K (tCons tl tNil)) (g2 K i0 j) tt te vs) σ H (((enm xs).filter c).map f) :=
  el_lcETc h hb hw (fun x v H1 e hx r => by cases r; exact ht x H1 e hx) fun x v H1 e hx r hc => by cases r; exact he x H1 e hx hc
theorem el_lcETI [Me R] [Mkt K R] {i0 : Nat} {xs : List Int} {f : Int × Int → α} (h : Er (rT K rI) tl σ H xs) (hb : xs.length < 1000000) (hw : ∀ x y, wipe (((wipe σ vs).set i0 (some x)).set j (some y)) vs = wipe σ vs)
    (he : ∀ x H1, Ex H H1 → x ∈ enm xs → Er R te (((wipe σ vs).set i0 (some (.int x.1))).set j (some (.int x.2))) H1 (f x)) :
    El R (tLc (iEnumT K (tCons tl tNil)) (g2 K i0 j) tYes te vs) σ H ((enm xs).map f) :=
  el_lcET h hb hw fun x v H1 e hx r => by cases r; exact he x H1 e hx
end
/-! ### steps by values at hand -/
def tK (v : V) : TE := fun _ H Q => Q v H
def tKs (vs : List V) : TA := fun _ H Q => Q vs H
section
variable {α : Type} {K : PySem.W.Frag} {H : Hp} {σ : L2.St} {ta tb te : TE} {t : TA} {R : Rp α} {x : α} {Q : VK}
theorem er_K [Me R] {v : V} (r : R H x v) : Er R (tK v) σ H x := fun H1 e _ q => q v H1 (Ex.refl H1) (Me.ex e r)
theorem er_iK {i : Int} : Er rI (tK (.int i)) σ H i := fun H1 _ _ q => q _ H1 (Ex.refl H1) rfl
theorem er_bK {i : Bool} : Er rB (tK (.bl i)) σ H i := fun H1 _ _ q => q _ H1 (Ex.refl H1) rfl
theorem er_sK {i : Str} : Er rS (tK (.str i)) σ H i := fun H1 _ _ q => q _ H1 (Ex.refl H1) rfl
theorem er_nK : Er rN (tK .non) σ H () := fun H1 _ _ q => q _ H1 (Ex.refl H1) rfl
theorem go_opK {r : R2} (h : ta σ H fun x H1 => tb σ H1 fun y H2 => tOp r (tK x) (tK y) [] H2 Q) : tOp r ta tb σ H Q := h
theorem go_unK {r : V → Hp → VK → Prop} (h : ta σ H fun x H1 => tUn r (tK x) [] H1 Q) : tUn r ta σ H Q := h
theorem go_callA {sp : Sp} {E : XK} (h : t σ H fun vs H1 => sp vs H1 Q E) : tCall sp [] E t σ H Q := by
  show t σ H fun vs H1 => sp (vs ++ []) H1 Q E
  simp only [List.append_nil]
  exact h
theorem go_cbA {r : List V → Hp → VK → Prop} (h : t σ H fun vs H1 => tCB r (tKs vs) [] H1 Q) : tCB r t σ H Q := h
theorem go_lstA (h : t σ H fun vs H1 => tLst (tKs vs) [] H1 Q) : tLst t σ H Q := h
theorem go_tupA (h : t σ H fun vs H1 => tTup (tKs vs) [] H1 Q) : tTup t σ H Q := h
theorem go_cons {Q' : List V → Hp → Prop} (h : ta σ H fun x H1 => t σ H1 fun xs H2 => Q' (x :: xs) H2) : tCons ta t σ H Q' := h
theorem go_nil {Q' : List V → Hp → Prop} (h : Q' [] H) : tNil σ H Q' := h
theorem ea_K [Me R] {xs : List α} {vs : List V} (h : Paired (R H) xs vs) : Ea (tKs vs) σ H (As R xs) := fun H1 e Q q => q vs H1 (Ex.refl H1) (pm h fun _ _ z => Me.ex e z)
theorem go_B {i : Bool} (h : Er rB te σ H i) (k : ∀ H1, Ex H H1 → Q (.bl i) H1) : te σ H Q := h H (Ex.refl H) _ fun v H1 e r => by cases r; exact k H1 e
theorem go_S {i : Str} (h : Er rS te σ H i) (k : ∀ H1, Ex H H1 → Q (.str i) H1) : te σ H Q := h H (Ex.refl H) _ fun v H1 e r => by cases r; exact k H1 e
theorem go_N {u : Unit} (h : Er rN te σ H u) (k : ∀ H1, Ex H H1 → Q .non H1) : te σ H Q := h H (Ex.refl H) _ fun v H1 e r => by cases r; exact k H1 e
theorem go_tV {Q : Bool → Hp → Prop} (h : te σ H fun x H1 => ∃ c, x = .bl c ∧ Q c H1) : tTest te σ H Q := h
theorem s_ret0 {D : Ends} (h : te σ H D.rt) : tRet te D σ H := h
theorem s_drop0 {D : Ends} (h : te σ H fun _ H1 => D.nx σ H1) : tDrop te D σ H := h
theorem s_if0 {D : Ends} {t : TT} {tu tw : TS} (h : t σ H fun b H1 => if b = true then tu D σ H1 else tw D σ H1) : tIfS t tu tw D σ H := h
end
theorem ite_no {b : Bool} {X Y : Prop} (h : b = false) (k : Y) : if b = true then X else Y := by rw [h]; exact k
theorem ite_ok {b : Bool} {X Y : Prop} (h : b = true) (k : X) : if b = true then X else Y := by rw [if_pos h]; exact k
section
variable {α : Type} {K : PySem.W.Frag} {H : Hp} {σ : L2.St} {ta te : TE} {R : Rp α} {vs : List Nat} {j : Nat} {b : Addr} {Q : VK}
/-! ### a new list of drawn things -/
def LcGo (j : Nat) (te : TE) (vs : List Nat) (σ : L2.St) (H : Hp) (hi : Int) (Q : VK) : Prop := ∀ D, H D = none → ∃ W : Nat → Nat → Hp → Prop, (∃ m, W 0 m (upd H D (.lst []))) ∧ ∀ i m H, W i m H →
      ((Itr 0 hi.toNat).stop i H ∧ Q (.ref D) H) ∨ ((Itr 0 hi.toNat).go i H ∧ ∃ Nx : Hp → Prop, (∀ H', Nx H' → ∃ m', m' < m ∧ W (i + 1) m' H') ∧ ∀ x H', (Itr 0 hi.toNat).yld i H x H' → gName j x (wipe σ vs) H' fun σ2 H2 => wipe σ2 vs = wipe σ vs ∧ tYes σ2 H2 fun b H3 =>
        if b = true then te σ2 H3 fun y H4 => ∃ acc, H4 D = some (.lst acc) ∧ acc.length < sizeLine ∧ Nx (upd H4 D (.lst (acc ++ [y]))) else Nx H3)
theorem lc_open (h : ta σ H fun v H1 => ∃ hi : Int, [v] = [V.int hi] ∧ -(2 ^ 62) ≤ hi ∧ hi < 2 ^ 62 ∧ LcGo j te vs σ H1 hi Q) : tLc (iRng1 (tCons ta tNil)) (gName j) tYes te vs σ H Q := h
/-- the body of a comprehension over a range, its items drawn from the bag -/
theorem lcR1B [Me R] [Mkt K R] (Py : α → Prop) (hB : Bag H b) {hi : Int} (hh : hi < 1000000) (hw : ∀ x, wipe ((wipe σ vs).set j (some x)) vs = wipe σ vs)
    (he : ∀ x H1 (C : VK), C1 b H H1 → Bag H1 b → (0 ≤ x ∧ x < hi) → (∀ v H2 y, C1 b H1 H2 → Bag H2 b → R H2 y v → Py y → C v H2) → te ((wipe σ vs).set j (some (.int x))) H1 C)
    (q : ∀ p H2 (ys : List α), H p = none → C1 b H H2 → Bag H2 b → ys.length = hi.toNat → (∀ y ∈ ys, Py y) → Lt R H2 p ys → Q (.ref p) H2) :
    LcGo j te vs σ H hi Q := by
  intro D hD
  have hbD : b ≠ D := hB.ne hD
  refine ⟨fun i m H' => m = hi.toNat - i ∧ i ≤ hi.toNat ∧ C1 b H H' ∧ Bag H' b ∧ ∃ ys : List α, ys.length = i ∧ (∀ y ∈ ys, Py y) ∧ Lt R H' D ys, ⟨hi.toNat, rfl, Nat.zero_le _, C1.ex (Ex.new hD), hB.ex (Ex.new hD), [], rfl, (fun _ h => by cases h), ⟨[], upd_same, .nil⟩⟩, ?_⟩
  rintro i m H1 ⟨rfl, hi1, c1, B1, ys, hl, hy, l1⟩
  by_cases hlt : i < hi.toNat
  · refine .inr ⟨hlt, fun H' => C1 b H H' ∧ Bag H' b ∧ ∃ ys : List α, ys.length = i + 1 ∧ (∀ y ∈ ys, Py y) ∧ Lt R H' D ys, fun H' h => ⟨hi.toNat - (i + 1), by omega, rfl, hlt, h⟩, ?_⟩
    rintro u H2 ⟨rfl, rfl⟩
    refine ⟨hw _, ?_⟩
    show te _ H2 _
    refine he _ H2 _ c1 B1 (by omega) fun v H3 y c3 B3 r3 py => ?_
    obtain ⟨acc, a1, a2⟩ := l1.keep (B1.kt (K := K) c3) c3 (Ne.symm hbD)
    have la : acc.length = i := by rw [← paired_len a2, hl]
    have kt1 : Kt K H3 (upd H3 D (.lst (acc ++ [v]))) := Kt.c1 a1 (C1.up (C1.refl D H3))
    refine ⟨acc, a1, sz0 (by omega), fun a o n h => ?_, B3.keep (C1.up (C1.refl D H3)) hbD, ys ++ [y], by simp [hl], fun z hz => ?_, ⟨acc ++ [v], upd_same, paired_append (pm a2 fun _ _ z => Mkt.kt kt1 z) (.cons (Mkt.kt kt1 r3) .nil)⟩⟩
    · rw [upd_ne (ne_of_none h hD)]
      exact c3 _ _ n (c1 _ _ n h)
    · rcases List.mem_append.mp hz with hz | hz
      · exact hy z hz
      · rw [List.mem_singleton.mp hz]; exact py
  · have e : i = hi.toNat := by omega
    exact .inl ⟨Nat.le_of_not_lt hlt, q D H1 ys hD c1 B1 (hl.trans e) hy l1⟩
theorem go_lcR1B [Me R] [Mkt K R] (Py : α → Prop) (hB : Bag H b) {hi : Int} (h : Er rI ta σ H hi) (hh : -(2 ^ 62) ≤ hi ∧ hi < 1000000) (hw : ∀ x, wipe ((wipe σ vs).set j (some x)) vs = wipe σ vs)
    (he : ∀ x H1 (C : VK), C1 b H H1 → Bag H1 b → (0 ≤ x ∧ x < hi) → (∀ v H2 y, C1 b H1 H2 → Bag H2 b → R H2 y v → Py y → C v H2) → te ((wipe σ vs).set j (some (.int x))) H1 C)
    (q : ∀ p H2 (ys : List α), H p = none → C1 b H H2 → Bag H2 b → ys.length = hi.toNat → (∀ y ∈ ys, Py y) → Lt R H2 p ys → Q (.ref p) H2) : tLc (iRng1 (tCons ta tNil)) (gName j) tYes te vs σ H Q := by
  refine h H (Ex.refl H) _ fun v H1 e r => ?_
  cases r
  refine ⟨hi, rfl, hh.1, by omega, lcR1B (K := K) Py (hB.ex e) hh.2 hw (fun x H2 C c => he x H2 C ((C1.ex e).trans c)) fun p H2 ys n c => q p H2 ys (fresh_back e n) ((C1.ex e).trans c)⟩
/-- tuple(l) of a list of one's own -/
theorem rtup_own {l : Addr} {xs : List α} [Me R] (l1 : Lt R H l xs) (k : ∀ v H1, Ex H H1 → rT K R H1 xs v → Q v H1) : rTupQ K [.ref l] H Q := by
  obtain ⟨us, h1, h2⟩ := l1
  exact ⟨l, us, rfl, .inl ⟨SqL.of h1, fun p np => k _ _ (Ex.new np) ⟨p, us, rfl, SqT.of upd_same, pm h2 fun _ _ z => Me.ex (Ex.new np) z⟩⟩⟩
end
section
variable {α : Type} {K : PySem.W.Frag} {H : Hp} {σ : L2.St} {ta tb te : TE} {R : Rp α}
/-! ### own lists put together -/
def Ew (R : Rp α) (t : TE) (σ : L2.St) (H : Hp) (xs : List α) : Prop := ∀ H1, Ex H H1 → ∀ Q : VK, (∀ p H2, Ex H1 H2 → Lt R H2 p xs → Q (.ref p) H2) → t σ H1 Q
theorem El.ew {xs : List α} (h : El R te σ H xs) : Ew R te σ H xs := fun H1 e Q q => h H1 e Q fun p H2 _ e2 l => q p H2 e2 l
theorem ew_var [Me R] {i : Nat} {p : Addr} {xs : List α} (h : σ[i]? = some (some (.ref p))) (l : Lt R H p xs) : Ew R (tVar i) σ H xs := fun H1 e Q q => ⟨_, h, q p H1 (Ex.refl H1) (l.ex e)⟩
theorem ew_K [Me R] {p : Addr} {xs : List α} (l : Lt R H p xs) : Ew R (tK (.ref p)) σ H xs := fun H1 e Q q => q p H1 (Ex.refl H1) (l.ex e)
theorem el_catW [Me R] {xs ys : List α} (ha : Ew R ta σ H xs) (hb : Ew R tb σ H ys) (hl : xs.length + ys.length ≤ 1000000) : El R (tOp rCat ta tb) σ H (xs ++ ys) := fun H1 e Q q =>
  ha H1 e _ fun p H2 e2 l2 => hb H2 (e.trans e2) _ fun p' H3 e3 l3 => by
    obtain ⟨vs, h1, h2⟩ := l2
    obtain ⟨ws, h3, h4⟩ := l3
    refine ⟨p, p', vs, ws, rfl, rfl, e3 _ _ h1, h3, by rw [← paired_len h2, ← paired_len h4]; exact sz1 hl, fun a na => ?_⟩
    exact q a _ (fresh_back (e2.trans e3) na) ((e2.trans e3).trans (Ex.new na)) ⟨_, upd_same, paired_append (pm h2 fun _ _ z => Me.ex (e3.trans (Ex.new na)) z) (pm h4 fun _ _ z => Me.ex (Ex.new na) z)⟩
theorem s_forLw {D : Ends} {tu : TS} {g : TG} {xs : List α} (h : Ew R te σ H xs) (k : ∀ p H1, Ex H H1 → Lt R H1 p xs → Fl (Itl K p) g tu D σ H1) : tFor (iList K te) g tu D σ H :=
  h H (Ex.refl H) _ fun p H1 e l => by
    obtain ⟨vs, h1, h2⟩ := id l
    exact ⟨p, rfl, ⟨vs, SqL.of h1⟩, k p H1 e l⟩
theorem q_forLw {D : Ends} {tu tz : TS} {g : TG} {xs : List α} (h : Ew R te σ H xs) (k : ∀ p H1, Ex H H1 → Lt R H1 p xs → Fl (Itl K p) g tu { D with nx := tz D } σ H1) : tSeq (tFor (iList K te) g tu) tz D σ H := s_forLw (D := { D with nx := tz D }) h k
theorem s_forELw {D : Ends} {tu : TS} {g : TG} {xs : List α} (h : Ew R te σ H xs) (k : ∀ p H1, Ex H H1 → Lt R H1 p xs → Fl (Ite K p) g tu D σ H1) : tFor (iEnum K (tCons te tNil)) g tu D σ H :=
  h H (Ex.refl H) _ fun p H1 e l => by
    obtain ⟨vs, h1, h2⟩ := id l
    exact ⟨p, vs, rfl, SqL.of h1, k p H1 e l⟩
theorem q_forELw {D : Ends} {tu tz : TS} {g : TG} {xs : List α} (h : Ew R te σ H xs) (k : ∀ p H1, Ex H H1 → Lt R H1 p xs → Fl (Ite K p) g tu { D with nx := tz D } σ H1) : tSeq (tFor (iEnum K (tCons te tNil)) g tu) tz D σ H := s_forELw (D := { D with nx := tz D }) h k
theorem s_forLn {D : Ends} {tu : TS} {g : TG} {xs : List α} (h : El R te σ H xs) (k : ∀ p H1, H p = none → Ex H H1 → Lt R H1 p xs → Fl (Itl K p) g tu D σ H1) : tFor (iList K te) g tu D σ H :=
  h H (Ex.refl H) _ fun p H1 n e l => by
    obtain ⟨vs, h1, h2⟩ := id l
    exact ⟨p, rfl, ⟨vs, SqL.of h1⟩, k p H1 n e l⟩
theorem q_forLn {D : Ends} {tu tz : TS} {g : TG} {xs : List α} (h : El R te σ H xs) (k : ∀ p H1, H p = none → Ex H H1 → Lt R H1 p xs → Fl (Itl K p) g tu { D with nx := tz D } σ H1) : tSeq (tFor (iList K te) g tu) tz D σ H := s_forLn (D := { D with nx := tz D }) h k
theorem s_forELn {D : Ends} {tu : TS} {g : TG} {xs : List α} (h : El R te σ H xs) (k : ∀ p H1, H p = none → Ex H H1 → Lt R H1 p xs → Fl (Ite K p) g tu D σ H1) : tFor (iEnum K (tCons te tNil)) g tu D σ H :=
  h H (Ex.refl H) _ fun p H1 n e l => by
    obtain ⟨vs, h1, h2⟩ := id l
    exact ⟨p, vs, rfl, SqL.of h1, k p H1 n e l⟩
theorem q_forELn {D : Ends} {tu tz : TS} {g : TG} {xs : List α} (h : El R te σ H xs) (k : ∀ p H1, H p = none → Ex H H1 → Lt R H1 p xs → Fl (Ite K p) g tu { D with nx := tz D } σ H1) : tSeq (tFor (iEnum K (tCons te tNil)) g tu) tz D σ H := s_forELn (D := { D with nx := tz D }) h k
theorem s_forLv {D : Ends} {tu : TS} {g : TG} {xs : List α} {i : Nat} {p : Addr} (h : σ[i]? = some (some (.ref p))) (l : Lt R H p xs) (k : Fl (Itl K p) g tu D σ H) : tFor (iList K (tVar i)) g tu D σ H := by
  obtain ⟨vs, h1, h2⟩ := l
  exact ⟨_, h, p, rfl, ⟨vs, SqL.of h1⟩, k⟩
theorem q_forLv {D : Ends} {tu tz : TS} {g : TG} {xs : List α} {i : Nat} {p : Addr} (h : σ[i]? = some (some (.ref p))) (l : Lt R H p xs) (k : Fl (Itl K p) g tu { D with nx := tz D } σ H) : tSeq (tFor (iList K (tVar i)) g tu) tz D σ H := s_forLv (D := { D with nx := tz D }) h l k
theorem s_forELv {D : Ends} {tu : TS} {g : TG} {xs : List α} {i : Nat} {p : Addr} (h : σ[i]? = some (some (.ref p))) (l : Lt R H p xs) (k : Fl (Ite K p) g tu D σ H) : tFor (iEnum K (tCons (tVar i) tNil)) g tu D σ H := by
  obtain ⟨vs, h1, h2⟩ := l
  exact ⟨_, h, p, vs, rfl, SqL.of h1, k⟩
theorem q_forELv {D : Ends} {tu tz : TS} {g : TG} {xs : List α} {i : Nat} {p : Addr} (h : σ[i]? = some (some (.ref p))) (l : Lt R H p xs) (k : Fl (Ite K p) g tu { D with nx := tz D } σ H) : tSeq (tFor (iEnum K (tCons (tVar i) tNil)) g tu) tz D σ H := s_forELv (D := { D with nx := tz D }) h l k
end
end Dg

set_option maxRecDepth 100000
set_option maxHeartbeats 4000000
/-! Texts by their signs. -/
namespace Dg
open PySem PySem.Spec PyProof.Rows L2 Evl
open SX (S)
def rX : Rp (List Nat) := fun _ s v => v = .str (S s)
section
variable {α : Type} {K : PySem.W.Frag} {H : Hp} {σ : L2.St} {ta tb te : TE} {R : Rp α} {a b c : List Nat}
instance : Me rX := ⟨fun _ h => h⟩
instance : Mkt K rX := ⟨fun _ h => h⟩
theorem er_xv {i : Nat} (h : σ[i]? = some (some (.str (S a))) := by rfl) : Er rX (tVar i) σ H a := fun H1 _ _ q => ⟨_, h, q _ H1 (Ex.refl H1) rfl⟩
theorem er_xK : Er rX (tK (.str (S a))) σ H a := fun H1 _ _ q => q _ H1 (Ex.refl H1) rfl
theorem er_xc {k : Str} (a : List Nat) (h : k = S a := by decide) : Er rX (tC (.str k)) σ H a := fun H1 _ _ q => q _ H1 (Ex.refl H1) (by rw [h]; rfl)
theorem er_xs {k : Str} (h : Er rX te σ H a) (e : S a = k) : Er rS te σ H k := fun H1 e1 Q q => h H1 e1 Q fun v H2 e2 r => q v H2 e2 (by rw [← e]; exact r)
abbrev rCatS : R2 := fun x y H Q => ∃ i j, x = .str i ∧ y = .str j ∧ i.length + j.length ≤ sizeLine ∧ Q (.str (i ++ j)) H
theorem er_xadd (ha : Er rX ta σ H a) (hb : Er rX tb σ H b) (hl : a.length + b.length ≤ 1000000) : Er rX (tOp rCatS ta tb) σ H (a ++ b) := fun H1 e Q q =>
  ha H1 e _ fun v H2 e2 r1 => hb H2 (e.trans e2) _ fun w H3 e3 r2 => ⟨S a, S b, r1, r2, by rw [SX.S_len, SX.S_len]; exact sz1 hl, q _ H3 (e2.trans e3) (by rw [SX.S_cat]; rfl)⟩
/-- text * int -/
def rRepS : R2 := fun x y H Q => ∃ i k, x = .str i ∧ y = .int k ∧ -1000000 ≤ k ∧ k ≤ 1000 ∧ i.length ≤ 1000 ∧ Q (.str (S (repL i.cps.toList k))) H
end
theorem foldl_cat : ∀ (n : Nat) (x : Array Nat) (acc : Array Nat), (List.foldl (fun a b => a ++ b) acc (List.replicate n x)).toList = acc.toList ++ (List.replicate n x.toList).flatten
  | 0, x, acc => by simp
  | n + 1, x, acc => by
    rw [List.replicate_succ, List.foldl_cons, foldl_cat n x (acc ++ x), List.replicate_succ, List.flatten_cons, Array.toList_append, List.append_assoc]
theorem op_repS {X : Cx} : OpR X (binaryOp .Mult) rRepS := by
  intro pins s σ H x y v u Q I rx ry h
  obtain ⟨i, k, rfl, rfl, h0, h1, hz, q⟩ := h
  obtain ⟨t, rfl⟩ := rx
  obtain ⟨t', rfl⟩ := ry
  have hl : i.length = i.cps.toList.length := by simp [Str.length]
  refine PySem.P.mul_str ?_ (fun _ _ => ?_) (fun _ _ => ?_) ?_
  · rw [decide_eq_false (by omega), decide_eq_false (by omega)] <;> rfl
  · have : (1000 : Int) ≤ (2 ^ 63 - 1) / k := Int.le_ediv_of_mul_le (by omega) (by omega)
    omega
  · unfold Builtin.Str.tooLong
    refine decide_eq_false ?_
    have : i.length * k.toNat ≤ 1000 * 1000 := Nat.mul_le_mul hz (by omega)
    have e := sizeLine_eq
    omega
  · split
    · refine ⟨by decide, ⟨.str _, H, I.tok _, ⟨_, rfl⟩, ?_⟩⟩
      have : k.toNat = 0 := by omega
      unfold repL at q
      rw [this] at q
      exact q
    · split
      · rename_i hc
        rw [Bool.or_eq_true, beq_iff_eq, beq_iff_eq] at hc
        refine ⟨.str _, H, I, ⟨_, rfl⟩, ?_⟩
        have e : S (repL i.cps.toList k) = i := by
          refine TL.ext_tl ?_
          show repL i.cps.toList k = i.cps.toList
          unfold repL
          rcases hc with hc | hc
          · subst hc; simp
          · have : i.cps.toList = [] := List.eq_nil_of_length_eq_zero (by omega)
            rw [this]; simp
        rw [e] at q
        exact q
      · have e : (⟨(List.replicate k.toNat i.cps).foldl (· ++ ·) #[]⟩ : Str) = S (repL i.cps.toList k) := by
          refine TL.ext_tl ?_
          show (List.foldl (fun a b => a ++ b) #[] (List.replicate k.toNat i.cps)).toList = repL i.cps.toList k
          rw [foldl_cat]
          rfl
        rw [e]
        refine ⟨?_, ⟨.str _, H, I.tok _, ⟨_, rfl⟩, q⟩⟩
        rw [SX.S_len, repL_len]
        have : k.toNat * i.cps.toList.length ≤ 1000 * 1000 := Nat.mul_le_mul (by omega) (by omega)
        have e := sizeLine_eq
        omega
section
variable {α : Type} {K : PySem.W.Frag} {H : Hp} {σ : L2.St} {ta tb te : TE} {R : Rp α} {a b c : List Nat}
theorem er_xrep {k : Int} (ha : Er rX ta σ H a) (hb : Er rI tb σ H k) (h : -1000000 ≤ k ∧ k ≤ 1000) (hl : a.length ≤ 1000) : Er rX (tOp rRepS ta tb) σ H (repL a k) := fun H1 e Q q =>
  ha H1 e _ fun v H2 e2 r1 => hb H2 (e.trans e2) _ fun w H3 e3 r2 => ⟨S a, k, r1, r2, h.1, h.2, by rw [SX.S_len]; exact hl, q _ H3 (e2.trans e3) rfl⟩
theorem dec_S : decide (V.str (S a) = V.str (S b)) = decide (a = b) := decide_eq_decide.mpr ⟨fun z => SX.S_inj (V.str.inj z), fun z => by rw [z]⟩
theorem er_xeq (ha : Er rX ta σ H a) (hb : Er rX tb σ H b) : Er rB (tOp rEq ta tb) σ H (decide (a = b)) := fun H1 e Q q =>
  ha H1 e _ fun v H2 e2 r1 => hb H2 (e.trans e2) _ fun w H3 e3 r2 => by
    cases r1; cases r2
    exact ⟨rfl, q _ H3 (e2.trans e3) (by show V.bl _ = V.bl _; rw [dec_S])⟩
theorem er_xne (ha : Er rX ta σ H a) (hb : Er rX tb σ H b) : Er rB (tOp rNe ta tb) σ H (!decide (a = b)) := fun H1 e Q q =>
  ha H1 e _ fun v H2 e2 r1 => hb H2 (e.trans e2) _ fun w H3 e3 r2 => by
    cases r1; cases r2
    exact ⟨rfl, q _ H3 (e2.trans e3) (by show V.bl _ = V.bl _; rw [dec_S])⟩
abbrev rLenS : List V → Hp → VK → Prop := fun xs H Q => ∃ z, xs = [.str z] ∧ z.length ≤ sizeLine ∧ Q (.int z.length) H
theorem er_xlen (ha : Er rX ta σ H a) (hz : a.length ≤ 1000000) : Er rI (tCB rLenS (tCons ta tNil)) σ H (a.length : Int) := fun H1 e Q q =>
  ha H1 e _ fun v H2 e2 h => ⟨S a, by rw [h], by rw [SX.S_len]; exact sz1 hz, q _ H2 e2 (by rw [SX.S_len]; rfl)⟩
theorem er_xix {i : Int} {d : Nat} (ha : Er rX ta σ H a) (hb : Er rI tb σ H i) (h1 : -(a.length : Int) ≤ i) (h2 : i < a.length) (hz : a.length ≤ 1000000) (hd : a[ixs a.length i]? = some d) : Er rX (tOp rIxS ta tb) σ H [d] := fun H1 e Q q =>
  ha H1 e _ fun v H2 e2 r1 => hb H2 (e.trans e2) _ fun w H3 e3 r2 => by
    cases r1; cases r2
    refine ⟨S a, i, d, rfl, rfl, by rw [SX.S_len]; exact sz1 hz, ?_, q _ H3 (e2.trans e3) rfl⟩
    unfold atI
    show (ixN a.length i).bind _ = _
    rw [(ixN_ixs h1 h2).1]
    exact hd
theorem cutS_S (a : List Nat) (lo hi : Option Int) : cutS (S a) lo hi = S (cutL a lo hi) := rfl
theorem er_xsl {tl th : TO} {lo hi : Option Int} (h : Er rX te σ H a) (h1 : Eo tl σ H lo) (h2 : Eo th σ H hi) (hz : a.length ≤ 1000000) : Er rX (tSl rSlS te tl th) σ H (cutL a lo hi) := fun H1 e Q q =>
  h H1 e _ fun v H2 e2 r => h1 H2 (e.trans e2) _ fun H3 e3 => h2 H3 ((e.trans e2).trans e3) _ fun H4 e4 => ⟨S a, r, by rw [SX.S_len]; exact sz1 hz, q _ H4 ((e2.trans e3).trans e4) (by rw [cutS_S]; rfl)⟩
/-- part of a text -/
def subX (a b : List Nat) : Bool := !(Builtin.Str.occurrences (S b) (S a) 0 (S b).length 1).isEmpty
theorem subX_one (b : List Nat) (c : Nat) : subX [c] b = decide (c ∈ b) := SX.in_one b c
abbrev rInS : R2 := fun x y H Q => ∃ i j, x = .str i ∧ y = .str j ∧ Q (.bl (!(Builtin.Str.occurrences j i 0 j.length 1).isEmpty)) H
theorem er_xin (ha : Er rX ta σ H a) (hb : Er rX tb σ H b) : Er rB (tOp rInS ta tb) σ H (subX a b) := fun H1 e Q q =>
  ha H1 e _ fun v H2 e2 r1 => hb H2 (e.trans e2) _ fun w H3 e3 r2 => ⟨S a, S b, r1, r2, q _ H3 (e2.trans e3) rfl⟩
theorem pX : ∀ {xs : List (List Nat)} {vs : List V}, Paired (rX H) xs vs → vs = (xs.map S).map V.str
  | [], _, .nil => rfl
  | x :: xs, _, .cons r t => by
    have e : _ = V.str (S x) := r
    rw [e, pX t]
    rfl
theorem pX' : ∀ (xs : List (List Nat)), Paired (rX H) xs ((xs.map S).map V.str)
  | [] => .nil
  | _ :: xs => .cons rfl (pX' xs)
abbrev rJoinS (K : PySem.W.Frag) : V → List V → Hp → VK → Prop := fun x xs H Q => ∃ a p, ∃ ys : List Str, x = .str a ∧ xs = [.ref p] ∧ (SqL K H p (ys.map V.str) ∨ SqT K H p (ys.map V.str)) ∧
      (ys.map (·.length)).sum + ys.length * a.length ≤ 16777216 ∧ Q (.str (Txt.join a ys)) H
theorem lensS (ys : List (List Nat)) : ((ys.map S).map (·.length)).sum = (ys.map List.length).sum := by
  rw [List.map_map]
  congr 1
theorem er_xjoin {ys : List (List Nat)} (ha : Er rX ta σ H a) (hb : Er (rL K rX) tb σ H ys) (hz : (ys.map List.length).sum + ys.length * a.length ≤ 1000000) : Er rX (tM1 (rJoinS K) ta tb) σ H (TL.joinL a ys) := fun H1 e Q q =>
  ha H1 e _ fun v H2 e2 r1 => ⟨⟨_, r1⟩, hb H2 (e.trans e2) _ fun w H3 e3 ⟨p, vs, r2, h1, h2⟩ => by
    have e4 := pX h2
    subst e4
    exact ⟨S a, p, ys.map S, r1, by rw [r2], .inl h1, by rw [lensS, List.length_map, SX.S_len]; omega, q _ H3 (e2.trans e3) (by rw [SX.join_S]; rfl)⟩⟩
abbrev rSplitS : V → List V → Hp → VK → Prop := fun x xs H Q => ∃ a b, x = .str a ∧ xs = [.str b] ∧ (b.length == 0) = false ∧ a.length + 2 ≤ sizeLine ∧ rNewStrs (Txt.split a b) H Q
theorem el_xsplit (ha : Er rX ta σ H a) (hb : Er rX tb σ H b) (hz : a.length ≤ 999990) (hn : b ≠ []) (hk : b.all (· < 256) = true) : El rX (tM1 rSplitS ta tb) σ H (TL.spl b 0 [] a) := fun H1 e Q q =>
  ha H1 e _ fun v H2 e2 r1 => ⟨⟨_, r1⟩, hb H2 (e.trans e2) _ fun w H3 e3 r2 => by
    refine ⟨S a, S b, r1, by rw [show w = _ from r2], ?_, ?_, ?_⟩
    · rw [SX.S_len]
      cases b with
      | nil => exact absurd rfl hn
      | cons x r => rfl
    · rw [SX.S_len]
      exact sz1 (by omega)
    · rw [SX.split_S hn hk]
      exact fun p np => q p _ (fresh_back (e2.trans e3) np) ((e2.trans e3).trans (Ex.new np)) ⟨_, upd_same, pX' _⟩⟩
abbrev rIntS : List V → Hp → VK → Prop := fun xs H Q => ∃ a n, xs = [.str a] ∧ PySem.intText? a = some n ∧ a.length ≤ 640 ∧ Q (.int n) H
theorem er_xint {n : Int} (ha : Er rX ta σ H a) (h : PySem.intText? (S a) = some n) (hl : a.length ≤ 640) : Er rI (tCB rIntS (tCons ta tNil)) σ H n := fun H1 e Q q =>
  ha H1 e _ fun v H2 e2 r => ⟨S a, n, by rw [show v = _ from r], h, by rw [SX.S_len]; exact hl, q _ H2 e2 rfl⟩
abbrev rStrI : List V → Hp → VK → Prop := fun xs H Q => ∃ i : Int, xs = [.int i] ∧ i.natAbs.log2 < 1920 ∧ Q (.str (toString i)) H
theorem er_xstr {i : Int} (ha : Er rI ta σ H i) (h : 0 ≤ i ∧ i < 1000000) : Er rX (tCB rStrI (tCons ta tNil)) σ H (TL.numL i.toNat) := fun H1 e Q q =>
  ha H1 e _ fun v H2 e2 r => ⟨i, by rw [show v = _ from r], by
    have h1 : i.natAbs.log2 ≤ i.natAbs := Nat.log2_le_self _
    have h2 : i.natAbs < 2 ^ 20 := by omega
    have h3 : i.natAbs.log2 < 20 := by
      by_cases z : i.natAbs = 0
      · rw [z]; decide
      · exact (Nat.log2_lt z).mpr h2
    omega, q _ H2 e2 (by
    obtain ⟨n, rfl⟩ : ∃ n : Nat, i = n := ⟨i.toNat, by omega⟩
    show V.str _ = V.str (S (TL.numL n))
    rw [← SX.num_S])⟩
variable {Q : VK} {D : Ends} {tz : TS} {j : Nat}
def gtX (a : List Nat) (i : Int) : Nat := (a[ixs a.length i]?).getD 0
theorem er_xix0 {i : Int} (ha : Er rX ta σ H a) (hb : Er rI tb σ H i) (h1 : -(a.length : Int) ≤ i) (h2 : i < a.length) (hz : a.length ≤ 1000000) : Er rX (tOp rIxS ta tb) σ H [gtX a i] :=
  er_xix ha hb h1 h2 hz (by unfold gtX; rw [List.getElem?_eq_getElem (ixN_ixs h1 h2).2]; rfl)
theorem go_X (h : Er rX te σ H a) (k : ∀ H1, Ex H H1 → Q (.str (S a)) H1) : te σ H Q := h H (Ex.refl H) _ fun v H1 e r => by cases r; exact k H1 e
theorem s_asgX (h : Er rX te σ H a) (k : ∀ H1, Ex H H1 → D.nx (σ.set j (some (.str (S a)))) H1) : tAsg te (gName j) D σ H := h H (Ex.refl H) _ fun v H1 e r => by cases r; exact k H1 e
theorem q_asgX (h : Er rX te σ H a) (k : ∀ H1, Ex H H1 → tz D (σ.set j (some (.str (S a)))) H1) : tSeq (tAsg te (gName j)) tz D σ H := s_asgX (D := { D with nx := tz D }) h k
theorem er_isX (h : Er rX te σ H a) : Er rB (tCB (rIsi K) (tCons te (tCons (tC (.ty "str")) tNil))) σ H true := fun H1 e Q q =>
  h H1 e _ fun v H2 e2 r => by
    cases r
    exact ⟨_, _, _, _, true, rfl, .ty "str", .base (.str _), kit_ty (show kitB "str" "str" = some true by decide +kernel), q _ H2 e2 rfl⟩
end
/-! ### written things by their names -/
def Cg (mg : Str → Option Value) (x : Str) (v : V) : Prop := ∃ u, mg x = some u ∧ RelV v u
theorem er_cn {K : PySem.W.Frag} {mg : Str → Option Value} {x : Str} {xs : List Int} {σ : L2.St} {H : Hp} (c : Cn K mg x (xs.map V.int)) : Er (rT K rI) (tC (.ref c.a)) σ H xs := fun H1 _ _ q => q _ H1 (Ex.refl H1) ⟨c.a, _, rfl, c.s H1, pI' xs⟩
section
variable {α β ι : Type} {K : PySem.W.Frag} {H : Hp} {σ : L2.St} {ta tb te tl : TE} {tt : TT} {R : Rp α} {Ri : Rp β} {vs : List Nat} {j : Nat} {D : Ends} {tu tz : TS}
theorem el_lcLX [Me R] [Mkt K R] {xs : List (List Nat)} {f : List Nat → α} (h : Er (rL K rX) tl σ H xs) (hb : xs.length < 1000000) (hw : ∀ x, wipe ((wipe σ vs).set j (some x)) vs = wipe σ vs)
    (he : ∀ x H1, Ex H H1 → x ∈ xs → Er R te ((wipe σ vs).set j (some (.str (S x)))) H1 (f x)) : El R (tLc (iList K tl) (gName j) tYes te vs) σ H (xs.map f) :=
  el_lcL h hb hw fun x v H1 e hx r => by cases r; exact he x H1 e hx
theorem el_lcTX [Me R] [Mkt K R] {xs : List (List Nat)} {f : List Nat → α} (h : Er (rT K rX) tl σ H xs) (hb : xs.length < 1000000) (hw : ∀ x, wipe ((wipe σ vs).set j (some x)) vs = wipe σ vs)
    (he : ∀ x H1, Ex H H1 → x ∈ xs → Er R te ((wipe σ vs).set j (some (.str (S x)))) H1 (f x)) : El R (tLc (iTup K tl) (gName j) tYes te vs) σ H (xs.map f) :=
  el_lcT h hb hw fun x v H1 e hx r => by cases r; exact he x H1 e hx
theorem el_lcLXc [Me R] [Mkt K R] {xs : List (List Nat)} {c : List Nat → Bool} {f : List Nat → α} (h : Er (rL K rX) tl σ H xs) (hb : xs.length < 1000000) (hw : ∀ x, wipe ((wipe σ vs).set j (some x)) vs = wipe σ vs)
    (ht : ∀ x H1, Ex H H1 → x ∈ xs → Et tt ((wipe σ vs).set j (some (.str (S x)))) H1 (c x)) (he : ∀ x H1, Ex H H1 → x ∈ xs → c x = true → Er R te ((wipe σ vs).set j (some (.str (S x)))) H1 (f x)) : El R (tLc (iList K tl) (gName j) tt te vs) σ H ((xs.filter c).map f) :=
  el_lcLc h hb hw (fun x v H1 e hx r => by cases r; exact ht x H1 e hx) fun x v H1 e hx r hc => by cases r; exact he x H1 e hx hc
theorem el_lcTXc [Me R] [Mkt K R] {xs : List (List Nat)} {c : List Nat → Bool} {f : List Nat → α} (h : Er (rT K rX) tl σ H xs) (hb : xs.length < 1000000) (hw : ∀ x, wipe ((wipe σ vs).set j (some x)) vs = wipe σ vs)
    (ht : ∀ x H1, Ex H H1 → x ∈ xs → Et tt ((wipe σ vs).set j (some (.str (S x)))) H1 (c x)) (he : ∀ x H1, Ex H H1 → x ∈ xs → c x = true → Er R te ((wipe σ vs).set j (some (.str (S x)))) H1 (f x)) : El R (tLc (iTup K tl) (gName j) tt te vs) σ H ((xs.filter c).map f) :=
  el_lcTc h hb hw (fun x v H1 e hx r => by cases r; exact ht x H1 e hx) fun x v H1 e hx r hc => by cases r; exact he x H1 e hx hc
theorem fl_TX {xs : List (List Nat)} {v : V} (r : rT K rX H xs v) (Pv : Nat → L2.St → Hp → Prop) (h0 : Pv 0 σ H) (hG : ∀ i σ H', i ≤ xs.length → Pv i σ H' → rT K rX H' xs v)
    (hs : ∀ i x σ H', i < xs.length → xs[i]? = some x → Pv i σ H' → tu { D with nx := Pv (i + 1), ct := Pv (i + 1), bk := D.nx } (σ.set j (some (.str (S x)))) H') (hd : ∀ σ H', Pv xs.length σ H' → D.nx σ H') :
    ∀ a, v = .ref a → Fl (Itt K a) (gName j) tu D σ H := fl_T r Pv h0 hG (fun i x u σ H' hi hx p r => by cases r; exact hs i x σ H' hi hx p) hd
theorem fl_LX {xs : List (List Nat)} {v : V} (r : rL K rX H xs v) (Pv : Nat → L2.St → Hp → Prop) (h0 : Pv 0 σ H) (hG : ∀ i σ H', i ≤ xs.length → Pv i σ H' → rL K rX H' xs v)
    (hs : ∀ i x σ H', i < xs.length → xs[i]? = some x → Pv i σ H' → tu { D with nx := Pv (i + 1), ct := Pv (i + 1), bk := D.nx } (σ.set j (some (.str (S x)))) H') (hd : ∀ σ H', Pv xs.length σ H' → D.nx σ H') :
    ∀ a, v = .ref a → Fl (Itl K a) (gName j) tu D σ H := fl_L r Pv h0 hG (fun i x u σ H' hi hx p r => by cases r; exact hs i x σ H' hi hx p) hd
theorem fq_TX {xs : List (List Nat)} {v : V} (r : rT K rX H xs v) (Pv : Nat → L2.St → Hp → Prop) (h0 : Pv 0 σ H) (hG : ∀ i σ H', i ≤ xs.length → Pv i σ H' → rT K rX H' xs v)
    (hs : ∀ i x σ H', i < xs.length → xs[i]? = some x → Pv i σ H' → tu { nx := Pv (i + 1), rt := D.rt, bk := tz D, ct := Pv (i + 1) } (σ.set j (some (.str (S x)))) H') (hd : ∀ σ H', Pv xs.length σ H' → tz D σ H') :
    ∀ a, v = .ref a → Fl (Itt K a) (gName j) tu { D with nx := tz D } σ H := fl_TX (D := { D with nx := tz D }) r Pv h0 hG hs hd
theorem fq_LX {xs : List (List Nat)} {v : V} (r : rL K rX H xs v) (Pv : Nat → L2.St → Hp → Prop) (h0 : Pv 0 σ H) (hG : ∀ i σ H', i ≤ xs.length → Pv i σ H' → rL K rX H' xs v)
    (hs : ∀ i x σ H', i < xs.length → xs[i]? = some x → Pv i σ H' → tu { nx := Pv (i + 1), rt := D.rt, bk := tz D, ct := Pv (i + 1) } (σ.set j (some (.str (S x)))) H') (hd : ∀ σ H', Pv xs.length σ H' → tz D σ H') :
    ∀ a, v = .ref a → Fl (Itl K a) (gName j) tu { D with nx := tz D } σ H := fl_LX (D := { D with nx := tz D }) r Pv h0 hG hs hd
end
section
variable {K : PySem.W.Frag} {H : Hp} {σ : L2.St} {ta tb te : TE}
theorem pB : ∀ {xs : List Bool} {vs : List V}, Paired (rB H) xs vs → vs = xs.map V.bl
  | [], _, .nil => rfl
  | x :: xs, _, .cons r t => by
    have e : _ = V.bl x := r
    rw [e, pB t]
    rfl
theorem er_any {xs : List Bool} (ha : Er (rL K rB) ta σ H xs) : Er rB (tCB (rAny K) (tCons ta tNil)) σ H (xs.any id) := fun H1 e Q q =>
  ha H1 e _ fun v H2 e2 ⟨a, vs, h1, hs, hp⟩ => by
    have e4 := pB hp
    subst e4
    exact ⟨a, xs, by rw [h1], hs, q _ H2 e2 rfl⟩
theorem er_all {xs : List Bool} (ha : Er (rL K rB) ta σ H xs) : Er rB (tCB (rAll K) (tCons ta tNil)) σ H (xs.all id) := fun H1 e Q q =>
  ha H1 e _ fun v H2 e2 ⟨a, vs, h1, hs, hp⟩ => by
    have e4 := pB hp
    subst e4
    exact ⟨a, xs, by rw [h1], hs, q _ H2 e2 rfl⟩
theorem er_sum {xs : List Int} (ha : Er (rL K rI) ta σ H xs) : Er rI (tCB (rSum K) (tCons ta tNil)) σ H xs.sum := fun H1 e Q q =>
  ha H1 e _ fun v H2 e2 ⟨a, vs, h1, hs, hp⟩ => by
    have e4 := pI hp
    subst e4
    exact ⟨a, xs, by rw [h1], hs, q _ H2 e2 rfl⟩
end
section
variable {X : Cx}
theorem cr_anyK (K : PySem.W.Frag) (hc : X.calm = true) (h : X.K = K := by rfl) : CallR X (.builtin "any") (rAny K) := by subst h; exact cr_any hc
theorem cr_allK (K : PySem.W.Frag) (hc : X.calm = true) (h : X.K = K := by rfl) : CallR X (.builtin "all") (rAll K) := by subst h; exact cr_all hc
end
end Dg


namespace Dg
open PySem PySem.Spec PyProof.Rows L2 Evl
open SX (S)
def topS (i : Nat) : Stmt := PySem.Challenge.pw_digitroots_k51_texts_written.main.body.getD i (.Pass ⟨0, 0, 0, 0⟩)
abbrev s_is_whole : Stmt := topS 6
abbrev s_is_prime : Stmt := topS 7
abbrev s_look_prime : Stmt := topS 8
abbrev s_show_poly : Stmt := topS 14
abbrev s_show_two : Stmt := topS 15
abbrev s_poly_in : Stmt := topS 16
abbrev s_two_in : Stmt := topS 17
abbrev s_read_poly : Stmt := topS 18
abbrev s_read_two : Stmt := topS 19
abbrev s__law_bag : Stmt := topS 21
abbrev s__law_take : Stmt := topS 22
abbrev s__law_numbers : Stmt := topS 23
abbrev s__law_trimmed : Stmt := topS 24
abbrev s__law_poly : Stmt := topS 25
abbrev s__law_two : Stmt := topS 26
abbrev s__law_written : Stmt := topS 27
abbrev s__law_two_written : Stmt := topS 28
abbrev s_law : Stmt := topS 29
theorem sc_is_whole : FnScope ["thing"] ["thing"] (defScope s_is_whole) := ⟨rfl, rfl, rfl, by decide +kernel, rfl, by decide +kernel, by decide +kernel⟩
theorem sc_is_prime : FnScope ["thing"] ["thing"] (defScope s_is_prime) := ⟨rfl, rfl, rfl, by decide +kernel, rfl, by decide +kernel, by decide +kernel⟩
theorem sc_look_prime : FnScope ["p"] ["p"] (defScope s_look_prime) := ⟨rfl, rfl, rfl, by decide +kernel, rfl, by decide +kernel, by decide +kernel⟩
theorem sc_show_poly : FnScope ["poly", "number"] ["poly"] (defScope s_show_poly) := ⟨rfl, rfl, rfl, by decide +kernel, rfl, by decide +kernel, by decide +kernel⟩
theorem sc_show_two : FnScope ["two", "poly"] ["two"] (defScope s_show_two) := ⟨rfl, rfl, rfl, by decide +kernel, rfl, by decide +kernel, by decide +kernel⟩
theorem sc_poly_in : FnScope ["p", "text", "most", "words", "word"] ["p", "text", "most"] (defScope s_poly_in) := ⟨rfl, rfl, rfl, by decide +kernel, rfl, by decide +kernel, by decide +kernel⟩
theorem sc_two_in : FnScope ["p", "text", "most", "texts", "one"] ["p", "text", "most"] (defScope s_two_in) := ⟨rfl, rfl, rfl, by decide +kernel, rfl, by decide +kernel, by decide +kernel⟩
theorem sc_read_poly : FnScope ["p", "thing"] ["p", "thing"] (defScope s_read_poly) := ⟨rfl, rfl, rfl, by decide +kernel, rfl, by decide +kernel, by decide +kernel⟩
theorem sc_read_two : FnScope ["p", "thing"] ["p", "thing"] (defScope s_read_two) := ⟨rfl, rfl, rfl, by decide +kernel, rfl, by decide +kernel, by decide +kernel⟩
theorem sc__law_bag : FnScope ["_law_script", "_law_at", "_law_cell", "_law_prime"] ["_law_script", "_law_at"] (defScope s__law_bag) := ⟨rfl, rfl, rfl, by decide +kernel, rfl, by decide +kernel, by decide +kernel⟩
theorem sc__law_take : FnScope ["_law_bag_here", "_law_many", "_law_digit"] ["_law_bag_here", "_law_many"] (defScope s__law_take) := ⟨rfl, rfl, rfl, by decide +kernel, rfl, by decide +kernel, by decide +kernel⟩
theorem sc__law_numbers : FnScope ["_law_bag_here", "_law_p", "_law_many", "_law_k"] ["_law_bag_here", "_law_p", "_law_many"] (defScope s__law_numbers) := ⟨rfl, rfl, rfl, by decide +kernel, rfl, by decide +kernel, by decide +kernel⟩
theorem sc__law_trimmed : FnScope ["_law_numbers_here", "_law_many", "_law_k"] ["_law_numbers_here"] (defScope s__law_trimmed) := ⟨rfl, rfl, rfl, by decide +kernel, rfl, by decide +kernel, by decide +kernel⟩
theorem sc__law_poly : FnScope ["_law_bag_here", "_law_p", "_law_most"] ["_law_bag_here", "_law_p", "_law_most"] (defScope s__law_poly) := ⟨rfl, rfl, rfl, by decide +kernel, rfl, by decide +kernel, by decide +kernel⟩
theorem sc__law_two : FnScope ["_law_bag_here", "_law_p", "_law_polys", "_law_many", "_law_turn", "_law_j"] ["_law_bag_here", "_law_p"] (defScope s__law_two) := ⟨rfl, rfl, rfl, by decide +kernel, rfl, by decide +kernel, by decide +kernel⟩
theorem sc__law_written : FnScope ["_law_poly_here", "_law_text", "_law_number"] ["_law_poly_here"] (defScope s__law_written) := ⟨rfl, rfl, rfl, by decide +kernel, rfl, by decide +kernel, by decide +kernel⟩
theorem sc__law_two_written : FnScope ["_law_two_here", "_law_text", "_law_place", "_law_poly_here"] ["_law_two_here"] (defScope s__law_two_written) := ⟨rfl, rfl, rfl, by decide +kernel, rfl, by decide +kernel, by decide +kernel⟩
theorem sc_law : FnScope ["_law_script", "_law_k", "_law_bag_here", "_law_p", "_law_polys", "_law_twos", "_law_turn", "_law_poly_here", "_law_text", "_law_q", "_law_two_here", "_law_one"] ["_law_script"] (defScope s_law) := ⟨rfl, rfl, rfl, by decide +kernel, rfl, by decide +kernel, by decide +kernel⟩
def P3 (p : Nat) : Prop := p = 2 ∨ p = 3 ∨ p = 5
theorem P3.pos {p : Nat} (h : P3 p) : 0 < p := by rcases h with rfl | rfl | rfl <;> decide
theorem P3.two {p : Nat} (h : P3 p) : 2 ≤ p := by rcases h with rfl | rfl | rfl <;> decide
section
variable {P : Program} {w : World} {K : PySem.W.Frag} {mg : Str → Option Value} {base : Heap}
/-! ### is_whole, is_prime, look_prime -/
def sp_is_whole (K : PySem.W.Frag) : Sp := fun vs H Q _ => ∃ x : V, vs = [x] ∧ Th K H x ∧ ∀ H', Ex H H' → Q (.bl (isW x)) H'
theorem ok_is_whole {f : Addr} {fd : FuncData} (F : Fun K "is_whole" "is_whole" s_is_whole f fd) (n_isinstance : mg "isinstance" = none) (n_int : mg "int" = none) (n_bool : mg "bool" = none) : FnOk P w K mg base CX0 1 f fd ["thing"] (sp_is_whole K) := by
  refine F.ok sc_is_whole (fun vs H Q E h => ?_) (fun cdv A outer s H vs Q E hr h => ?_)
  · obtain ⟨x, rfl, _⟩ := h; rfl
  · obtain ⟨x, rfl, th, q⟩ := h
    obtain ⟨t, ty, k1, k2⟩ := th.ty
    refine ⟨_, pss_one (ps_ret (pe_and (pe_callB call_isi (by rfl) n_isinstance (by decide +kernel) (pa_cons (pv 0) (pa_cons (pe_bltn (v := .ty "int") (by rfl) n_int (by decide +kernel) rfl) pa_nil)))
      (pe_one (pe_not (pe_callB call_isi (by rfl) n_isinstance (by decide +kernel) (pa_cons (pv 0) (pa_cons (pe_bltn (v := .ty "bool") (by rfl) n_bool (by decide +kernel) rfl) pa_nil))))))), ?_⟩
    refine ⟨x, rfl, x, .ty "int", _, _, _, rfl, .ty "int", ty, kit_ty k1, _, rfl, ite2 (fun h1 => ?_) (fun h1 => ?_)⟩
    · refine ⟨x, rfl, x, .ty "bool", _, _, _, rfl, .ty "bool", ty, kit_ty k2, _, rfl, ?_⟩
      have e := isW_eq x
      rw [h1, Bool.true_and] at e
      rw [← e]
      exact q H (Ex.refl H)
    · have e := isW_eq x
      rw [Bool.eq_false_iff.mpr h1, Bool.false_and] at e
      have z := q H (Ex.refl H)
      rw [e] at z
      exact z
def sp_is_prime (K : PySem.W.Frag) : Sp := fun vs H Q _ => ∃ x : V, vs = [x] ∧ Th K H x ∧ ∀ H', Ex H H' → Q (.bl (isPr x)) H'
theorem ok_is_prime {f : Addr} {fd : FuncData} (F : Fun K "is_prime" "is_prime" s_is_prime f fd) (D_is_whole : Df P w K mg base CX0 1 "is_whole" ["thing"] (sp_is_whole K)) (c_PRIMES : Cn K mg "PRIMES" [.int 2, .int 3, .int 5]) : FnOk P w K mg base CX0 2 f fd ["thing"] (sp_is_prime K) := by
  refine F.ok sc_is_prime (fun vs H Q E h => ?_) (fun cdv A outer s H vs Q E hr h => ?_)
  · obtain ⟨x, rfl, _⟩ := h; rfl
  · obtain ⟨x, rfl, th, q⟩ := h
    refine ⟨_, pss_one (ps_ret (pe_and (pe_call D_is_whole.ok hr (by rfl) D_is_whole.g D_is_whole.kp D_is_whole.b .nil pass0 (pa_cons (pv 0) pa_nil))
      (pe_one (pe_cmpR op_in_seq (pv 0) (pe_glob (v := .ref c_PRIMES.a) (by rfl) c_PRIMES.g rfl) (by rfl))))), ?_⟩
    refine ⟨x, rfl, x, rfl, th, fun H1 e1 => ⟨_, rfl, ite2 (fun h1 => ?_) (fun h1 => ?_)⟩⟩
    · cases x <;> first | cases h1 | skip
      rename_i i
      refine ⟨.int i, rfl, c_PRIMES.a, _, rfl, .inr (c_PRIMES.s H1), rfl, rfl, ?_⟩
      have z := q H1 e1
      have e : inV (.int i) [.int 2, .int 3, .int 5] = isPr (.int i) := by
        show ((2 : Int) == i || ((3 : Int) == i || ((5 : Int) == i || false))) = decide (Pr i)
        rw [Bool.eq_iff_iff]
        simp only [Bool.or_eq_true, beq_iff_eq, Bool.false_eq_true, or_false, decide_eq_true_eq]
        exact ⟨fun h => by rcases h with h | h | h <;> simp [Pr, ← h], fun h => by rcases h with h | h | h <;> simp [h]⟩
      show Q (.bl (inV (.int i) [.int 2, .int 3, .int 5])) H1
      rw [e]
      exact z
    · have z := q H1 e1
      rw [isPr_W (Bool.eq_false_iff.mpr h1)] at z
      exact z
theorem gv_is_prime {p : Int} : Gv (sp_is_prime K) (Ac rI p A0) rB (isPr (.int p)) := by
  intro vs H1 hp Q E q
  obtain ⟨v0, w0, rfl, f0, hp⟩ := hp
  cases f0
  cases hp
  exact ⟨.int p, rfl, .int p, fun H2 e => q _ H2 e rfl⟩
end
section
variable {P : Program} {w : World} {K : PySem.W.Frag} {mg : Str → Option Value} {base : Heap}
/-! ### the law's bag -/
def sp__law_bag (K : PySem.W.Frag) : Sp := fun vs H Q _ => ∃ (a : Addr) (ns : List Int) (k : Int), vs = [.ref a, .int k] ∧ SqL K H a (ns.map V.int) ∧ 0 ≤ k ∧ k < 1000 ∧ ∀ p H', H p = none → Ex H H' → Bag H' p → Q (.ref p) H'
theorem ok__law_bag {f : Addr} {fd : FuncData} (F : Fun K "_law_bag" "_law_bag" s__law_bag f fd) (n_len : mg "len" = none) (n_abs : mg "abs" = none) (n_int : mg "int" = none) : FnOk P w K mg base CX0 1 f fd ["_law_script", "_law_at"] (sp__law_bag K) := by
  refine F.ok sc__law_bag (fun vs H Q E h => ?_) (fun cdv A outer s H vs Q E hr h => ?_)
  · obtain ⟨a, ns, k, rfl, _⟩ := h; rfl
  · obtain ⟨a, ns, k, rfl, hS, hk0, hk1, q⟩ := h
    refine ⟨_, (pss_cons (ps_set (i := 2) sc__law_bag.nd rfl (Or.inl rfl) pe_int)
 (Evl.pss_cut (ps_if (pt_cmpR op_lt (pv 1) (pe_callB call_len_seq (by rfl) n_len (by decide +kernel) (pa_cons (pv 0) pa_nil)) (nomark _)) (pss_one (ps_set (i := 2) sc__law_bag.nd rfl (Or.inl rfl) (pe_callB call_abs (by rfl) n_abs (by decide +kernel) (pa_cons (pe_ix ix_list (pv 0) (pv 1) (fun _ _ => rfl)) pa_nil)))) pss_nil)
 (pss_cons (ps_set (i := 3) sc__law_bag.nd rfl (Or.inl rfl) (pe_ix ix_list (pe_lst (pa_cons pe_int (pa_cons pe_int (pa_cons pe_int (pa_cons pe_int (pa_cons pe_int (pa_cons pe_int (pa_cons pe_int (pa_cons pe_int pa_nil))))))))) (pe_op op_mod (pv 1) pe_int) (fun _ _ => rfl)))
 (pss_one (ps_ret (pe_lst (pa_cons (pe_op op_mul (pv 2) (pe_callTy call_int1 (by rfl) n_int (by decide +kernel) (pa_cons (pe_cmpR op_ge (pv 2) (pe_op op_pow pe_int pe_int) (nomark _)) pa_nil))) (pa_cons (pe_op op_mod (pe_op op_pow (pe_op op_add (pe_op op_add (pe_op op_mod (pv 2) pe_int) (pe_op op_mul pe_int (pv 1))) pe_int) pe_int) (pv 3)) (pa_cons (pv 3) (pa_cons pe_int pa_nil)))))))))), ?_⟩
    refine s_asgI er_int fun H1 e1 => ?_
    have hL : rL K rI H1 ns (.ref a) := Me.ex e1 (rl_of hS)
    refine ⟨fun σ' H' => ∃ cell : Int, 0 ≤ cell ∧ σ' = [some (.ref a), some (.int k), some (.int cell), none] ∧ Ex H H', ?_, ?_⟩
    · refine s_if (et_t (er_cmp er_iv (er_lenL (er_var rfl hL)))) (fun hb H2 e2 => ?_) (fun hb H2 e2 => ?_)
      · have hb' := of_decide_eq_true hb
        exact s_asgI (er_abs (er_ixL0 (0 : Int) (er_var rfl (Me.ex e2 hL)) er_iv (by omega) hb')) fun H3 e3 => ⟨_, by split <;> omega, rfl, (e1.trans e2).trans e3⟩
      · exact ⟨0, by omega, rfl, e1.trans e2⟩
    · rintro _ H2 ⟨cell, hc, rfl, F0⟩
      have hk8 : 0 ≤ k % 8 ∧ k % 8 < 8 := by omega
      refine s_asgI (er_ixL0 (0 : Int) (El.er (el_lst (R := rI) (eas er_int (eas er_int (eas er_int (eas er_int (eas er_int (eas er_int (eas er_int (eas er_int eas0)))))))) (by decide))) (er_op er_iv er_int (by decide)) (by show -(8 : Int) ≤ k % 8; omega) (by show k % 8 < (8 : Int); omega)) fun H3 e3 => ?_
      have hpr : 0 < gt0 (0 : Int) [2147483629, 2147483587, 2147483579, 2147483563, 2147483549, 2147483543, 2147483497, 2147483489] (k % 8) ∧ gt0 (0 : Int) [2147483629, 2147483587, 2147483579, 2147483563, 2147483549, 2147483543, 2147483497, 2147483489] (k % 8) < 4294967296 := by
        have hh : k % 8 = 0 ∨ k % 8 = 1 ∨ k % 8 = 2 ∨ k % 8 = 3 ∨ k % 8 = 4 ∨ k % 8 = 5 ∨ k % 8 = 6 ∨ k % 8 = 7 := by omega
        rcases hh with hh | hh | hh | hh | hh | hh | hh | hh <;> rw [hh] <;> decide
      generalize gt0 (0 : Int) [2147483629, 2147483587, 2147483579, 2147483563, 2147483549, 2147483543, 2147483497, 2147483489] (k % 8) = pr at hpr ⊢
      have hx : 0 ≤ cell % 2147483647 ∧ cell % 2147483647 < 2147483647 := by omega
      have hm := Int.emod_nonneg ((cell % 2147483647 + 104729 * k + 7) ^ (5 : Int).toNat) (show pr ≠ 0 by omega)
      have hm2 := Int.emod_lt_of_pos ((cell % 2147483647 + 104729 * k + 7) ^ (5 : Int).toNat) hpr.1
      refine go_L (el_lst (R := rI) (eas (er_op (C := CMul) er_iv (er_intB (er_cmp er_iv (er_op (C := CPow) er_int er_int ⟨by decide, by decide, by decide⟩))) (cmul_r (by split <;> omega)))
        (eas (er_op (er_op (C := CPow) (er_op0 (er_op0 (er_op er_iv er_int (by decide)) (er_op (C := CMul) er_int er_iv (cmul_l (by decide)))) er_int) er_int ⟨by decide, by decide, by omega⟩) er_iv (by omega)) (eas er_iv (eas er_int eas0)))) (by simp)) fun p H4 n4 e4 l4 => ?_
      refine q p H4 (fresh_back (F0.trans e3) n4) ((F0.trans e3).trans e4) ⟨_, _, _, _, l4, ?_, hm, by omega, hpr.1, hpr.2⟩
      split <;> simp <;> omega
def sp__law_take (K : PySem.W.Frag) : Sp := fun vs H Q _ => ∃ (b : Addr) (m : Int), vs = [.ref b, .int m] ∧ Bag H b ∧ 0 < m ∧ m < 1000000 ∧ ∀ (r : Int) H', C1 b H H' → Bag H' b → 0 ≤ r ∧ r < m → Q (.int r) H'
theorem ok__law_take {f : Addr} {fd : FuncData} (F : Fun K "_law_take" "_law_take" s__law_take f fd) : FnOk P w K mg base CX0 1 f fd ["_law_bag_here", "_law_many"] (sp__law_take K) := by
  refine F.ok sc__law_take (fun vs H Q E h => ?_) (fun cdv A outer s H vs Q E hr h => ?_)
  · obtain ⟨b, m, rfl, _⟩ := h; rfl
  · obtain ⟨b, m, rfl, ⟨b0, b1, pr, c, hB, h0, h1, h2, h3, h4⟩, hm0, hm1, q⟩ := h
    refine ⟨_, (pss_cons (ps_if (pt_cmpR op_gt (pe_ix ix_list (pv 0) pe_int (fun _ _ => rfl)) pe_int (nomark _)) (pss_cons (ps_set (i := 2) sc__law_take.nd rfl (Or.inl rfl) (pe_op op_mod (pe_ix ix_list (pv 0) pe_int (fun _ _ => rfl)) (pv 1)))
 (pss_cons (ps_asg (pe_op op_fdiv (pe_ix ix_list (pv 0) pe_int (fun _ _ => rfl)) (pv 1)) (pg_sub (pv 0) pe_int set_list))
 (pss_one (ps_ret (pv 2))))) pss_nil)
 (pss_cons (ps_asg (pe_op op_add (pe_ix ix_list (pv 0) pe_int (fun _ _ => rfl)) pe_int) (pg_sub (pv 0) pe_int set_list))
 (pss_cons (ps_asg (pe_op op_mod (pe_op op_add (pe_op op_add (pe_op op_mul (pe_ix ix_list (pv 0) pe_int (fun _ _ => rfl)) pe_int) (pe_op op_mul pe_int (pe_ix ix_list (pv 0) pe_int (fun _ _ => rfl)))) pe_int) (pe_ix ix_list (pv 0) pe_int (fun _ _ => rfl))) (pg_sub (pv 0) pe_int set_list))
 (pss_one (ps_ret (pe_op op_mod (pe_op op_mod (pe_op op_pow (pe_op op_fdiv (pe_ix ix_list (pv 0) pe_int (fun _ _ => rfl)) pe_int) pe_int) pe_int) (pv 1))))))), ?_⟩
    have ix : ∀ {H : Hp} {σ : L2.St} {xs : List Int} (k : Int), σ[0]? = some (some (.ref b)) → Lt rI H b xs → xs.length = 4 → 0 ≤ k → k < 4 → Er rI (tOp (rIxL K) (tVar 0) (tC (.int k))) σ H (gt0 0 xs k) := fun k hσ l hl k0 k1 => er_ixL0 (0 : Int) (er_var hσ l.rl) er_int (by omega) (by omega)
    have fin : ∀ (x : Int), 0 ≤ x % m ∧ x % m < m := fun x => ⟨Int.emod_nonneg _ (by omega), Int.emod_lt_of_pos _ hm0⟩
    refine s_if (et_t (er_cmp (ix 0 rfl hB rfl (by decide) (by decide)) er_int)) (fun hb H1 e1 => ?_) (fun hb H1 e1 => ?_)
    · have hb' : 0 < b0 := of_decide_eq_true hb
      refine s_asgI (er_op (ix 0 rfl (hB.ex e1) rfl (by decide) (by decide)) er_iv hm0) fun H2 e2 => ?_
      refine s_set (K := K) (j := 0) (hB.ex (e1.trans e2)) rfl (er_op (ix 0 rfl (hB.ex (e1.trans e2)) rfl (by decide) (by decide)) er_iv ⟨hm0, by omega⟩) er_int (by simp) (by simp) fun H3 c3 l3 => ?_
      refine s_ret (R := rI) er_iv fun v H4 e4 r => ?_
      cases r
      exact q _ H4 (((C1.ex (e1.trans e2)).trans c3).trans (C1.ex e4)) ⟨_, _, _, _, l3.ex e4, Int.ediv_nonneg h0 (by omega), h1, h2, h3, h4⟩ (fin _)
    · refine s_set (K := K) (j := 0) (hB.ex e1) rfl (er_op0 (ix 3 rfl (hB.ex e1) rfl (by decide) (by decide)) er_int) er_int (by simp) (by simp) fun H2 c2 l2 => ?_
      refine s_set (K := K) (j := 0) l2 rfl (er_op (er_op0 (er_op0 (er_op (C := CMul) (ix 1 rfl l2 rfl (by decide) (by decide)) er_int (cmul_r (by decide))) (er_op (C := CMul) er_int (ix 3 rfl l2 rfl (by decide) (by decide)) (cmul_l (by decide)))) er_int) (ix 2 rfl l2 rfl (by decide) (by decide)) (show 0 < pr from h3)) er_int (by simp) (by simp) fun H3 c3 l3 => ?_
      have z1 : 0 ≤ (b1 * 48271 + 7919 * (c + 1) + 11) % pr := Int.emod_nonneg _ (by omega)
      have z2 : (b1 * 48271 + 7919 * (c + 1) + 11) % pr < pr := Int.emod_lt_of_pos _ h3
      generalize hz : (b1 * 48271 + 7919 * (c + 1) + 11) % pr = z at z1 z2
      have l3' : Lt rI H3 b [b0, z, pr, c + 1] := by rw [← hz]; exact l3
      refine s_ret (R := rI) (er_op (er_op (er_op (C := CPow) (er_op (C := CDiv) (ix 1 rfl l3' rfl (by decide) (by decide)) er_int ⟨by decide, by decide⟩) er_int ⟨by decide, by decide, ?_⟩) er_int (by decide)) er_iv hm0) fun v H4 e4 r => ?_
      · show (z / 8).natAbs < 2 ^ 64
        omega
      · cases r
        exact q _ H4 ((((C1.ex e1).trans c2).trans c3).trans (C1.ex e4)) ⟨_, _, _, _, l3'.ex e4, h0, z1, by omega, h3, h4⟩ (fin _)
/-- a draw, step by step -/
theorem go_take {H : Hp} {σ : L2.St} {tm : TE} {E : XK} {Q : VK} {i : Nat} {b : Addr} {m : Int} (hσ : σ[i]? = some (some (.ref b))) (hB : Bag H b) (hm : Er rI tm σ H m) (h : 0 < m ∧ m < 1000000) (k : ∀ (r : Int) H', C1 b H H' → Bag H' b → 0 ≤ r ∧ r < m → Q (.int r) H') :
    tCall (sp__law_take K) [] E (tCons (tVar i) (tCons tm tNil)) σ H Q := by
  refine ⟨_, hσ, ?_⟩
  refine hm H (Ex.refl H) _ fun v H1 e1 r => ?_
  cases r
  exact ⟨b, m, rfl, hB.ex e1, h.1, h.2, fun r H' c B hr => k r H' ((C1.ex e1).trans c) B hr⟩
end
section
/-! ### the place of the first number that isn't 0 -/
def ordL (xs : List Int) : Nat := xs.findIdx fun x => !decide (x = 0)
def nzP (xs : List Int) : Prop := ∃ x ∈ xs, x ≠ 0
theorem enm_eq (xs : List Int) : enm xs = (List.range xs.length).map fun (i : Nat) => ((i : Int), (xs[i]?).getD 0) := by
  refine List.ext_getElem? fun i => ?_
  by_cases h : i < xs.length
  · rw [enm_get (List.getElem?_eq_getElem h), List.getElem?_map, List.getElem?_range h]
    simp [List.getElem?_eq_getElem h]
  · rw [List.getElem?_eq_none (by rw [enm_len]; omega), List.getElem?_eq_none (by simp; omega)]
theorem ord_lt {xs : List Int} (h : nzP xs) : ordL xs < xs.length := by
  obtain ⟨x, h1, h2⟩ := h
  exact List.findIdx_lt_length_of_exists ⟨x, h1, by simp [h2]⟩
theorem ord_find {xs : List Int} (h : nzP xs) : (List.range xs.length).find? (fun i => !decide ((xs[i]?).getD 0 = 0)) = some (ordL xs) := by
  have hl := ord_lt h
  rw [List.find?_range_eq_some]
  refine ⟨?_, List.mem_range.mpr hl, fun j hj => ?_⟩
  · rw [List.getElem?_eq_getElem hl]
    exact List.findIdx_getElem (p := fun x => !decide (x = 0)) (w := hl)
  · have hj2 : j < xs.length := Nat.lt_trans hj hl
    have := List.not_of_lt_findIdx (p := fun x => !decide (x = 0)) hj
    rw [List.getElem?_eq_getElem hj2]
    simpa using this
theorem gt0_head {ys : List Int} {a : Int} (h : ys.head? = some a) : gt0 (0 : Int) ys 0 = a ∧ 0 < ys.length := by
  cases ys with
  | nil => cases h
  | cons b r => cases h; exact ⟨rfl, Nat.succ_pos _⟩
theorem ordE {xs : List Int} (h : nzP xs) : gt0 (0 : Int) (((enm xs).filter fun x => !decide (x.2 = 0)).map fun x => x.1) 0 = (ordL xs : Int) ∧ 0 < (((enm xs).filter fun x => !decide (x.2 = 0)).map fun x => x.1).length := by
  refine gt0_head ?_
  rw [List.head?_map, List.head?_filter, enm_eq, List.find?_map]
  have e := ord_find h
  simp only [Function.comp_def]
  rw [e]
  rfl
theorem ordR {xs : List Int} (h : nzP xs) : gt0 (0 : Int) (((rng 0 (xs.length : Int)).filter fun i => !decide (gt0 (0 : Int) xs i = 0)).map fun i => i) 0 = (ordL xs : Int) ∧ 0 < (((rng 0 (xs.length : Int)).filter fun i => !decide (gt0 (0 : Int) xs i = 0)).map fun i => i).length := by
  refine gt0_head ?_
  rw [List.head?_map, List.head?_filter]
  unfold rng
  rw [List.find?_map, show ((xs.length : Int) - 0).toNat = xs.length by omega]
  have e := ord_find h
  simp only [Function.comp_def, Int.zero_add, gt0_nat]
  rw [e]
  rfl
end
section
def PwOk (pw : List (List Int)) : Prop := 0 < pw.length ∧ pw.length ≤ 4 ∧ (∀ a ∈ pw, a ≠ [] → nzP a ∧ a.length ≤ 1000) ∧ gt0 [] pw 0 ≠ []
theorem mem_cutL {α : Type} {xs : List α} {lo hi : Option Int} {i : Nat} {x : α} (h : (cutL xs lo hi)[i]? = some x) : x ∈ xs := List.mem_of_mem_drop (List.mem_of_mem_take (List.mem_of_getElem? h))
theorem cutL_one {α : Type} (xs : List α) : cutL xs (some 1) none = xs.drop 1 := cutL_lo 1
def mx2 (i j : Int) : Int := if j > i then j else i
def mn2 (i j : Int) : Int := if j < i then j else i
theorem er_mx2 {H : Hp} {σ : L2.St} {ta tb : TE} {i j : Int} (ha : Er rI ta σ H i) (hb : Er rI tb σ H j) : Er rI (tCB (fun xs H Q => ∃ i j, xs = [.int i, .int j] ∧ Q (.int (if j > i then j else i)) H) (tCons ta (tCons tb tNil))) σ H (mx2 i j) := er_max2 ha hb
theorem er_mn2 {H : Hp} {σ : L2.St} {ta tb : TE} {i j : Int} (ha : Er rI ta σ H i) (hb : Er rI tb σ H j) : Er rI (tCB (fun xs H Q => ∃ i j, xs = [.int i, .int j] ∧ Q (.int (if j < i then j else i)) H) (tCons ta (tCons tb tNil))) σ H (mn2 i j) := er_min2 ha hb
theorem PwOk.first {pw : List (List Int)} (h : PwOk pw) : nzP (gt0 [] pw 0) ∧ (gt0 [] pw 0).length ≤ 1000 := h.2.2.1 _ (List.mem_of_getElem? (gt0_some (d := ([] : List Int)) (i := 0) (by omega) (by have := h.1; omega))) h.2.2.2
theorem pw_small {p : Int} {i : Nat} (h : 2 ≤ p ∧ p ≤ 5) (hi : i < 3) : 1 < p ^ i * p ∧ p ^ i * p ≤ 625 := by
  have hp : p = 2 ∨ p = 3 ∨ p = 4 ∨ p = 5 := by omega
  have hii : i = 0 ∨ i = 1 ∨ i = 2 := by omega
  rcases hp with rfl | rfl | rfl | rfl <;> rcases hii with rfl | rfl | rfl <;> decide
theorem Pr.le {p : Int} (h : Pr p) : 2 ≤ p ∧ p ≤ 5 := by rcases h with rfl | rfl | rfl <;> decide
theorem pick3i {i : Int} (h : 0 ≤ i ∧ i < 3) : ∃ p, gt0 (0 : Int) [2, 3, 5] i = p ∧ Pr p := by
  have : i = 0 ∨ i = 1 ∨ i = 2 := by omega
  rcases this with rfl | rfl | rfl
  · exact ⟨2, rfl, .inl rfl⟩
  · exact ⟨3, rfl, .inr (.inl rfl)⟩
  · exact ⟨5, rfl, .inr (.inr rfl)⟩
theorem mm_b {n : Nat} {a b : Int} (ha : 0 ≤ a ∧ a < 1000 := by decide) (hb : 0 ≤ b ∧ b < 1000 := by decide) : -(2 ^ 62) ≤ mx2 a (mn2 b (n : Int)) ∧ mx2 a (mn2 b (n : Int)) < 2 ^ 62 := by
  unfold mx2 mn2
  split <;> split <;> omega
theorem mm_b2 {n : Nat} {a b : Int} (ha : 0 ≤ a ∧ a < 1000 := by decide) (hb : 0 ≤ b ∧ b < 1000 := by decide) : mx2 a (mn2 b (n : Int)) ≤ 1000 := by
  unfold mx2 mn2
  split <;> split <;> omega
theorem cutL_len {α : Type} (xs : List α) (lo hi : Option Int) : (cutL xs lo hi).length ≤ xs.length := by
  unfold cutL
  rw [List.length_take, List.length_drop]
  omega
/-- the greatest place that fits, and one more -/
theorem mxT {n : Nat} {c : Int → Bool} : ∃ m : Nat, mxD 0 (((rng 0 (n : Int)).filter c).map fun x => x + 1) = (m : Int) ∧ m ≤ n ∧ (m = 0 ∨ c ((m : Int) - 1) = true) := by
  cases hz : ((rng 0 (n : Int)).filter c).map fun x => x + 1 with
  | nil => exact ⟨0, rfl, Nat.zero_le _, .inl rfl⟩
  | cons a r =>
    have hm : mxD 0 (a :: r) ∈ a :: r := by
      show mxI a r ∈ a :: r
      rcases mxI_mem r a with h | h
      · rw [h]; exact List.mem_cons_self ..
      · exact List.mem_cons_of_mem _ h
    rw [← hz] at hm ⊢
    obtain ⟨k, hk, ek⟩ := List.mem_map.mp hm
    obtain ⟨hk1, hk2⟩ := List.mem_filter.mp hk
    obtain ⟨i, hi⟩ := List.getElem?_of_mem hk1
    have hr := rng_at hi
    refine ⟨(k + 1).toNat, by rw [← ek]; omega, by omega, .inr ?_⟩
    rw [show (((k + 1).toNat : Nat) : Int) - 1 = k by omega]
    exact hk2
theorem gt0_take_last {α : Type} {d : α} {xs : List α} {m : Nat} (hm : m ≤ xs.length) (h0 : 0 < m) : gt0 d (xs.take m) (-1) = gt0 d xs ((m : Int) - 1) := by
  have e : ((m : Int) - 1) = ((m - 1 : Nat) : Int) := by omega
  rw [e, gt0_nat]
  unfold gt0 ixs
  rw [if_neg (by omega), List.length_take, Nat.min_eq_left hm, show ((-1 : Int) + (m : Int)).toNat = m - 1 by omega, List.getElem?_take_of_lt (by omega)]
end
section
open SX (S)
/-! ### texts of polynomials: what is written is read -/
/-- a polynomial of numbers of p within a bound -/
def PolyOk (p most : Int) (xs : List Int) : Prop := (xs.length : Int) ≤ most ∧ (∀ x ∈ xs, 0 ≤ x ∧ x < p) ∧ (xs ≠ [] → gt0 (0 : Int) xs (-1) ≠ 0)
def dgI (w : List Nat) : Int := ((w.headD 48 : Nat) : Int) - 48
def wds (t : List Nat) : List (List Nat) := TL.spl [32] 0 [] t
structure WdsOk (p most : Int) (ws : List (List Nat)) : Prop where
  le : (ws.length : Int) ≤ most
  one : ∀ w ∈ ws, ∃ c, w = [c] ∧ 48 ≤ c ∧ (c : Int) < 48 + p
  ne : 0 < ws.length
  last : gt0 ([] : List Nat) ws (-1) ≠ [48]
def OkT (p most : Int) (t : List Nat) : Prop := t.length ≤ 1000 ∧ (2 ≤ p ∧ p ≤ 5) ∧ (t ≠ [45] → WdsOk p most (wds t))
theorem WdsOk.len {p most : Int} {ws : List (List Nat)} (h : WdsOk p most ws) {w : List Nat} (hw : w ∈ ws) : w.length ≤ 640 := by
  obtain ⟨c, rfl, _⟩ := h.one w hw
  simp
theorem WdsOk.len' {p most : Int} {ws : List (List Nat)} (h : WdsOk p most ws) {w : List Nat} (hw : w ∈ ws) : w.length ≤ 1000000 := by
  have := h.len hw
  omega
theorem figs_take (p : Nat) : cutL [48, 49, 50, 51, 52] none (some (p : Int)) = [48, 49, 50, 51, 52].take p := cutL_hi p
theorem WdsOk.good {p most : Int} {ws : List (List Nat)} (h : WdsOk p most ws) (hp : 2 ≤ p ∧ p ≤ 5) {w : List Nat} (hw : w ∈ ws) : (!decide (w = ([] : List Nat)) && (subX w (cutL ([48, 49, 50, 51, 52] : List Nat) none (some p)) && decide ((w.length : Int) = (1 : Int)))) = true := by
  obtain ⟨c, rfl, h1, h2⟩ := h.one w hw
  have e : p = 2 ∨ p = 3 ∨ p = 4 ∨ p = 5 := by omega
  rw [subX_one]
  have hc : c = 48 ∨ c = 49 ∨ c = 50 ∨ c = 51 ∨ c = 52 := by omega
  rcases e with rfl | rfl | rfl | rfl <;> rcases hc with rfl | rfl | rfl | rfl | rfl <;> first | (exfalso; omega) | decide
theorem WdsOk.no1 {p most : Int} {ws : List (List Nat)} (h : WdsOk p most ws) (hp : 2 ≤ p ∧ p ≤ 5) : (decide (most < (ws.length : Int)) || !(List.all (ws.map fun w => (!decide (w = ([] : List Nat)) && (subX w (cutL ([48, 49, 50, 51, 52] : List Nat) none (some p)) && decide ((w.length : Int) = (1 : Int))))) id)) = false := by
  have h1 := h.le
  rw [decide_eq_false (by omega), Bool.false_or, Bool.not_eq_false', List.all_eq_true]
  intro b hb
  obtain ⟨w, hw, rfl⟩ := List.mem_map.mp hb
  exact h.good hp hw
theorem digitsVal_one (c : Nat) : NumText.digitsVal [c] = c - 48 := by simp [NumText.digitsVal]
theorem WdsOk.int {p most : Int} {ws : List (List Nat)} (h : WdsOk p most ws) (hp : 2 ≤ p ∧ p ≤ 5) {w : List Nat} (hw : w ∈ ws) : PySem.intText? (S w) = some (dgI w) := by
  obtain ⟨c, rfl, h1, h2⟩ := h.one w hw
  rw [SX.int_S (by simp; omega) (by simp) (by simp), digitsVal_one]
  unfold dgI
  simp
  omega
/-- the text of a polynomial -/
def wP (xs : List Int) : List Nat := if xs = [] then [45] else TL.joinL [32] (xs.map fun x => TL.numL x.toNat)
theorem wP_parts {p : Int} {xs : List Int} (hp : p ≤ 5) (h : ∀ x ∈ xs, 0 ≤ x ∧ x < p) : (xs.map fun x => TL.numL x.toNat) = xs.map fun x => [48 + x.toNat] := by
  apply List.map_congr_left
  intro x hx
  exact TL.numL_lt (by have := h x hx; omega)
theorem joinL_one (s : List Nat) : ∀ (x : Nat) (xs : List Nat), TL.joinL s ((x :: xs).map fun y => [y]) = x :: (xs.map fun y => s ++ [y]).flatten
  | x, [] => rfl
  | x, y :: xs => by
    show [x] ++ (s ++ TL.joinL s ((y :: xs).map fun y => [y])) = _
    rw [joinL_one s y xs]
    simp
theorem wP_mem {p : Int} {xs : List Int} (hp : p ≤ 5) (h : ∀ x ∈ xs, 0 ≤ x ∧ x < p) : ∀ c ∈ wP xs, c = 45 ∨ c = 32 ∨ 48 ≤ c ∧ c < 53 := by
  unfold wP
  split
  · intro c hc
    exact .inl (List.mem_singleton.mp hc)
  · rename_i hne
    rw [wP_parts hp h]
    cases xs with
    | nil => exact absurd rfl hne
    | cons x xs =>
      have e := joinL_one [32] (48 + x.toNat) (xs.map fun x => 48 + x.toNat)
      rw [List.map_cons, List.map_map] at e
      show ∀ c ∈ TL.joinL [32] ([48 + x.toNat] :: xs.map fun x => [48 + x.toNat]), _
      have e2 : (xs.map ((fun y => [y]) ∘ fun x : Int => 48 + x.toNat)) = xs.map fun x => [48 + x.toNat] := rfl
      rw [e2] at e
      rw [e]
      intro c hc
      rcases List.mem_cons.mp hc with hc | hc
      · have := h x (List.mem_cons_self ..)
        omega
      · obtain ⟨l, hl, hcl⟩ := List.mem_flatten.mp hc
        rw [List.mem_map] at hl
        obtain ⟨y, hy, rfl⟩ := hl
        obtain ⟨z, hz, rfl⟩ := List.mem_map.mp hy
        have := h z (List.mem_cons_of_mem _ hz)
        simp only [List.cons_append, List.nil_append, List.mem_cons, List.mem_nil_iff, or_false] at hcl
        omega
theorem wP_wds {p : Int} {xs : List Int} (hp : p ≤ 5) (h : ∀ x ∈ xs, 0 ≤ x ∧ x < p) (hne : xs ≠ []) : wds (wP xs) = xs.map fun x => [48 + x.toNat] := by
  unfold wP wds
  rw [if_neg hne, wP_parts hp h]
  refine SX.spl_join (sep := []) (fun z => hne (List.map_eq_nil_iff.mp z)) fun w hw => ?_
  obtain ⟨x, hx, rfl⟩ := List.mem_map.mp hw
  intro z
  have := List.mem_singleton.mp z
  omega
theorem wP_45 {p : Int} {xs : List Int} (hp : p ≤ 5) (h : ∀ x ∈ xs, 0 ≤ x ∧ x < p) (hne : xs ≠ []) : wP xs ≠ [45] := by
  intro z
  have e := wP_wds hp h hne
  rw [z] at e
  have e2 : wds [45] = [[45]] := by decide
  rw [e2] at e
  cases xs with
  | nil => exact hne rfl
  | cons x xs =>
    rw [List.map_cons] at e
    have := (List.cons.inj (List.cons.inj e).1).1
    omega
theorem wP_len {p : Int} {xs : List Int} (hp : p ≤ 5) (h : ∀ x ∈ xs, 0 ≤ x ∧ x < p) : (wP xs).length ≤ 2 * xs.length + 1 := by
  unfold wP
  split
  · simp
  · rename_i hne
    rw [wP_parts hp h]
    cases xs with
    | nil => exact absurd rfl hne
    | cons x xs =>
      have e := joinL_one [32] (48 + x.toNat) (xs.map fun x => 48 + x.toNat)
      rw [List.map_cons, List.map_map] at e
      have e2 : (xs.map ((fun y => [y]) ∘ fun x : Int => 48 + x.toNat)) = xs.map fun x => [48 + x.toNat] := rfl
      rw [e2] at e
      show (TL.joinL [32] ([48 + x.toNat] :: xs.map fun x => [48 + x.toNat])).length ≤ _
      rw [e, List.length_cons, List.length_flatten, List.map_map, List.map_map]
      have : (List.map ((List.length ∘ fun y => [32] ++ [y]) ∘ fun x : Int => 48 + x.toNat) xs) = xs.map fun _ => 2 := by
        apply List.map_congr_left
        intro _ _
        rfl
      rw [this, List.map_const', List.sum_replicate_nat, List.length_cons]
      omega
theorem gt0_map {α β : Type} {d : α} {e : β} (f : α → β) {xs : List α} {i : Int} (h1 : -(xs.length : Int) ≤ i) (h2 : i < xs.length) : gt0 e (xs.map f) i = f (gt0 d xs i) := by
  unfold gt0
  rw [List.getElem?_map, List.length_map, List.getElem?_eq_getElem (ixN_ixs h1 h2).2]
  rfl
theorem wP_ok {p q most : Int} {xs : List Int} (hp : 2 ≤ p ∧ p ≤ 5) (hq : q ≤ p) (hm : most ≤ 100) (h : PolyOk q most xs) : OkT p most (wP xs) := by
  obtain ⟨h1, h2, h3⟩ := h
  have h2' : ∀ x ∈ xs, 0 ≤ x ∧ x < p := fun x hx => by have := h2 x hx; omega
  refine ⟨?_, hp, fun hne => ?_⟩
  · have := wP_len hp.2 h2'
    omega
  · have hn : xs ≠ [] := fun z => hne (by rw [z]; rfl)
    have hpos := List.length_pos_iff.mpr hn
    rw [wP_wds hp.2 h2' hn]
    refine ⟨by rw [List.length_map]; exact h1, fun w hw => ?_, by rw [List.length_map]; exact hpos, ?_⟩
    · obtain ⟨x, hx, rfl⟩ := List.mem_map.mp hw
      have := h2' x hx
      exact ⟨_, rfl, by omega, by omega⟩
    · rw [gt0_map (d := (0 : Int)) _ (by omega) (by omega)]
      intro z
      have z2 := (List.cons.inj z).1
      have z3 := h3 hn
      have z4 := h2' _ (List.mem_of_getElem? (gt0_some (d := (0 : Int)) (xs := xs) (i := -1) (by omega) (by omega)))
      omega
/-- what is read of a text -/
def rdP (t : List Nat) : List Int := if t = [45] then [] else (wds t).map dgI
theorem rdP_wP {p : Int} {xs : List Int} (hp : p ≤ 5) (h : ∀ x ∈ xs, 0 ≤ x ∧ x < p) : rdP (wP xs) = xs := by
  unfold rdP
  by_cases hne : xs = []
  · subst hne; rfl
  · rw [if_neg (wP_45 hp h hne), wP_wds hp h hne, List.map_map]
    rw [List.map_congr_left (g := id) fun x hx => by
      have := h x hx
      show ((48 + x.toNat : Nat) : Int) - 48 = x
      omega]
    exact List.map_id xs
/-! ### twos -/
theorem free59 : ∀ {p : List Nat}, 59 ∉ p → SX.free [32, 59, 32] p = true
  | [], _ => rfl
  | c :: r, h => by
    show (!(TL.pre [32, 59, 32] (c :: (r ++ [32, 59, 32]))) && SX.free [32, 59, 32] r) = true
    rw [free59 fun z => h (List.mem_cons_of_mem _ z), Bool.and_true, Bool.not_eq_true']
    unfold TL.pre
    cases r with
    | nil => exact beq_eq_false_iff_ne.mpr fun z => by simp at z
    | cons d r =>
      have hd : d ≠ 59 := fun z => h (by rw [z]; simp)
      refine beq_eq_false_iff_ne.mpr fun z => ?_
      simp only [List.cons_append, List.length_cons, List.length_nil, Nat.reduceAdd, List.take_succ_cons] at z
      have := (List.cons.inj (List.cons.inj z).2).1
      exact hd this
theorem spl59 : ∀ {parts : List (List Nat)}, parts ≠ [] → (∀ p ∈ parts, 59 ∉ p) → TL.spl [32, 59, 32] 0 [] (TL.joinL [32, 59, 32] parts) = parts
  | [], h, _ => absurd rfl h
  | [p], _, hp => by
    have h := hp p (List.mem_singleton.mpr rfl)
    show TL.spl [32, 59, 32] 0 [] p = [p]
    refine TL.spl_last (acc := []) fun i hi => ?_
    unfold TL.pre
    refine beq_eq_false_iff_ne.mpr fun z => ?_
    have h2 : 59 ∈ (p.drop i).take 3 := by
      show 59 ∈ (p.drop i).take ([32, 59, 32] : List Nat).length
      rw [z]; simp
    exact h (List.mem_of_mem_drop (List.mem_of_mem_take h2))
  | p :: q :: r, _, hp => by
    show TL.spl [32, 59, 32] 0 [] (p ++ ([32, 59, 32] ++ TL.joinL [32, 59, 32] (q :: r))) = p :: q :: r
    rw [SX.spl_free _ (by simp) (free59 (hp p (List.mem_cons_self ..))), spl59 (by simp) fun z hz => hp z (List.mem_cons_of_mem _ hz)]
def TwoOk (p : Int) (m1 m2 : Int) (ys : List (List Int)) : Prop := (ys.length : Int) ≤ m1 ∧ (∀ a ∈ ys, PolyOk p m2 a) ∧ (ys ≠ [] → gt0 ([] : List Int) ys (-1) ≠ [])
def txs (t : List Nat) : List (List Nat) := TL.spl [32, 59, 32] 0 [] t
structure TxsOk (p most : Int) (ts : List (List Nat)) : Prop where
  le : (ts.length : Int) ≤ most
  one : ∀ w ∈ ts, OkT p 4 w
  ne : 0 < ts.length
  last : gt0 ([] : List Nat) ts (-1) ≠ [45]
def OkTT (p most : Int) (t : List Nat) : Prop := t.length ≤ 5000 ∧ (2 ≤ p ∧ p ≤ 5) ∧ (t ≠ [46] → TxsOk p most (txs t))
theorem TxsOk.no1 {p most : Int} {ts : List (List Nat)} (h : TxsOk p most ts) : (decide (most < (ts.length : Int)) || decide (gt0 ([] : List Nat) ts (-1) = [45])) = false := by
  have h1 := h.le
  rw [decide_eq_false (by omega), decide_eq_false h.last]
  rfl
def wT (ys : List (List Int)) : List Nat := if ys = [] then [46] else TL.joinL [32, 59, 32] (ys.map wP)
def rdT (t : List Nat) : List (List Int) := if t = [46] then [] else (txs t).map rdP
theorem wT_txs {p m1 m2 : Int} {ys : List (List Int)} (hp : p ≤ 5) (h : TwoOk p m1 m2 ys) (hne : ys ≠ []) : txs (wT ys) = ys.map wP := by
  unfold wT txs
  rw [if_neg hne]
  refine spl59 (fun z => hne (List.map_eq_nil_iff.mp z)) fun w hw => ?_
  obtain ⟨x, hx, rfl⟩ := List.mem_map.mp hw
  intro z
  have := wP_mem hp (h.2.1 x hx).2.1 _ z
  omega
theorem wP_ne (xs : List Int) {p : Int} (hp : p ≤ 5) (h : ∀ x ∈ xs, 0 ≤ x ∧ x < p) : wP xs ≠ [46] := by
  intro z
  have := wP_mem hp h 46 (by rw [z]; simp)
  omega
theorem wT_46 {p m1 m2 : Int} {ys : List (List Int)} (hp : p ≤ 5) (h : TwoOk p m1 m2 ys) (hne : ys ≠ []) : wT ys ≠ [46] := by
  intro z
  have e := wT_txs hp h hne
  rw [z] at e
  have e2 : txs [46] = [[46]] := by decide
  rw [e2] at e
  cases ys with
  | nil => exact hne rfl
  | cons x xs =>
    rw [List.map_cons] at e
    exact wP_ne x hp (h.2.1 x (List.mem_cons_self ..)).2.1 (List.cons.inj e).1.symm
theorem joinL_len (s : List Nat) (n : Nat) : ∀ ps : List (List Nat), (∀ p ∈ ps, p.length ≤ n) → (TL.joinL s ps).length ≤ ps.length * (n + s.length)
  | [], _ => by simp [TL.joinL]
  | [p], h => by
    have := h p (List.mem_singleton.mpr rfl)
    show p.length ≤ 1 * (n + s.length)
    omega
  | p :: q :: r, h => by
    have h1 := h p (List.mem_cons_self ..)
    have h2 := joinL_len s n (q :: r) fun z hz => h z (List.mem_cons_of_mem _ hz)
    show (p ++ (s ++ TL.joinL s (q :: r))).length ≤ _
    rw [List.length_append, List.length_append]
    simp only [List.length_cons, Nat.add_mul] at *
    omega
theorem wT_ok {p q m1 : Int} {ys : List (List Int)} (hp : 2 ≤ p ∧ p ≤ 5) (hq : q ≤ p) (hm : m1 ≤ 100) (h : TwoOk q m1 4 ys) : OkTT p m1 (wT ys) := by
  have h5 : q ≤ 5 := by omega
  have hw : ∀ a ∈ ys, OkT p 4 (wP a) := fun a ha => wP_ok hp hq (by omega) (h.2.1 a ha)
  have hl : ∀ a ∈ ys, (wP a).length ≤ 9 := fun a ha => by
    have h1 := wP_len h5 (h.2.1 a ha).2.1
    have h2 := (h.2.1 a ha).1
    omega
  refine ⟨?_, hp, fun hne => ?_⟩
  · unfold wT
    split
    · simp
    · have := joinL_len [32, 59, 32] 9 (ys.map wP) (fun w hw => by obtain ⟨a, ha, rfl⟩ := List.mem_map.mp hw; exact hl a ha)
      rw [List.length_map] at this
      have h2 := h.1
      have h3 : ys.length * (9 + ([32, 59, 32] : List Nat).length) = ys.length * 12 := rfl
      omega
  · have hn : ys ≠ [] := fun z => hne (by rw [z]; rfl)
    have hpos := List.length_pos_iff.mpr hn
    rw [wT_txs h5 h hn]
    refine ⟨by rw [List.length_map]; exact h.1, fun w hw2 => ?_, by rw [List.length_map]; exact hpos, ?_⟩
    · obtain ⟨x, hx, rfl⟩ := List.mem_map.mp hw2
      exact hw x hx
    · rw [gt0_map (d := ([] : List Int)) _ (by omega) (by omega)]
      have hm2 : gt0 ([] : List Int) ys (-1) ∈ ys := List.mem_of_getElem? (gt0_some (d := ([] : List Int)) (xs := ys) (i := -1) (by omega) (by omega))
      exact wP_45 h5 (h.2.1 _ hm2).2.1 (h.2.2 hn)
theorem rdT_wT {p m1 m2 : Int} {ys : List (List Int)} (hp : p ≤ 5) (h : TwoOk p m1 m2 ys) : rdT (wT ys) = ys := by
  unfold rdT
  by_cases hne : ys = []
  · subst hne; rfl
  · rw [if_neg (wT_46 hp h hne), wT_txs hp h hne, List.map_map]
    rw [List.map_congr_left (f := rdP ∘ wP) (g := id) fun x hx => rdP_wP hp (h.2.1 x hx).2.1]
    exact List.map_id ys
theorem PolyOk.str {p most : Int} {xs : List Int} (h : PolyOk p most xs) (hp : p ≤ 100 := by decide) {x : Int} (hx : x ∈ xs) : 0 ≤ x ∧ x < 1000000 := by
  have := h.2.1 x hx
  omega
theorem PolyOk.join {xs : List Int} (h : PolyOk 5 100 xs) : ((xs.map fun x => TL.numL x.toNat).map List.length).sum + (xs.map fun x => TL.numL x.toNat).length * ([32] : List Nat).length ≤ 1000000 := by
  rw [wP_parts (Int.le_refl _) h.2.1, List.map_map, List.length_map]
  have : List.map (List.length ∘ fun x : Int => [48 + x.toNat]) xs = xs.map fun _ => 1 := List.map_congr_left fun _ _ => rfl
  rw [this, List.map_const', List.sum_replicate_nat]
  have := h.1
  show xs.length * 1 + xs.length * 1 ≤ 1000000
  omega
theorem sum_le (n : Nat) : ∀ l : List Nat, (∀ x ∈ l, x ≤ n) → l.sum ≤ l.length * n
  | [], _ => by simp
  | x :: l, h => by
    have h1 := h x (List.mem_cons_self ..)
    have h2 := sum_le n l fun z hz => h z (List.mem_cons_of_mem _ hz)
    rw [List.sum_cons, List.length_cons, Nat.add_mul]
    omega
theorem TwoOk.join {ys : List (List Int)} (h : TwoOk 5 100 100 ys) : ((ys.map wP).map List.length).sum + (ys.map wP).length * ([32, 59, 32] : List Nat).length ≤ 1000000 := by
  have h1 := sum_le 201 ((ys.map wP).map List.length) fun x hx => by
    obtain ⟨w, hw, rfl⟩ := List.mem_map.mp hx
    obtain ⟨a, ha, rfl⟩ := List.mem_map.mp hw
    have h1 := wP_len (Int.le_refl _) (h.2.1 a ha).2.1
    have h2 := (h.2.1 a ha).1
    omega
  rw [List.length_map, List.length_map] at h1
  rw [List.length_map]
  have h2 := h.1
  show _ + ys.length * 3 ≤ 1000000
  omega
theorem WdsOk.lt {p most : Int} {ws : List (List Nat)} (h : WdsOk p most ws) (hm : most ≤ 100) : ws.length < 1000000 := by
  have := h.le
  omega
theorem TxsOk.lt {p most : Int} {ts : List (List Nat)} (h : TxsOk p most ts) (hm : most ≤ 100) : ts.length < 1000000 := by
  have := h.le
  omega
theorem trim_ok {p most : Int} {xs : List Int} (h : ∀ x ∈ xs, 0 ≤ x ∧ x < p) (hl : (xs.length : Int) ≤ most) : PolyOk p most (cutL xs none (some (mxD (0 : Int) (((rng 0 (xs.length : Int)).filter fun x3 => (!decide ((gt0 (0 : Int) xs x3) = (0 : Int)))).map fun x3 => (x3 + (1 : Int)))))) := by
  obtain ⟨m, e, hm, hc⟩ := mxT (n := xs.length) (c := fun x3 => (!decide ((gt0 (0 : Int) xs x3) = (0 : Int))))
  rw [e, cutL_hi]
  refine ⟨by rw [List.length_take]; omega, fun x hx => h x (List.mem_of_mem_take hx), fun hne => ?_⟩
  have h0 : 0 < m := Nat.pos_of_ne_zero fun z => hne (by rw [z, List.take_zero])
  rw [gt0_take_last hm h0]
  rcases hc with hc | hc
  · omega
  · simpa using hc
theorem two_ok {p m1 m2 : Int} {ys : List (List Int)} (h : ∀ y ∈ ys, PolyOk p m2 y) (hl : (ys.length : Int) ≤ m1) : TwoOk p m1 m2 (cutL ys none (some (mxD (0 : Int) (((rng 0 (ys.length : Int)).filter fun x3 => (!decide ((gt0 ([] : List Int) ys x3) = ([] : List Int)))).map fun x3 => (x3 + (1 : Int)))))) := by
  obtain ⟨m, e, hm, hc⟩ := mxT (n := ys.length) (c := fun x3 => (!decide ((gt0 ([] : List Int) ys x3) = ([] : List Int))))
  rw [e, cutL_hi]
  refine ⟨by rw [List.length_take]; omega, fun x hx => h x (List.mem_of_mem_take hx), fun hne => ?_⟩
  have h0 : 0 < m := Nat.pos_of_ne_zero fun z => hne (by rw [z, List.take_zero])
  rw [gt0_take_last hm h0]
  rcases hc with hc | hc
  · omega
  · simpa using hc
theorem repL_if (a : List Nat) (b : Bool) : (repL a (if b = true then 1 else 0)).length ≤ a.length := by
  rw [repL_len]
  cases b <;> simp
theorem add_rep_le {n : Nat} {a : List Nat} {b : Bool} (h : n + a.length ≤ 1000000) : n + (repL a (if b = true then 1 else 0)).length ≤ 1000000 := by
  have := repL_if a b
  omega
theorem repL_0 (a : List Nat) : repL a (if false = true then 1 else 0) = [] := rfl
theorem repL_1 (a : List Nat) : repL a (if true = true then 1 else 0) = a := by unfold repL; simp
def stW : List Nat → Int → List Nat := fun s1 x1 => ((if (!decide (s1 = ([] : List Nat))) = true then (s1 ++ ([32] : List Nat)) else s1) ++ [gtX ([48, 49, 50, 51, 52] : List Nat) x1])
theorem gtX_fig {x : Int} (h : 0 ≤ x ∧ x < 5) : gtX ([48, 49, 50, 51, 52] : List Nat) x = 48 + x.toNat := by
  have : x = 0 ∨ x = 1 ∨ x = 2 ∨ x = 3 ∨ x = 4 := by omega
  rcases this with rfl | rfl | rfl | rfl | rfl <;> rfl
theorem stW_fold : ∀ (xs : List Int) (acc : List Nat), (∀ x ∈ xs, 0 ≤ x ∧ x < 5) → acc ≠ [] → List.foldl stW acc xs = acc ++ (xs.map fun x => [32] ++ [48 + x.toNat]).flatten
  | [], acc, _, _ => by simp
  | x :: xs, acc, h, hne => by
    have e : stW acc x = acc ++ ([32] ++ [48 + x.toNat]) := by
      unfold stW
      rw [decide_eq_false hne, gtX_fig (h x (List.mem_cons_self ..))]
      simp
    rw [List.foldl_cons, e, stW_fold xs _ (fun z hz => h z (List.mem_cons_of_mem _ hz)) (by simp), List.map_cons, List.flatten_cons, List.append_assoc]
theorem written_eq {xs : List Int} (h : PolyOk 5 100 xs) : List.foldl stW [] xs ++ repL ([45] : List Nat) (if decide (xs = ([] : List Int)) = true then 1 else 0) = wP xs := by
  cases xs with
  | nil => rfl
  | cons x xs =>
    have h2 := h.2.1
    rw [decide_eq_false (by simp), repL_0, List.append_nil]
    unfold wP
    rw [if_neg (by simp), wP_parts (Int.le_refl _) h2]
    have e0 : stW [] x = [48 + x.toNat] := by
      unfold stW
      rw [gtX_fig (h2 x (List.mem_cons_self ..))]
      rfl
    rw [List.foldl_cons, e0, stW_fold xs _ (fun z hz => h2 z (List.mem_cons_of_mem _ hz)) (by simp)]
    have e := joinL_one [32] (48 + x.toNat) (xs.map fun x => 48 + x.toNat)
    rw [List.map_cons, List.map_map, List.map_map] at e
    show _ = TL.joinL [32] ([48 + x.toNat] :: xs.map fun x => [48 + x.toNat])
    have e2 : (xs.map ((fun y => [y]) ∘ fun x : Int => 48 + x.toNat)) = xs.map fun x => [48 + x.toNat] := rfl
    rw [e2] at e
    rw [e]
    rfl
theorem joinL_cons (s : List Nat) : ∀ (p : List Nat) (ps : List (List Nat)), TL.joinL s (p :: ps) = p ++ (ps.map fun q => s ++ q).flatten
  | p, [] => by simp [TL.joinL]
  | p, q :: r => by
    show p ++ (s ++ TL.joinL s (q :: r)) = _
    rw [joinL_cons s q r, List.map_cons, List.flatten_cons, List.append_assoc]
def stT : List Nat → Int × List Int → List Nat := fun s1 x1 => ((s1 ++ (repL ([32, 59, 32] : List Nat) (if (decide ((0 : Int) < x1.1)) = true then 1 else 0 : Int))) ++ ((wP x1.2)))
theorem stT_fold : ∀ (ys : List (List Int)) (n : Nat) (acc : List Nat), List.foldl stT acc ((ys.zipIdx (n + 1)).map fun p => ((p.2 : Int), p.1)) = acc ++ (ys.map fun y => [32, 59, 32] ++ wP y).flatten
  | [], _, acc => by simp
  | y :: ys, n, acc => by
    rw [List.zipIdx_cons, List.map_cons, List.foldl_cons, stT_fold ys (n + 1)]
    have e : stT acc (((n + 1 : Nat) : Int), y) = acc ++ ([32, 59, 32] ++ wP y) := by
      unfold stT
      rw [decide_eq_true (show (0 : Int) < (((n + 1 : Nat) : Int), y).1 by show (0 : Int) < ((n + 1 : Nat) : Int); omega), repL_1, List.append_assoc]
    rw [e, List.map_cons, List.flatten_cons, List.append_assoc]
theorem two_written_eq (ys : List (List Int)) : List.foldl stT [] (enm ys) ++ repL ([46] : List Nat) (if decide (ys = ([] : List (List Int))) = true then 1 else 0) = wT ys := by
  cases ys with
  | nil => rfl
  | cons y ys =>
    rw [decide_eq_false (by simp), repL_0, List.append_nil]
    unfold wT enm
    rw [if_neg (by simp), List.zipIdx_cons, List.map_cons, List.foldl_cons]
    have e : stT [] (((0 : Nat) : Int), y) = wP y := by
      unfold stT
      rw [decide_eq_false (by show ¬ (0 : Int) < 0; omega), repL_0]
      rfl
    rw [e, stT_fold ys 0, List.map_cons, joinL_cons, List.map_map]
    rfl
theorem stW_len {s : List Nat} {x : Int} {i : Nat} (h : s.length ≤ 2 * i) : ((if (!decide (s = ([] : List Nat))) = true then (s ++ ([32] : List Nat)) else s) ++ [gtX ([48, 49, 50, 51, 52] : List Nat) x]).length ≤ 2 * (i + 1) := by
  split <;> simp <;> omega
theorem stT_len2 {s : List Nat} {b : Bool} {y : List Int} {i : Nat} (h : s.length ≤ 300 * i) (hy : PolyOk 5 100 y) (hi : i ≤ 100) : (s ++ repL ([32, 59, 32] : List Nat) (if b = true then 1 else 0)).length + (wP y).length ≤ 1000000 := by
  have h1 := repL_if ([32, 59, 32] : List Nat) b
  have h2 := wP_len (Int.le_refl _) hy.2.1
  have h3 := hy.1
  rw [List.length_append]
  simp only [List.length_cons, List.length_nil] at h1
  omega
theorem stT_len {s : List Nat} {b : Bool} {y : List Int} {i : Nat} (h : s.length ≤ 300 * i) (hy : PolyOk 5 100 y) : ((s ++ repL ([32, 59, 32] : List Nat) (if b = true then 1 else 0)) ++ wP y).length ≤ 300 * (i + 1) := by
  have h1 := repL_if ([32, 59, 32] : List Nat) b
  have h2 := wP_len (Int.le_refl _) hy.2.1
  have h3 := hy.1
  rw [List.length_append, List.length_append]
  simp only [List.length_cons, List.length_nil] at h1
  omega
theorem PolyOk.up {p m : Int} {xs : List Int} (h : PolyOk p m xs) (hp : p ≤ 5) (hm : m ≤ 100 := by decide) : PolyOk 5 100 xs := ⟨by have := h.1; omega, fun x hx => by have := h.2.1 x hx; omega, h.2.2⟩
theorem TwoOk.up {p m1 m2 : Int} {ys : List (List Int)} (h : TwoOk p m1 m2 ys) (hp : p ≤ 5) (hm : m1 ≤ 100 := by decide) (hm2 : m2 ≤ 100 := by decide) : TwoOk 5 100 100 ys := ⟨by have := h.1; omega, fun a ha => (h.2.1 a ha).up hp hm2, h.2.2⟩
theorem polyOk_nil {p m : Int} (hm : 0 ≤ m := by decide) : PolyOk p m [] := ⟨hm, fun _ h => (by cases h), fun h => absurd rfl h⟩
theorem twoOk_nil {p m m2 : Int} (hm : 0 ≤ m := by decide) : TwoOk p m m2 [] := ⟨hm, fun _ h => (by cases h), fun h => absurd rfl h⟩
theorem list3_mem {α : Type} {F : α → Prop} {a b c x : α} {i : Nat} (ha : F a) (hb : F b) (hc : F c) (h : [a, b, c][i]? = some x) : F x := by
  have h2 := List.mem_of_getElem? h
  simp only [List.mem_cons, List.mem_nil_iff, or_false] at h2
  rcases h2 with rfl | rfl | rfl
  · exact ha
  · exact hb
  · exact hc
theorem pick_ge {p x : Int} {i : Nat} (h : ((([2, 3, 5] : List Int).filter fun y => decide (p ≤ y)).map fun y => y)[i]? = some x) : Pr x ∧ p ≤ x := by
  have h2 := List.mem_of_getElem? h
  obtain ⟨y, hy, rfl⟩ := List.mem_map.mp h2
  obtain ⟨h3, h4⟩ := List.mem_filter.mp hy
  simp only [List.mem_cons, List.mem_nil_iff, or_false] at h3
  exact ⟨h3, of_decide_eq_true h4⟩
end
section
variable {P : Program} {w : World} {K : PySem.W.Frag} {mg : Str → Option Value} {base : Heap}
def sp_show_poly (K : PySem.W.Frag) : Sp := fun vs H Q _ => ∃ (poly : (List Int)) (v_poly : V), (vs = [v_poly]) ∧ ((rT K rI) H poly v_poly) ∧ (PolyOk 5 100 poly) ∧ (∀ H', Ex H H' → Q (.str <| S (wP poly)) H')
section
variable {K : PySem.W.Frag}
theorem gv_show_poly {poly : (List Int)} (h0 : PolyOk 5 100 poly) : Gv (sp_show_poly K) (Ac (rT K rI) poly A0) rX (wP poly) := by
  intro vs H1 hp Q E k
  obtain ⟨v0, w0, rfl, f0, hp⟩ := hp
  cases hp
  exact ⟨_, v0, rfl, f0, h0, fun H2 e => k _ H2 e rfl⟩
end
theorem ok_show_poly {f : Addr} {fd : FuncData} (F : Fun K "show_poly" "show_poly" s_show_poly f fd) (n_str : mg "str" = none) : FnOk P w K mg base CX0 1 f fd ["poly"] (sp_show_poly K) := by
  refine F.ok sc_show_poly (fun vs H Q E h => ?_) (fun cdv A outer s H vs Q E hr h => ?_)
  · obtain ⟨poly, v_poly, rfl, _⟩ := h; rfl
  · obtain ⟨poly, v_poly, rfl, f_poly, hpre0, q⟩ := h
    refine ⟨_, (pss_cons (ps_if (pt_cmpR (op_eqDK K hr.units) (pv 0) (pe_tup pa_nil) (nomark _)) (pss_one (ps_ret pe_str)) pss_nil)
 (pss_one (ps_ret (pe_join pe_str (pe_lc (own := [("number", 1)]) (by rfl) sc_show_poly.nd (pi_tupK K (pv 0)) (blkOk_by (own := [("number", 1)]) (N := ["poly", "number"]) (sc := defScope s_show_poly) (by decide +kernel)) (fun _ _ _ _ _ => (pg_name (i := 1) sc_show_poly.nd rfl (Or.inl rfl))) (fun _ _ _ _ _ => pts_nil) (fun _ _ _ _ _ => (pe_callTy call_str_int (by rfl) n_str (by decide +kernel) (pa_cons (pv 1) pa_nil)))))))), ?_⟩
    have F0 : Ex H H := Ex.refl H
    have hl := hpre0.1
    refine q_when (et_t (er_eqD (er_var rfl f_poly) (er_tup (R := rI) eas0 (by decide)))) (fun hb_1 H1 e2 => ?_) (fun hb_1 H1 e2 => ?_)
    ·
      have hb_1' := hb_1
      simp only [Bool.and_eq_true, Bool.or_eq_true, Bool.not_eq_true', Bool.and_eq_false_iff, Bool.or_eq_false_iff, Bool.not_eq_false', decide_eq_true_eq, decide_eq_false_iff_not] at hb_1'
      replace f_poly := Me.ex e2 f_poly
      replace F0 := F0.trans e2
      refine s_ret (R := rX) (er_xc [45]) fun v H' e r => ?_
      cases r
      have z := q _ (F0.trans e)
      rw [show wP poly = [45] by unfold wP; rw [if_pos hb_1']] at z; exact z
    have hb_1' := hb_1
    simp only [Bool.and_eq_true, Bool.or_eq_true, Bool.not_eq_true', Bool.and_eq_false_iff, Bool.or_eq_false_iff, Bool.not_eq_false', decide_eq_true_eq, decide_eq_false_iff_not] at hb_1'
    replace f_poly := Me.ex e2 f_poly
    replace F0 := F0.trans e2
    refine s_ret (R := rX) (er_xjoin (K := K) (er_xc [32]) (El.er (el_lcTI (K := K) (er_var rfl f_poly) (by first | omega | assumption | (simp only [List.length_append, List.length_cons, List.length_nil, List.length_map, List.length_range, List.length_set, rng_len, enm_len, repL_len] at *; omega)) (fun _ => rfl) (fun x3 H1 e4 hx5 => (er_xstr er_iv (hpre0.str (by decide) (by assumption)))))) (hpre0.join)) fun v H' e r => ?_
    cases r
    have z := q _ (F0.trans e)
    rw [show wP poly = TL.joinL [32] (poly.map fun x => TL.numL x.toNat) by unfold wP; rw [if_neg hb_1']] at z; exact z

def sp_show_two (K : PySem.W.Frag) : Sp := fun vs H Q _ => ∃ (two : (List (List Int))) (v_two : V), (vs = [v_two]) ∧ ((rT K (rT K rI)) H two v_two) ∧ (TwoOk 5 100 100 two) ∧ (∀ H', Ex H H' → Q (.str <| S (wT two)) H')
section
variable {K : PySem.W.Frag}
theorem gv_show_two {two : (List (List Int))} (h0 : TwoOk 5 100 100 two) : Gv (sp_show_two K) (Ac (rT K (rT K rI)) two A0) rX (wT two) := by
  intro vs H1 hp Q E k
  obtain ⟨v0, w0, rfl, f0, hp⟩ := hp
  cases hp
  exact ⟨_, v0, rfl, f0, h0, fun H2 e => k _ H2 e rfl⟩
end
theorem ok_show_two {f : Addr} {fd : FuncData} (F : Fun K "show_two" "show_two" s_show_two f fd) (D_show_poly : Df P w K mg base CX0 1 "show_poly" ["poly"] (sp_show_poly K)) : FnOk P w K mg base CX0 2 f fd ["two"] (sp_show_two K) := by
  refine F.ok sc_show_two (fun vs H Q E h => ?_) (fun cdv A outer s H vs Q E hr h => ?_)
  · obtain ⟨two, v_two, rfl, _⟩ := h; rfl
  · obtain ⟨two, v_two, rfl, f_two, hpre0, q⟩ := h
    refine ⟨_, (pss_cons (ps_if (pt_cmpR (op_eqDK K hr.units) (pv 0) (pe_tup pa_nil) (nomark _)) (pss_one (ps_ret pe_str)) pss_nil)
 (pss_one (ps_ret (pe_join pe_str (pe_lc (own := [("poly", 1)]) (by rfl) sc_show_two.nd (pi_tupK K (pv 0)) (blkOk_by (own := [("poly", 1)]) (N := ["two", "poly"]) (sc := defScope s_show_two) (by decide +kernel)) (fun _ _ _ _ _ => (pg_name (i := 1) sc_show_two.nd rfl (Or.inl rfl))) (fun _ _ _ _ _ => pts_nil) (fun _ _ _ _ _ => (pe_call D_show_poly.ok (hr.mono (by omega)) (by rfl) D_show_poly.g D_show_poly.kp D_show_poly.b .nil pass0 (pa_cons (pv 1) pa_nil)))))))), ?_⟩
    have F0 : Ex H H := Ex.refl H
    have hl := hpre0.1
    refine q_when (et_t (er_eqD (er_var rfl f_two) (er_tup (R := (rT K rI)) eas0 (by decide)))) (fun hb_1 H1 e2 => ?_) (fun hb_1 H1 e2 => ?_)
    ·
      have hb_1' := hb_1
      simp only [Bool.and_eq_true, Bool.or_eq_true, Bool.not_eq_true', Bool.and_eq_false_iff, Bool.or_eq_false_iff, Bool.not_eq_false', decide_eq_true_eq, decide_eq_false_iff_not] at hb_1'
      replace f_two := Me.ex e2 f_two
      replace F0 := F0.trans e2
      refine s_ret (R := rX) (er_xc [46]) fun v H' e r => ?_
      cases r
      have z := q _ (F0.trans e)
      rw [show wT two = [46] by unfold wT; rw [if_pos hb_1']] at z; exact z
    have hb_1' := hb_1
    simp only [Bool.and_eq_true, Bool.or_eq_true, Bool.not_eq_true', Bool.and_eq_false_iff, Bool.or_eq_false_iff, Bool.not_eq_false', decide_eq_true_eq, decide_eq_false_iff_not] at hb_1'
    replace f_two := Me.ex e2 f_two
    replace F0 := F0.trans e2
    refine s_ret (R := rX) (er_xjoin (K := K) (er_xc [32, 59, 32]) (El.er (el_lcT (K := K) (er_var rfl f_two) (by first | omega | assumption | (simp only [List.length_append, List.length_cons, List.length_nil, List.length_map, List.length_range, List.length_set, rng_len, enm_len, repL_len] at *; omega)) (fun _ => rfl) (fun x3 v6 H1 e4 hx5 r7 => (er_call (eac (er_var rfl r7) ea0) (gv_show_poly (hpre0.2.1 _ (by assumption))))))) (hpre0.join)) fun v H' e r => ?_
    cases r
    have z := q _ (F0.trans e)
    rw [show wT two = TL.joinL [32, 59, 32] (two.map wP) by unfold wT; rw [if_neg hb_1']] at z; exact z

def sp_poly_in (K : PySem.W.Frag) : Sp := fun vs H Q _ => ∃ (p : Int) (text : (List Nat)) (most : Int), (vs = [.int p, .str (S text), .int most]) ∧ (OkT p most text) ∧ (most ≤ 100) ∧ (∀ (v : V) H', Ex H H' → (rT K rI) H' (rdP text) v → Q v H')
section
variable {K : PySem.W.Frag}
theorem gv_poly_in {p : Int} {text : (List Nat)} {most : Int} (h0 : OkT p most text) (h1 : most ≤ 100) : Gv (sp_poly_in K) (Ac rI p (Ac rX text (Ac rI most A0))) (rT K rI) (rdP text) := by
  intro vs H1 hp Q E k
  obtain ⟨v0, w0, rfl, f0, hp⟩ := hp
  cases f0
  obtain ⟨v1, w1, rfl, f1, hp⟩ := hp
  cases f1
  obtain ⟨v2, w2, rfl, f2, hp⟩ := hp
  cases f2
  cases hp
  exact ⟨_, _, _, rfl, h0, h1, fun v H2 e r => k v H2 e r⟩
end
theorem ok_poly_in {f : Addr} {fd : FuncData} (F : Fun K "poly_in" "poly_in" s_poly_in f fd) (n_tuple : mg "tuple" = none) (g_NoText : mg "NoText" = some (.ref C_NoText)) (n_len : mg "len" = none) (n_all : mg "all" = none) (n_int : mg "int" = none) (c_FIGURES : Cg mg "FIGURES" (.str "01234")) : FnOk P w K mg base CX0 1 f fd ["p", "text", "most"] (sp_poly_in K) := by
  refine F.ok sc_poly_in (fun vs H Q E h => ?_) (fun cdv A outer s H vs Q E hr h => ?_)
  · obtain ⟨p, text, most, rfl, _⟩ := h; rfl
  · obtain ⟨p, text, most, rfl, hpre0, hpre1, q⟩ := h
    refine ⟨_, (pss_cons (ps_if (pt_cmpR op_eq (pv 1) pe_str (nomark _)) (pss_one (ps_ret (pe_tup pa_nil))) pss_nil)
 (pss_cons (ps_set (i := 3) sc_poly_in.nd rfl (Or.inl rfl) (pe_split (pv 1) pe_str))
 (pss_cons (ps_if (PW.pt (pw_or (pt_cmpR op_gt (pe_callB (call_len_seqK K) (by rfl) n_len (by decide +kernel) (pa_cons (pv 3) pa_nil)) (pv 2) (nomark _)) (pw_or1 (pt_not (pt_val (pe_callB (cr_allK K rfl) (by rfl) n_all (by decide +kernel) (pa_cons (pe_lc (own := [("word", 4)]) (by rfl) sc_poly_in.nd (pi_listK K (pv 3)) (blkOk_by (own := [("word", 4)]) (N := ["p", "text", "most", "words", "word"]) (sc := defScope s_poly_in) (by decide +kernel)) (fun _ _ _ _ _ => (pg_name (i := 4) sc_poly_in.nd rfl (Or.inl rfl))) (fun _ _ _ _ _ => pts_nil) (fun _ _ _ _ _ => (pe_and (pe_cmpR op_ne (pv 4) pe_str (nomark _)) (pe_and (pe_cmpR op_in_str (pv 4) (pe_slice sl_str (C8.pe_gc (v := .str "01234") (by rfl) c_FIGURES) po_none (po_some (pv 0))) (by rfl)) (pe_one (pe_cmpR op_eq (pe_callB call_len_str (by rfl) n_len (by decide +kernel) (pa_cons (pv 4) pa_nil)) pe_int (nomark _))))))) pa_nil))))))) pss_never pss_nil)
 (pss_cons (ps_if (pt_cmpR op_eq (pe_ix (ix_listK K) (pv 3) (pe_un un_neg pe_int) (fun _ _ => rfl)) pe_str (nomark _)) pss_never pss_nil)
 (pss_one (ps_ret (pe_callTy (call_tuple_ofK K) (by rfl) n_tuple (by decide +kernel) (pa_cons (pe_lc (own := [("word", 4)]) (by rfl) sc_poly_in.nd (pi_listK K (pv 3)) (blkOk_by (own := [("word", 4)]) (N := ["p", "text", "most", "words", "word"]) (sc := defScope s_poly_in) (by decide +kernel)) (fun _ _ _ _ _ => (pg_name (i := 4) sc_poly_in.nd rfl (Or.inl rfl))) (fun _ _ _ _ _ => pts_nil) (fun _ _ _ _ _ => (pe_callTy call_int_str (by rfl) n_int (by decide +kernel) (pa_cons (pv 4) pa_nil)))) pa_nil)))))))), ?_⟩
    have F0 : Ex H H := Ex.refl H
    have hl := hpre0.1
    have hp := hpre0.2.1
    refine q_when (et_t (er_xeq er_xv (er_xc [45]))) (fun hb_1 H1 e2 => ?_) (fun hb_1 H1 e2 => ?_)
    ·
      skip
      replace F0 := F0.trans e2
      refine s_ret (R := (rT K rI)) (er_tup (R := rI) eas0 (by decide)) fun v H' e r => ?_
      exact q v H' (F0.trans e) (by unfold rdP; first | (rw [if_pos (of_decide_eq_true hb_1)]; exact r) | (rw [if_neg (of_decide_eq_false hb_1)]; exact r))
    have hw := hpre0.2.2 (of_decide_eq_false hb_1)
    replace F0 := F0.trans e2
    refine q_asgL (el_xsplit er_xv (er_xc [32]) (by first | omega | assumption | (simp only [List.length_append, List.length_cons, List.length_nil, List.length_map, List.length_range, List.length_set, rng_len, enm_len, repL_len] at *; omega)) (by decide) (by decide)) fun p5 H3 n6 e4 l7 => ?_
    have n0p5 : H p5 = none := fresh_back F0 n6
    replace F0 := F0.trans e4
    refine q_not (et_or (et_t (er_cmp (er_lenL (er_var rfl (Lt.rl l7))) er_iv)) fun hc14 => (et_not (et_b (er_all (El.er (el_lcLX (K := K) (er_var rfl (Lt.rl l7)) (hw.lt hpre1) (fun _ => rfl) (fun x8 H1 e9 hx10 => (er_andV (er_xne er_xv (er_xc [])) fun hc13 => (er_andV (er_xin er_xv (er_xsl (er_xc [48, 49, 50, 51, 52]) eo0 (eo1 er_iv) (by first | omega | assumption | (simp only [List.length_append, List.length_cons, List.length_nil, List.length_map, List.length_range, List.length_set, rng_len, enm_len, repL_len] at *; omega)))) fun hc12 => (er_eqI (er_xlen er_xv (hw.len' (by assumption))) er_int)))))))))) (hw.no1 hp) fun H15 e16 => ?_
    replace l7 := Lt.ex l7 e16
    replace F0 := F0.trans e16
    refine q_not (et_t (er_xeq (er_ixL0 [] (er_var rfl (Lt.rl l7)) (er_neg er_int) (by have := hw.ne; exact (by omega : -((wds text).length : Int) ≤ -1)) (by have := hw.ne; exact (by omega : (-1 : Int) < ((wds text).length : Int)))) (er_xc [48]))) (decide_eq_false hw.last) fun H17 e18 => ?_
    replace l7 := Lt.ex l7 e18
    replace F0 := F0.trans e18
    refine s_ret (R := (rT K rI)) (er_tupL (El.er (el_lcLX (K := K) (er_var rfl (Lt.rl l7)) (hw.lt hpre1) (fun _ => rfl) (fun x19 H1 e20 hx21 => (er_xint (n := (dgI x19)) er_xv (hw.int hp (by assumption)) (hw.len (by assumption))))))) fun v H' e r => ?_
    exact q v H' (F0.trans e) (by unfold rdP; first | (rw [if_pos (of_decide_eq_true hb_1)]; exact r) | (rw [if_neg (of_decide_eq_false hb_1)]; exact r))

def sp_two_in (K : PySem.W.Frag) : Sp := fun vs H Q _ => ∃ (p : Int) (text : (List Nat)) (most : Int), (vs = [.int p, .str (S text), .int most]) ∧ (OkTT p most text) ∧ (most ≤ 100) ∧ (∀ (v : V) H', Ex H H' → (rT K (rT K rI)) H' (rdT text) v → Q v H')
section
variable {K : PySem.W.Frag}
theorem gv_two_in {p : Int} {text : (List Nat)} {most : Int} (h0 : OkTT p most text) (h1 : most ≤ 100) : Gv (sp_two_in K) (Ac rI p (Ac rX text (Ac rI most A0))) (rT K (rT K rI)) (rdT text) := by
  intro vs H1 hp Q E k
  obtain ⟨v0, w0, rfl, f0, hp⟩ := hp
  cases f0
  obtain ⟨v1, w1, rfl, f1, hp⟩ := hp
  cases f1
  obtain ⟨v2, w2, rfl, f2, hp⟩ := hp
  cases f2
  cases hp
  exact ⟨_, _, _, rfl, h0, h1, fun v H2 e r => k v H2 e r⟩
end
theorem ok_two_in {f : Addr} {fd : FuncData} (F : Fun K "two_in" "two_in" s_two_in f fd) (n_tuple : mg "tuple" = none) (g_NoText : mg "NoText" = some (.ref C_NoText)) (n_len : mg "len" = none) (D_poly_in : Df P w K mg base CX0 1 "poly_in" ["p", "text", "most"] (sp_poly_in K)) (c_MOST_OF_TWO : Cg mg "MOST_OF_TWO" (.int 4)) : FnOk P w K mg base CX0 2 f fd ["p", "text", "most"] (sp_two_in K) := by
  refine F.ok sc_two_in (fun vs H Q E h => ?_) (fun cdv A outer s H vs Q E hr h => ?_)
  · obtain ⟨p, text, most, rfl, _⟩ := h; rfl
  · obtain ⟨p, text, most, rfl, hpre0, hpre1, q⟩ := h
    refine ⟨_, (pss_cons (ps_if (pt_cmpR op_eq (pv 1) pe_str (nomark _)) (pss_one (ps_ret (pe_tup pa_nil))) pss_nil)
 (pss_cons (ps_set (i := 3) sc_two_in.nd rfl (Or.inl rfl) (pe_split (pv 1) pe_str))
 (pss_cons (ps_if (PW.pt (pw_or (pt_cmpR op_gt (pe_callB (call_len_seqK K) (by rfl) n_len (by decide +kernel) (pa_cons (pv 3) pa_nil)) (pv 2) (nomark _)) (pw_or1 (pt_cmpR op_eq (pe_ix (ix_listK K) (pv 3) (pe_un un_neg pe_int) (fun _ _ => rfl)) pe_str (nomark _))))) pss_never pss_nil)
 (pss_one (ps_ret (pe_callTy (call_tuple_ofK K) (by rfl) n_tuple (by decide +kernel) (pa_cons (pe_lc (own := [("one", 4)]) (by rfl) sc_two_in.nd (pi_listK K (pv 3)) (blkOk_by (own := [("one", 4)]) (N := ["p", "text", "most", "texts", "one"]) (sc := defScope s_two_in) (by decide +kernel)) (fun _ _ _ _ _ => (pg_name (i := 4) sc_two_in.nd rfl (Or.inl rfl))) (fun _ _ _ _ _ => pts_nil) (fun _ _ _ _ _ => (pe_call D_poly_in.ok (hr.mono (by omega)) (by rfl) D_poly_in.g D_poly_in.kp D_poly_in.b .nil pass0 (pa_cons (pv 0) (pa_cons (pv 4) (pa_cons (C8.pe_gc (v := .int 4) (by rfl) c_MOST_OF_TWO) pa_nil)))))) pa_nil))))))), ?_⟩
    have F0 : Ex H H := Ex.refl H
    have hl := hpre0.1
    refine q_when (et_t (er_xeq er_xv (er_xc [46]))) (fun hb_1 H1 e2 => ?_) (fun hb_1 H1 e2 => ?_)
    ·
      skip
      replace F0 := F0.trans e2
      refine s_ret (R := (rT K (rT K rI))) (er_tup (R := (rT K rI)) eas0 (by decide)) fun v H' e r => ?_
      exact q v H' (F0.trans e) (by unfold rdT; first | (rw [if_pos (of_decide_eq_true hb_1)]; exact r) | (rw [if_neg (of_decide_eq_false hb_1)]; exact r))
    have hw := hpre0.2.2 (of_decide_eq_false hb_1)
    replace F0 := F0.trans e2
    refine q_asgL (el_xsplit er_xv (er_xc [32, 59, 32]) (by first | omega | assumption | (simp only [List.length_append, List.length_cons, List.length_nil, List.length_map, List.length_range, List.length_set, rng_len, enm_len, repL_len] at *; omega)) (by decide) (by decide)) fun p5 H3 n6 e4 l7 => ?_
    have n0p5 : H p5 = none := fresh_back F0 n6
    replace F0 := F0.trans e4
    refine q_not (et_or (et_t (er_cmp (er_lenL (er_var rfl (Lt.rl l7))) er_iv)) fun hc8 => (et_t (er_xeq (er_ixL0 [] (er_var rfl (Lt.rl l7)) (er_neg er_int) (by have := hw.ne; exact (by omega : -((txs text).length : Int) ≤ -1)) (by have := hw.ne; exact (by omega : (-1 : Int) < ((txs text).length : Int)))) (er_xc [45])))) hw.no1 fun H9 e10 => ?_
    replace l7 := Lt.ex l7 e10
    replace F0 := F0.trans e10
    refine s_ret (R := (rT K (rT K rI))) (er_tupL (El.er (el_lcLX (K := K) (er_var rfl (Lt.rl l7)) (hw.lt hpre1) (fun _ => rfl) (fun x11 H1 e12 hx13 => (er_call (eac er_iv (eac er_xv (eac er_int ea0))) (gv_poly_in (hw.one _ (by assumption)) (by decide))))))) fun v H' e r => ?_
    exact q v H' (F0.trans e) (by unfold rdT; first | (rw [if_pos (of_decide_eq_true hb_1)]; exact r) | (rw [if_neg (of_decide_eq_false hb_1)]; exact r))

end
section
variable {P : Program} {w : World} {K : PySem.W.Frag} {mg : Str → Option Value} {base : Heap}
def sp_look_prime (K : PySem.W.Frag) : Sp := fun vs H Q _ => ∃ (p : Int), (vs = [.int p]) ∧ (Pr p) ∧ (∀ H', Ex H H' → Q .non H')
section
variable {K : PySem.W.Frag}
theorem gv_look_prime {p : Int} (h0 : Pr p) : Gv (sp_look_prime K) (Ac rI p A0) rN () := by
  intro vs H1 hp Q E k
  obtain ⟨v0, w0, rfl, f0, hp⟩ := hp
  cases f0
  cases hp
  exact ⟨_, rfl, h0, fun H2 e => k _ H2 e rfl⟩
end
theorem ok_look_prime {f : Addr} {fd : FuncData} (F : Fun K "look_prime" "look_prime" s_look_prime f fd) (D_is_prime : Df P w K mg base CX0 2 "is_prime" ["thing"] (sp_is_prime K)) (g_NoPrime : mg "NoPrime" = some (.ref C_NoPrime)) : FnOk P w K mg base CX0 3 f fd ["p"] (sp_look_prime K) := by
  refine F.ok sc_look_prime (fun vs H Q E h => ?_) (fun cdv A outer s H vs Q E hr h => ?_)
  · obtain ⟨p, rfl, _⟩ := h; rfl
  · obtain ⟨p, rfl, hpre0, q⟩ := h
    refine ⟨_, (pss_one (ps_if (pt_not (pt_val (pe_call D_is_prime.ok (hr.mono (by omega)) (by rfl) D_is_prime.g D_is_prime.kp D_is_prime.b .nil pass0 (pa_cons (pv 0) pa_nil)))) pss_never pss_nil)), ?_⟩
    have F0 : Ex H H := Ex.refl H
    refine s_not (et_not (et_b (er_call (eac er_iv ea0) (gv_is_prime )))) (by rw [hpre0.is]; rfl) fun H1 e2 => ?_
    replace F0 := F0.trans e2
    exact q _ F0

def sp_read_poly (K : PySem.W.Frag) : Sp := fun vs H Q _ => ∃ (p : Int) (thing : (List Nat)), (vs = [.int p, .str (S thing)]) ∧ (Pr p) ∧ (OkT p 12 thing) ∧ (∀ (v : V) H', Ex H H' → (rT K rI) H' (rdP thing) v → Q v H')
section
variable {K : PySem.W.Frag}
theorem gv_read_poly {p : Int} {thing : (List Nat)} (h0 : Pr p) (h1 : OkT p 12 thing) : Gv (sp_read_poly K) (Ac rI p (Ac rX thing A0)) (rT K rI) (rdP thing) := by
  intro vs H1 hp Q E k
  obtain ⟨v0, w0, rfl, f0, hp⟩ := hp
  cases f0
  obtain ⟨v1, w1, rfl, f1, hp⟩ := hp
  cases f1
  cases hp
  exact ⟨_, _, rfl, h0, h1, fun v H2 e r => k v H2 e r⟩
end
theorem ok_read_poly {f : Addr} {fd : FuncData} (F : Fun K "read_poly" "read_poly" s_read_poly f fd) (D_look_prime : Df P w K mg base CX0 3 "look_prime" ["p"] (sp_look_prime K)) (D_poly_in : Df P w K mg base CX0 1 "poly_in" ["p", "text", "most"] (sp_poly_in K)) (c_MOST_NUMBERS : Cg mg "MOST_NUMBERS" (.int 12)) (n_isinstance : mg "isinstance" = none) (n_str : mg "str" = none) (g_NoText : mg "NoText" = some (.ref C_NoText)) : FnOk P w K mg base CX0 4 f fd ["p", "thing"] (sp_read_poly K) := by
  refine F.ok sc_read_poly (fun vs H Q E h => ?_) (fun cdv A outer s H vs Q E hr h => ?_)
  · obtain ⟨p, thing, rfl, _⟩ := h; rfl
  · obtain ⟨p, thing, rfl, hpre0, hpre1, q⟩ := h
    refine ⟨_, (pss_cons (ps_expr (pe_call D_look_prime.ok (hr.mono (by omega)) (by rfl) D_look_prime.g D_look_prime.kp D_look_prime.b .nil pass0 (pa_cons (pv 0) pa_nil)))
 (pss_cons (ps_if (pt_not (pt_val (pe_callB (call_isiK' K) (by rfl) n_isinstance (by decide +kernel) (pa_cons (pv 1) (pa_cons (pe_bltn (v := .ty "str") (by rfl) n_str (by decide +kernel) rfl) pa_nil))))) pss_never pss_nil)
 (pss_one (ps_ret (pe_call D_poly_in.ok (hr.mono (by omega)) (by rfl) D_poly_in.g D_poly_in.kp D_poly_in.b .nil pass0 (pa_cons (pv 0) (pa_cons (pv 1) (pa_cons (C8.pe_gc (v := .int 12) (by rfl) c_MOST_NUMBERS) pa_nil)))))))), ?_⟩
    have F0 : Ex H H := Ex.refl H
    refine q_drop (R := rN) (er_call (eac er_iv ea0) (gv_look_prime (by first | assumption | omega | (simp only [List.length_append, List.length_cons, List.length_nil, List.length_map, List.length_range, List.length_set, rng_len, enm_len, repL_len] at *; omega)))) fun H1 e2 => ?_
    replace F0 := F0.trans e2
    refine q_not (et_not (et_b (er_isX er_xv))) rfl fun H3 e4 => ?_
    replace F0 := F0.trans e4
    refine s_ret (R := (rT K rI)) (er_call (eac er_iv (eac er_xv (eac er_int ea0))) (gv_poly_in (by first | assumption | omega | (simp only [List.length_append, List.length_cons, List.length_nil, List.length_map, List.length_range, List.length_set, rng_len, enm_len, repL_len] at *; omega)) (by decide))) fun v H' e r => ?_
    exact q v H' (F0.trans e) (by exact r)

def sp_read_two (K : PySem.W.Frag) : Sp := fun vs H Q _ => ∃ (p : Int) (thing : (List Nat)), (vs = [.int p, .str (S thing)]) ∧ (Pr p) ∧ (OkTT p 7 thing) ∧ (∀ (v : V) H', Ex H H' → (rT K (rT K rI)) H' (rdT thing) v → Q v H')
section
variable {K : PySem.W.Frag}
theorem gv_read_two {p : Int} {thing : (List Nat)} (h0 : Pr p) (h1 : OkTT p 7 thing) : Gv (sp_read_two K) (Ac rI p (Ac rX thing A0)) (rT K (rT K rI)) (rdT thing) := by
  intro vs H1 hp Q E k
  obtain ⟨v0, w0, rfl, f0, hp⟩ := hp
  cases f0
  obtain ⟨v1, w1, rfl, f1, hp⟩ := hp
  cases f1
  cases hp
  exact ⟨_, _, rfl, h0, h1, fun v H2 e r => k v H2 e r⟩
end
theorem ok_read_two {f : Addr} {fd : FuncData} (F : Fun K "read_two" "read_two" s_read_two f fd) (D_look_prime : Df P w K mg base CX0 3 "look_prime" ["p"] (sp_look_prime K)) (D_two_in : Df P w K mg base CX0 2 "two_in" ["p", "text", "most"] (sp_two_in K)) (c_MOST_POLYS : Cg mg "MOST_POLYS" (.int 7)) (n_isinstance : mg "isinstance" = none) (n_str : mg "str" = none) (g_NoText : mg "NoText" = some (.ref C_NoText)) : FnOk P w K mg base CX0 4 f fd ["p", "thing"] (sp_read_two K) := by
  refine F.ok sc_read_two (fun vs H Q E h => ?_) (fun cdv A outer s H vs Q E hr h => ?_)
  · obtain ⟨p, thing, rfl, _⟩ := h; rfl
  · obtain ⟨p, thing, rfl, hpre0, hpre1, q⟩ := h
    refine ⟨_, (pss_cons (ps_expr (pe_call D_look_prime.ok (hr.mono (by omega)) (by rfl) D_look_prime.g D_look_prime.kp D_look_prime.b .nil pass0 (pa_cons (pv 0) pa_nil)))
 (pss_cons (ps_if (pt_not (pt_val (pe_callB (call_isiK' K) (by rfl) n_isinstance (by decide +kernel) (pa_cons (pv 1) (pa_cons (pe_bltn (v := .ty "str") (by rfl) n_str (by decide +kernel) rfl) pa_nil))))) pss_never pss_nil)
 (pss_one (ps_ret (pe_call D_two_in.ok (hr.mono (by omega)) (by rfl) D_two_in.g D_two_in.kp D_two_in.b .nil pass0 (pa_cons (pv 0) (pa_cons (pv 1) (pa_cons (C8.pe_gc (v := .int 7) (by rfl) c_MOST_POLYS) pa_nil)))))))), ?_⟩
    have F0 : Ex H H := Ex.refl H
    refine q_drop (R := rN) (er_call (eac er_iv ea0) (gv_look_prime (by first | assumption | omega | (simp only [List.length_append, List.length_cons, List.length_nil, List.length_map, List.length_range, List.length_set, rng_len, enm_len, repL_len] at *; omega)))) fun H1 e2 => ?_
    replace F0 := F0.trans e2
    refine q_not (et_not (et_b (er_isX er_xv))) rfl fun H3 e4 => ?_
    replace F0 := F0.trans e4
    refine s_ret (R := (rT K (rT K rI))) (er_call (eac er_iv (eac er_xv (eac er_int ea0))) (gv_two_in (by first | assumption | omega | (simp only [List.length_append, List.length_cons, List.length_nil, List.length_map, List.length_range, List.length_set, rng_len, enm_len, repL_len] at *; omega)) (by decide))) fun v H' e r => ?_
    exact q v H' (F0.trans e) (by exact r)

def sp__law_numbers (K : PySem.W.Frag) : Sp := fun vs H Q _ => ∃ (l_p : Int) (l_many : Int) (b : Addr), (vs = [.ref b, .int l_p, .int l_many]) ∧ (Bag H b) ∧ (0 < l_p ∧ l_p < 1000000) ∧ (0 ≤ l_many ∧ l_many < 1000) ∧ (∀ (r : (List Int)) (v : V) H', C1 b H H' → Bag H' b → (rT K rI) H' r v → (r.length = l_many.toNat) → (∀ x ∈ r, 0 ≤ x ∧ x < l_p) → Q v H')
theorem ok__law_numbers {f : Addr} {fd : FuncData} (F : Fun K "_law_numbers" "_law_numbers" s__law_numbers f fd) (n_tuple : mg "tuple" = none) (D__law_take : Df P w K mg base CX0 1 "_law_take" ["_law_bag_here", "_law_many"] (sp__law_take K)) (n_range : mg "range" = none) : FnOk P w K mg base CX0 2 f fd ["_law_bag_here", "_law_p", "_law_many"] (sp__law_numbers K) := by
  refine F.ok sc__law_numbers (fun vs H Q E h => ?_) (fun cdv A outer s H vs Q E hr h => ?_)
  · obtain ⟨l_p, l_many, b, rfl, _⟩ := h; rfl
  · obtain ⟨l_p, l_many, b, rfl, B0, hpre0, hpre1, q⟩ := h
    refine ⟨_, (pss_one (ps_ret (pe_callTy (call_tuple_ofK K) (by rfl) n_tuple (by decide +kernel) (pa_cons (pe_lc (own := [("_law_k", 3)]) (by rfl) sc__law_numbers.nd (pi_range1 (by rfl) n_range (pa_cons (pv 2) pa_nil)) (blkOk_by (own := [("_law_k", 3)]) (N := ["_law_bag_here", "_law_p", "_law_many", "_law_k"]) (sc := defScope s__law_numbers) (by decide +kernel)) (fun _ _ _ _ _ => (pg_name (i := 3) sc__law_numbers.nd rfl (Or.inl rfl))) (fun _ _ _ _ _ => pts_nil) (fun _ _ _ _ _ => (pe_call D__law_take.ok (hr.mono (by omega)) (by rfl) D__law_take.g D__law_take.kp D__law_take.b .nil pass0 (pa_cons (pv 0) (pa_cons (pv 1) pa_nil))))) pa_nil)))), ?_⟩
    have F0 : C1 b H H := C1.refl b H
    refine s_ret0 ?_
    refine go_cbA ?_
    refine go_cons ?_
    refine go_lcR1B (K := K) (R := rI) ((fun y => 0 ≤ y ∧ y < l_p)) B0 er_iv ⟨by omega, by omega⟩ (fun _ => rfl) (fun x1 H2 C3 c4 B5 hx6 k7 => ?_) fun p8 H9 ys13 n10 c11 B12 hl14 hy15 l16 => ?_
    ·
      have kt17 : Kt K _ _ := Bag.kt B0 c4
      replace F0 := F0.trans c4
      replace B0 := B5
      have G0 : C1 b _ _ := C1.refl b H2
      refine go_callA ?_
      refine go_cons ?_
      refine ⟨_, rfl, ?_⟩
      refine go_cons ?_
      refine ⟨_, rfl, ?_⟩
      refine go_nil ?_
      refine ⟨b, _, rfl, B0, (by first | assumption | omega | (simp only [List.length_append, List.length_cons, List.length_nil, List.length_map, List.length_range, List.length_set, rng_len, enm_len, repL_len] at *; omega)), (by first | assumption | omega | (simp only [List.length_append, List.length_cons, List.length_nil, List.length_map, List.length_range, List.length_set, rng_len, enm_len, repL_len] at *; omega)), fun y21 H20 c22 B23 hqy21_0 => ?_⟩
      have kt24 : Kt K _ _ := Bag.kt B0 c22
      replace F0 := F0.trans c22
      replace B0 := B23
      replace G0 := G0.trans c22
      exact k7 _ _ y21 G0 B0 rfl (by first | assumption | omega | (simp only [List.length_append, List.length_cons, List.length_nil, List.length_map, List.length_range, List.length_set, rng_len, enm_len, repL_len] at *; omega))
    have nebp8 : b ≠ p8 := B0.ne n10
    have n0p8 : H p8 = none := fb F0 B0 n10
    have kt25 : Kt K _ _ := Bag.kt B0 c11
    replace F0 := F0.trans c11
    replace B0 := B12
    refine go_nil ?_
    refine go_R (R := (rT K rI)) (er_tupL (er_K (Lt.rl l16))) fun v29 H27 e28 f30 => ?_
    replace B0 := Bag.ex B0 e28
    replace l16 := Lt.ex l16 e28
    replace F0 := F0.trans (C1.ex e28)
    exact q _ v29 _ F0 B0 f30 (by first | assumption | omega | (simp only [List.length_append, List.length_cons, List.length_nil, List.length_map, List.length_range, List.length_set, rng_len, enm_len, repL_len] at *; omega)) (by first | assumption | omega | (simp only [List.length_append, List.length_cons, List.length_nil, List.length_map, List.length_range, List.length_set, rng_len, enm_len, repL_len] at *; omega))

def m__law_trimmed (l_numbers_here : (List Int)) : (List Int) := (cutL l_numbers_here none (some ((mxD (0 : Int) (((((rng 0 (l_numbers_here.length : Int))).filter fun x3 => (!decide ((gt0 (0 : Int) l_numbers_here x3) = (0 : Int)))).map fun x3 => (x3 + (1 : Int))))))))
def sp__law_trimmed (K : PySem.W.Frag) : Sp := fun vs H Q _ => ∃ (l_numbers_here : (List Int)) (v_l_numbers_here : V), (vs = [v_l_numbers_here]) ∧ ((rT K rI) H l_numbers_here v_l_numbers_here) ∧ (l_numbers_here.length ≤ 1000) ∧ (∀ (v : V) H', Ex H H' → (rT K rI) H' (m__law_trimmed l_numbers_here) v → Q v H')
section
variable {K : PySem.W.Frag}
theorem gv__law_trimmed {l_numbers_here : (List Int)} (h0 : l_numbers_here.length ≤ 1000) : Gv (sp__law_trimmed K) (Ac (rT K rI) l_numbers_here A0) (rT K rI) (m__law_trimmed l_numbers_here) := by
  intro vs H1 hp Q E k
  obtain ⟨v0, w0, rfl, f0, hp⟩ := hp
  cases hp
  exact ⟨_, v0, rfl, f0, h0, fun v H2 e r => k v H2 e r⟩
end
theorem ok__law_trimmed {f : Addr} {fd : FuncData} (F : Fun K "_law_trimmed" "_law_trimmed" s__law_trimmed f fd) (n_max : mg "max" = none) (n_tuple : mg "tuple" = none) (n_range : mg "range" = none) (n_len : mg "len" = none) : FnOk P w K mg base CX0 1 f fd ["_law_numbers_here"] (sp__law_trimmed K) := by
  refine F.ok sc__law_trimmed (fun vs H Q E h => ?_) (fun cdv A outer s H vs Q E hr h => ?_)
  · obtain ⟨l_numbers_here, v_l_numbers_here, rfl, _⟩ := h; rfl
  · obtain ⟨l_numbers_here, v_l_numbers_here, rfl, f_l_numbers_here, hpre0, q⟩ := h
    refine ⟨_, (pss_cons (ps_set (i := 1) sc__law_trimmed.nd rfl (Or.inl rfl) (pe_maxdK K (by rfl) n_max (by decide +kernel) hr.units rfl (pe_lc (own := [("_law_k", 2)]) (by rfl) sc__law_trimmed.nd (pi_range1 (by rfl) n_range (pa_cons (pe_callB (call_len_seqK K) (by rfl) n_len (by decide +kernel) (pa_cons (pv 0) pa_nil)) pa_nil)) (blkOk_by (own := [("_law_k", 2)]) (N := ["_law_numbers_here", "_law_many", "_law_k"]) (sc := defScope s__law_trimmed) (by decide +kernel)) (fun _ _ _ _ _ => (pg_name (i := 2) sc__law_trimmed.nd rfl (Or.inl rfl))) (fun _ _ _ _ _ => (pts_one (pt_cmpR op_ne (pe_ix (ix_tupK K) (pv 0) (pv 2) (fun _ _ => rfl)) pe_int (nomark _)))) (fun _ _ _ _ _ => (pe_op op_add (pv 2) pe_int))) pe_int))
 (pss_one (ps_ret (pe_callTy (call_tuple_ofK K) (by rfl) n_tuple (by decide +kernel) (pa_cons (pe_slice (sl_tupAK K) (pv 0) po_none (po_some (pv 1))) pa_nil))))), ?_⟩
    have F0 : Ex H H := Ex.refl H
    refine q_asgI (er_maxd (El.er (el_lcR1c (K := K) (er_lenT (er_var rfl f_l_numbers_here)) (by first | omega | assumption | (simp only [List.length_append, List.length_cons, List.length_nil, List.length_map, List.length_range, List.length_set, rng_len, enm_len, repL_len] at *; omega)) (fun _ => rfl) (fun x3 H1 e4 hx5 => (et_t (er_neI (er_ixT0 (0 : Int) (er_var rfl (Me.ex e4 f_l_numbers_here)) er_iv (by first | omega | assumption | (simp; omega) | (simp only [List.length_append, List.length_cons, List.length_nil, List.length_map, List.length_range, List.length_set, rng_len, enm_len, repL_len] at *; omega)) (by first | omega | assumption | (simp; omega) | (simp only [List.length_append, List.length_cons, List.length_nil, List.length_map, List.length_range, List.length_set, rng_len, enm_len, repL_len] at *; omega))) er_int))) (fun x3 H1 e4 hx5 => fun hc6 => (er_op0 er_iv er_int)))) er_int) fun H1 e2 => ?_
    replace f_l_numbers_here := Me.ex e2 f_l_numbers_here
    replace F0 := F0.trans e2
    refine s_ret (R := (rT K rI)) (er_tupT (er_slT (er_var rfl f_l_numbers_here) eo0 (eo1 er_iv))) fun v H' e r => ?_
    exact q v H' (F0.trans e) (by exact r)

end
section
variable {P : Program} {w : World} {K : PySem.W.Frag} {mg : Str → Option Value} {base : Heap}
def sp__law_poly (K : PySem.W.Frag) : Sp := fun vs H Q _ => ∃ (l_p : Int) (l_most : Int) (b : Addr), (vs = [.ref b, .int l_p, .int l_most]) ∧ (Bag H b) ∧ (2 ≤ l_p ∧ l_p ≤ 5) ∧ (0 ≤ l_most ∧ l_most ≤ 20) ∧ (∀ (r : (List Int)) (v : V) H', C1 b H H' → Bag H' b → (rT K rI) H' r v → (PolyOk l_p l_most r) → Q v H')
theorem ok__law_poly {f : Addr} {fd : FuncData} (F : Fun K "_law_poly" "_law_poly" s__law_poly f fd) (D__law_trimmed : Df P w K mg base CX0 1 "_law_trimmed" ["_law_numbers_here"] (sp__law_trimmed K)) (D__law_numbers : Df P w K mg base CX0 2 "_law_numbers" ["_law_bag_here", "_law_p", "_law_many"] (sp__law_numbers K)) (D__law_take : Df P w K mg base CX0 1 "_law_take" ["_law_bag_here", "_law_many"] (sp__law_take K)) : FnOk P w K mg base CX0 3 f fd ["_law_bag_here", "_law_p", "_law_most"] (sp__law_poly K) := by
  refine F.ok sc__law_poly (fun vs H Q E h => ?_) (fun cdv A outer s H vs Q E hr h => ?_)
  · obtain ⟨l_p, l_most, b, rfl, _⟩ := h; rfl
  · obtain ⟨l_p, l_most, b, rfl, B0, hpre0, hpre1, q⟩ := h
    refine ⟨_, (pss_one (ps_ret (pe_call D__law_trimmed.ok (hr.mono (by omega)) (by rfl) D__law_trimmed.g D__law_trimmed.kp D__law_trimmed.b .nil pass0 (pa_cons (pe_call D__law_numbers.ok (hr.mono (by omega)) (by rfl) D__law_numbers.g D__law_numbers.kp D__law_numbers.b .nil pass0 (pa_cons (pv 0) (pa_cons (pv 1) (pa_cons (pe_call D__law_take.ok (hr.mono (by omega)) (by rfl) D__law_take.g D__law_take.kp D__law_take.b .nil pass0 (pa_cons (pv 0) (pa_cons (pe_op op_add (pv 2) pe_int) pa_nil))) pa_nil)))) pa_nil)))), ?_⟩
    have F0 : C1 b H H := C1.refl b H
    refine s_ret0 ?_
    refine go_callA ?_
    refine go_cons ?_
    refine go_callA ?_
    refine go_cons ?_
    refine ⟨_, rfl, ?_⟩
    refine go_cons ?_
    refine ⟨_, rfl, ?_⟩
    refine go_cons ?_
    refine go_callA ?_
    refine go_cons ?_
    refine ⟨_, rfl, ?_⟩
    refine go_cons ?_
    refine go_I (er_op0 er_iv er_int) fun H4 e5 => ?_
    replace B0 := Bag.ex B0 e5
    replace F0 := F0.trans (C1.ex e5)
    refine go_nil ?_
    refine ⟨b, _, rfl, B0, (by first | assumption | omega | (simp only [List.length_append, List.length_cons, List.length_nil, List.length_map, List.length_range, List.length_set, rng_len, enm_len, repL_len] at *; omega)), (by first | assumption | omega | (simp only [List.length_append, List.length_cons, List.length_nil, List.length_map, List.length_range, List.length_set, rng_len, enm_len, repL_len] at *; omega)), fun y8 H7 c9 B10 hqy8_0 => ?_⟩
    have kt11 : Kt K _ _ := Bag.kt B0 c9
    replace F0 := F0.trans c9
    replace B0 := B10
    refine go_nil ?_
    refine ⟨_, _, b, rfl, B0, (by first | assumption | omega | (simp only [List.length_append, List.length_cons, List.length_nil, List.length_map, List.length_range, List.length_set, rng_len, enm_len, repL_len] at *; omega)), (by first | assumption | omega | (simp only [List.length_append, List.length_cons, List.length_nil, List.length_map, List.length_range, List.length_set, rng_len, enm_len, repL_len] at *; omega)), fun y14 v17 H13 c15 B16 f18 hqy14_0 hqy14_1 => ?_⟩
    have kt19 : Kt K _ _ := Bag.kt B0 c15
    replace F0 := F0.trans c15
    replace B0 := B16
    refine go_nil ?_
    refine ⟨_, v17, rfl, f18, (by first | assumption | omega | (simp only [List.length_append, List.length_cons, List.length_nil, List.length_map, List.length_range, List.length_set, rng_len, enm_len, repL_len] at *; omega)), fun v25 H21 c23 f26 => ?_⟩
    replace B0 := Bag.ex B0 c23
    replace f18 := Me.ex c23 f18
    replace F0 := F0.trans (C1.ex c23)
    exact q _ v25 _ F0 B0 f26 (trim_ok (by assumption) (by omega))

def sp__law_two (K : PySem.W.Frag) : Sp := fun vs H Q _ => ∃ (l_p : Int) (b : Addr), (vs = [.ref b, .int l_p]) ∧ (Bag H b) ∧ (2 ≤ l_p ∧ l_p ≤ 5) ∧ (∀ (r : (List (List Int))) (v : V) H', C1 b H H' → Bag H' b → (rT K (rT K rI)) H' r v → (TwoOk l_p 7 4 r) → Q v H')
theorem ok__law_two {f : Addr} {fd : FuncData} (F : Fun K "_law_two" "_law_two" s__law_two f fd) (n_max : mg "max" = none) (n_tuple : mg "tuple" = none) (D__law_poly : Df P w K mg base CX0 3 "_law_poly" ["_law_bag_here", "_law_p", "_law_most"] (sp__law_poly K)) (n_range : mg "range" = none) (D__law_take : Df P w K mg base CX0 1 "_law_take" ["_law_bag_here", "_law_many"] (sp__law_take K)) (n_len : mg "len" = none) : FnOk P w K mg base CX0 4 f fd ["_law_bag_here", "_law_p"] (sp__law_two K) := by
  refine F.ok sc__law_two (fun vs H Q E h => ?_) (fun cdv A outer s H vs Q E hr h => ?_)
  · obtain ⟨l_p, b, rfl, _⟩ := h; rfl
  · obtain ⟨l_p, b, rfl, B0, hpre0, q⟩ := h
    refine ⟨_, (pss_cons (ps_set (i := 2) sc__law_two.nd rfl (Or.inr rfl) (pe_lc (own := [("_law_turn", 4)]) (by rfl) sc__law_two.nd (pi_range1 (by rfl) n_range (pa_cons (pe_call D__law_take.ok (hr.mono (by omega)) (by rfl) D__law_take.g D__law_take.kp D__law_take.b .nil pass0 (pa_cons (pv 0) (pa_cons pe_int pa_nil))) pa_nil)) (blkOk_by (own := [("_law_turn", 4)]) (N := ["_law_bag_here", "_law_p", "_law_polys", "_law_many", "_law_turn", "_law_j"]) (sc := defScope s__law_two) (by decide +kernel)) (fun _ _ _ _ _ => (pg_name (i := 4) sc__law_two.nd rfl (Or.inl rfl))) (fun _ _ _ _ _ => pts_nil) (fun _ _ _ _ _ => (pe_call D__law_poly.ok (hr.mono (by omega)) (by rfl) D__law_poly.g D__law_poly.kp D__law_poly.b .nil pass0 (pa_cons (pv 0) (pa_cons (pv 1) (pa_cons pe_int pa_nil)))))))
 (pss_cons (ps_set (i := 3) sc__law_two.nd rfl (Or.inl rfl) (pe_maxdK K (by rfl) n_max (by decide +kernel) hr.units rfl (pe_lc (own := [("_law_j", 5)]) (by rfl) sc__law_two.nd (pi_range1 (by rfl) n_range (pa_cons (pe_callB (call_len_seqK K) (by rfl) n_len (by decide +kernel) (pa_cons (pv 2) pa_nil)) pa_nil)) (blkOk_by (own := [("_law_j", 5)]) (N := ["_law_bag_here", "_law_p", "_law_polys", "_law_many", "_law_turn", "_law_j"]) (sc := defScope s__law_two) (by decide +kernel)) (fun _ _ _ _ _ => (pg_name (i := 5) sc__law_two.nd rfl (Or.inl rfl))) (fun _ _ _ _ _ => (pts_one (pt_cmpR (op_neDK K hr.units) (pe_ix (ix_listK K) (pv 2) (pv 5) (fun _ _ => rfl)) (pe_tup pa_nil) (nomark _)))) (fun _ _ _ _ _ => (pe_op op_add (pv 5) pe_int))) pe_int))
 (pss_one (ps_ret (pe_callTy (call_tuple_ofK K) (by rfl) n_tuple (by decide +kernel) (pa_cons (pe_slice (sl_listK K) (pv 2) po_none (po_some (pv 3))) pa_nil)))))), ?_⟩
    have F0 : C1 b H H := C1.refl b H
    refine q_asg0 ?_
    refine lc_open ?_
    refine go_callA ?_
    refine go_cons ?_
    refine ⟨_, rfl, ?_⟩
    refine go_cons ?_
    refine go_I er_int fun H18 e19 => ?_
    replace B0 := Bag.ex B0 e19
    replace F0 := F0.trans (C1.ex e19)
    refine go_nil ?_
    refine ⟨b, _, rfl, B0, (by first | assumption | omega | (simp only [List.length_append, List.length_cons, List.length_nil, List.length_map, List.length_range, List.length_set, rng_len, enm_len, repL_len] at *; omega)), (by first | assumption | omega | (simp only [List.length_append, List.length_cons, List.length_nil, List.length_map, List.length_range, List.length_set, rng_len, enm_len, repL_len] at *; omega)), fun y22 H21 c23 B24 hqy22_0 => ?_⟩
    have kt25 : Kt K _ _ := Bag.kt B0 c23
    replace F0 := F0.trans c23
    replace B0 := B24
    refine ⟨_, rfl, by omega, by omega, lcR1B (K := K) (R := (rT K rI)) (hi := y22) ((fun y => PolyOk l_p 4 y)) B0 (by omega) (fun _ => rfl) (fun x1 H2 C3 c4 B5 hx6 k7 => ?_) fun p8 H9 ys13 n10 c11 B12 hl14 hy15 l16 => ?_⟩
    ·
      have kt26 : Kt K _ _ := Bag.kt B0 c4
      replace F0 := F0.trans c4
      replace B0 := B5
      have G0 : C1 b _ _ := C1.refl b H2
      refine go_callA ?_
      refine go_cons ?_
      refine ⟨_, rfl, ?_⟩
      refine go_cons ?_
      refine ⟨_, rfl, ?_⟩
      refine go_cons ?_
      refine go_I er_int fun H29 e30 => ?_
      replace B0 := Bag.ex B0 e30
      replace F0 := F0.trans (C1.ex e30)
      replace G0 := G0.trans (C1.ex e30)
      refine go_nil ?_
      refine ⟨_, _, b, rfl, B0, (by first | assumption | omega | (simp only [List.length_append, List.length_cons, List.length_nil, List.length_map, List.length_range, List.length_set, rng_len, enm_len, repL_len] at *; omega)), (by first | assumption | omega | (simp only [List.length_append, List.length_cons, List.length_nil, List.length_map, List.length_range, List.length_set, rng_len, enm_len, repL_len] at *; omega)), fun y33 v36 H32 c34 B35 f37 hqy33_0 => ?_⟩
      have kt38 : Kt K _ _ := Bag.kt B0 c34
      replace F0 := F0.trans c34
      replace B0 := B35
      replace G0 := G0.trans c34
      exact k7 _ _ y33 G0 B0 f37 (by first | assumption | omega | (simp only [List.length_append, List.length_cons, List.length_nil, List.length_map, List.length_range, List.length_set, rng_len, enm_len, repL_len] at *; omega))
    have nebp8 : b ≠ p8 := B0.ne n10
    have n0p8 : H p8 = none := fb F0 B0 n10
    have kt39 : Kt K _ _ := Bag.kt B0 c11
    replace F0 := F0.trans c11
    replace B0 := B12
    refine q_asgI (er_maxd (El.er (el_lcR1c (K := K) (er_lenL (er_var rfl (Lt.rl l16))) (by first | omega | assumption | (simp only [List.length_append, List.length_cons, List.length_nil, List.length_map, List.length_range, List.length_set, rng_len, enm_len, repL_len] at *; omega)) (fun _ => rfl) (fun x42 H1 e43 hx44 => (et_t (er_neD (er_ixL0 [] (er_var rfl (Lt.rl (Lt.ex l16 e43))) er_iv (by first | omega | assumption | (simp; omega) | (simp only [List.length_append, List.length_cons, List.length_nil, List.length_map, List.length_range, List.length_set, rng_len, enm_len, repL_len] at *; omega)) (by first | omega | assumption | (simp; omega) | (simp only [List.length_append, List.length_cons, List.length_nil, List.length_map, List.length_range, List.length_set, rng_len, enm_len, repL_len] at *; omega))) (er_tup (R := rI) eas0 (by decide))))) (fun x42 H1 e43 hx44 => fun hc45 => (er_op0 er_iv er_int)))) er_int) fun H40 e41 => ?_
    replace B0 := Bag.ex B0 e41
    replace l16 := Lt.ex l16 e41
    replace F0 := F0.trans (C1.ex e41)
    refine s_ret0 ?_
    refine go_R (R := (rT K (rT K rI))) (er_tupL (El.er (el_sl (er_var rfl (Lt.rl l16)) eo0 (eo1 er_iv)))) fun v48 H46 e47 f49 => ?_
    replace B0 := Bag.ex B0 e47
    replace l16 := Lt.ex l16 e47
    replace F0 := F0.trans (C1.ex e47)
    exact q _ v48 _ F0 B0 f49 (two_ok (by assumption) (by omega))

def st__law_written_1 (l_poly_here : (List Int)) : (List Nat) → Int → (List Nat) := fun s1 x1 => (((if (!decide (s1 = ([] : List Nat))) = true then (s1 ++ ([32] : List Nat)) else s1) ++ [gtX ([48, 49, 50, 51, 52] : List Nat) x1]))
def sp__law_written (K : PySem.W.Frag) : Sp := fun vs H Q _ => ∃ (l_poly_here : (List Int)) (v_l_poly_here : V), (vs = [v_l_poly_here]) ∧ ((rT K rI) H l_poly_here v_l_poly_here) ∧ (PolyOk 5 100 l_poly_here) ∧ (∀ H', Ex H H' → Q (.str <| S (wP l_poly_here)) H')
section
variable {K : PySem.W.Frag}
theorem gv__law_written {l_poly_here : (List Int)} (h0 : PolyOk 5 100 l_poly_here) : Gv (sp__law_written K) (Ac (rT K rI) l_poly_here A0) rX (wP l_poly_here) := by
  intro vs H1 hp Q E k
  obtain ⟨v0, w0, rfl, f0, hp⟩ := hp
  cases hp
  exact ⟨_, v0, rfl, f0, h0, fun H2 e => k _ H2 e rfl⟩
end
theorem ok__law_written {f : Addr} {fd : FuncData} (F : Fun K "_law_written" "_law_written" s__law_written f fd) (n_int : mg "int" = none) : FnOk P w K mg base CX0 1 f fd ["_law_poly_here"] (sp__law_written K) := by
  refine F.ok sc__law_written (fun vs H Q E h => ?_) (fun cdv A outer s H vs Q E hr h => ?_)
  · obtain ⟨l_poly_here, v_l_poly_here, rfl, _⟩ := h; rfl
  · obtain ⟨l_poly_here, v_l_poly_here, rfl, f_l_poly_here, hpre0, q⟩ := h
    refine ⟨_, (pss_cons (ps_set (i := 1) sc__law_written.nd rfl (Or.inl rfl) pe_str)
 (pss_cons (ps_for PassesOwn.never rfl (pi_tupK K (pv 0)) (pg_name (i := 2) sc__law_written.nd rfl (Or.inl rfl))
 (Evl.pss_cut (ps_if (pt_cmpR op_ne (pv 1) pe_str (nomark _)) (pss_one (ps_set (i := 1) sc__law_written.nd rfl (Or.inl rfl) (pe_op op_add_str (pv 1) pe_str))) pss_nil)
 (pss_one (ps_set (i := 1) sc__law_written.nd rfl (Or.inl rfl) (pe_op op_add_str (pv 1) (pe_ix ix_str pe_str (pv 2) (fun _ _ => rfl)))))))
 (pss_one (ps_ret (pe_op op_add_str (pv 1) (pe_op op_repS pe_str (pe_callTy call_int1 (by rfl) n_int (by decide +kernel) (pa_cons (pe_cmpR (op_eqDK K hr.units) (pv 0) (pe_tup pa_nil) (nomark _)) pa_nil)))))))), ?_⟩
    have F0 : Ex H H := Ex.refl H
    have hl := hpre0.1
    refine q_asgX (er_xc []) fun H1 e2 => ?_
    replace f_l_poly_here := Me.ex e2 f_l_poly_here
    replace F0 := F0.trans e2
    refine q_forT (er_var rfl f_l_poly_here) fun v5 H3 e4 r6 => ?_
    replace f_l_poly_here := Me.ex e4 f_l_poly_here
    replace F0 := F0.trans e4
    have k7 : Kt K _ _ := Kt.refl H3
    refine fq_TI r6 (fun i σ' H' => ∃ (s1 : (List Nat)) (j8 : Option V), s1 = List.foldl (st__law_written_1 l_poly_here) (([] : List Nat)) (List.take i l_poly_here) ∧ s1.length ≤ 2 * i ∧ σ' = [some v_l_poly_here, some (.str (S s1)), j8] ∧ Ex H H' ∧ Kt K H3 H') ?_ ?_ ?_ ?_
    · exact ⟨(([] : List Nat)), _, rfl, (by simp), rfl, F0, k7⟩
    · intro i σ' H' hi h; obtain ⟨s1, j8, hs1, hp1_0, rfl, F0, k7⟩ := h; exact Mkt.kt k7 r6
    ·
      rintro i x1  _ H9 hi hx1 ⟨s1, j8, hs1, hp1_0, rfl, F0, k7⟩
      replace f_l_poly_here := Mkt.kt k7 f_l_poly_here
      have hx := hpre0.2.1 x1 (List.mem_of_getElem? hx1)
      have k12 : Kt K _ _ := Kt.refl H9
      refine ⟨fun σ' H' => σ' = [some v_l_poly_here, some (.str (S ((if (!decide (s1 = ([] : List Nat))) = true then (s1 ++ ([32] : List Nat)) else s1)))), some (.int x1)] ∧ Ex H H' ∧ Kt K H9 H', ?_, ?_⟩
      · refine s_if (et_t (er_xne er_xv (er_xc []))) (fun hb_1 H10 e11 => ?_) (fun hb_1 H10 e11 => ?_)
        ·
          have hb_1' := hb_1
          simp only [Bool.and_eq_true, Bool.or_eq_true, Bool.not_eq_true', Bool.and_eq_false_iff, Bool.or_eq_false_iff, Bool.not_eq_false', decide_eq_true_eq, decide_eq_false_iff_not] at hb_1'
          replace f_l_poly_here := Me.ex e11 f_l_poly_here
          replace F0 := F0.trans e11
          replace k7 := k7.trans (Kt.ex e11)
          replace k12 := k12.trans (Kt.ex e11)
          refine s_asgX (er_xadd er_xv (er_xc [32]) (by first | omega | assumption | (simp only [List.length_append, List.length_cons, List.length_nil, List.length_map, List.length_range, List.length_set, rng_len, enm_len, repL_len] at *; omega))) fun H13 e14 => ?_
          replace f_l_poly_here := Me.ex e14 f_l_poly_here
          replace F0 := F0.trans e14
          replace k7 := k7.trans (Kt.ex e14)
          replace k12 := k12.trans (Kt.ex e14)
          refine ⟨(by (try rw [hb_1]); rfl), F0, k12⟩
        ·
          have hb_1' := hb_1
          simp only [Bool.and_eq_true, Bool.or_eq_true, Bool.not_eq_true', Bool.and_eq_false_iff, Bool.or_eq_false_iff, Bool.not_eq_false', decide_eq_true_eq, decide_eq_false_iff_not] at hb_1'
          replace f_l_poly_here := Me.ex e11 f_l_poly_here
          replace F0 := F0.trans e11
          replace k7 := k7.trans (Kt.ex e11)
          replace k12 := k12.trans (Kt.ex e11)
          refine ⟨(by (try rw [hb_1]); rfl), F0, k12⟩
      rintro _ H15 ⟨rfl, F0, kt16⟩
      replace k7 := k7.trans kt16
      replace f_l_poly_here := Mkt.kt kt16 f_l_poly_here
      refine s_asgX (er_xadd er_xv (er_xix0 (er_xc [48, 49, 50, 51, 52]) er_iv (by first | omega | assumption | (simp; omega) | (simp only [List.length_append, List.length_cons, List.length_nil, List.length_map, List.length_range, List.length_set, rng_len, enm_len, repL_len] at *; omega)) (by first | omega | assumption | (simp; omega) | (simp only [List.length_append, List.length_cons, List.length_nil, List.length_map, List.length_range, List.length_set, rng_len, enm_len, repL_len] at *; omega)) (by first | omega | assumption | (simp only [List.length_append, List.length_cons, List.length_nil, List.length_map, List.length_range, List.length_set, rng_len, enm_len, repL_len] at *; omega))) (by split <;> simp <;> omega)) fun H17 e18 => ?_
      replace f_l_poly_here := Me.ex e18 f_l_poly_here
      replace F0 := F0.trans e18
      replace k7 := k7.trans (Kt.ex e18)
      exact ⟨st__law_written_1 l_poly_here s1 x1, _, fold_snoc hs1 hx1, (stW_len hp1_0), rfl, F0, k7⟩
    rintro _ H19 ⟨s1, j8, hs1, hp1_0, rfl, F0, k7⟩
    rw [take_all] at hs1; subst hs1
    replace f_l_poly_here := Mkt.kt k7 f_l_poly_here
    refine s_ret (R := rX) (er_xadd er_xv (er_xrep (er_xc [45]) (er_intB (er_eqD (er_var rfl f_l_poly_here) (er_tup (R := rI) eas0 (by decide)))) (by constructor <;> first | omega | (split <;> omega)) (by first | omega | assumption | (simp only [List.length_append, List.length_cons, List.length_nil, List.length_map, List.length_range, List.length_set, rng_len, enm_len, repL_len] at *; omega))) (add_rep_le (by simp only [List.length_cons, List.length_nil] at *; omega))) fun v H' e r => ?_
    cases r
    have z := q _ (F0.trans e)
    have z2 := z
    rw [← written_eq hpre0] at z2; exact z2

def st__law_two_written_1 (l_two_here : (List (List Int))) : (List Nat) → (Int × (List Int)) → (List Nat) := fun s1 x1 => (((s1 ++ (repL ([32, 59, 32] : List Nat) (if (decide ((0 : Int) < x1.1)) then 1 else 0 : Int))) ++ ((wP x1.2))))
def sp__law_two_written (K : PySem.W.Frag) : Sp := fun vs H Q _ => ∃ (l_two_here : (List (List Int))) (v_l_two_here : V), (vs = [v_l_two_here]) ∧ ((rT K (rT K rI)) H l_two_here v_l_two_here) ∧ (TwoOk 5 100 100 l_two_here) ∧ (∀ H', Ex H H' → Q (.str <| S (wT l_two_here)) H')
section
variable {K : PySem.W.Frag}
theorem gv__law_two_written {l_two_here : (List (List Int))} (h0 : TwoOk 5 100 100 l_two_here) : Gv (sp__law_two_written K) (Ac (rT K (rT K rI)) l_two_here A0) rX (wT l_two_here) := by
  intro vs H1 hp Q E k
  obtain ⟨v0, w0, rfl, f0, hp⟩ := hp
  cases hp
  exact ⟨_, v0, rfl, f0, h0, fun H2 e => k _ H2 e rfl⟩
end
theorem ok__law_two_written {f : Addr} {fd : FuncData} (F : Fun K "_law_two_written" "_law_two_written" s__law_two_written f fd) (n_enumerate : mg "enumerate" = none) (D__law_written : Df P w K mg base CX0 1 "_law_written" ["_law_poly_here"] (sp__law_written K)) (n_int : mg "int" = none) : FnOk P w K mg base CX0 2 f fd ["_law_two_here"] (sp__law_two_written K) := by
  refine F.ok sc__law_two_written (fun vs H Q E h => ?_) (fun cdv A outer s H vs Q E hr h => ?_)
  · obtain ⟨l_two_here, v_l_two_here, rfl, _⟩ := h; rfl
  · obtain ⟨l_two_here, v_l_two_here, rfl, f_l_two_here, hpre0, q⟩ := h
    refine ⟨_, (pss_cons (ps_set (i := 1) sc__law_two_written.nd rfl (Or.inl rfl) pe_str)
 (pss_cons (ps_for PassesOwn.never rfl (pi_enumTK K (by rfl) n_enumerate (pa_cons (pv 0) pa_nil)) (pg_tupK K 2 rfl (pgs_cons (pg_name (i := 2) sc__law_two_written.nd rfl (Or.inl rfl)) (pgs_cons (pg_name (i := 3) sc__law_two_written.nd rfl (Or.inl rfl)) pgs_nil)))
 (pss_one (ps_set (i := 1) sc__law_two_written.nd rfl (Or.inl rfl) (pe_op op_add_str (pe_op op_add_str (pv 1) (pe_op op_repS pe_str (pe_callTy call_int1 (by rfl) n_int (by decide +kernel) (pa_cons (pe_cmpR op_gt (pv 2) pe_int (nomark _)) pa_nil)))) (pe_call D__law_written.ok (hr.mono (by omega)) (by rfl) D__law_written.g D__law_written.kp D__law_written.b .nil pass0 (pa_cons (pv 3) pa_nil))))))
 (pss_one (ps_ret (pe_op op_add_str (pv 1) (pe_op op_repS pe_str (pe_callTy call_int1 (by rfl) n_int (by decide +kernel) (pa_cons (pe_cmpR (op_eqDK K hr.units) (pv 0) (pe_tup pa_nil) (nomark _)) pa_nil)))))))), ?_⟩
    have F0 : Ex H H := Ex.refl H
    have hl := hpre0.1
    have hle := enm_len l_two_here
    refine q_asgX (er_xc []) fun H1 e2 => ?_
    replace f_l_two_here := Me.ex e2 f_l_two_here
    replace F0 := F0.trans e2
    refine q_forET (er_var rfl f_l_two_here) fun v5 H3 e4 r6 => ?_
    replace f_l_two_here := Me.ex e4 f_l_two_here
    replace F0 := F0.trans e4
    have k7 : Kt K _ _ := Kt.refl H3
    refine fq_ET r6 (fun i σ' H' => ∃ (s1 : (List Nat)) (j8 : Option V) (j9 : Option V), s1 = List.foldl (st__law_two_written_1 l_two_here) (([] : List Nat)) (List.take i ((enm l_two_here))) ∧ s1.length ≤ 300 * i ∧ σ' = [some v_l_two_here, some (.str (S s1)), j8, j9] ∧ Ex H H' ∧ Kt K H3 H') ?_ ?_ ?_ ?_
    · exact ⟨(([] : List Nat)), _, _, rfl, (by simp), rfl, F0, k7⟩
    · intro i σ' H' hi h; obtain ⟨s1, j8, j9, hs1, hp1_0, rfl, F0, k7⟩ := h; exact Mkt.kt k7 r6
    ·
      rintro i x1 v11 _ H10 H13 hi hx1 ⟨s1, j8, j9, hs1, hp1_0, rfl, F0, k7⟩ e14 r12
      replace f_l_two_here := Mkt.kt k7 f_l_two_here
      replace f_l_two_here := Me.ex e14 f_l_two_here
      replace r12 := Me.ex e14 r12
      replace F0 := F0.trans e14
      replace k7 := k7.trans (Kt.ex e14)
      have hr1 := enm_at hx1
      have hx := hpre0.2.1 x1.2 (List.mem_of_getElem? (enm_at hx1).2)
      refine s_asgX (er_xadd (er_xadd er_xv (er_xrep (er_xc [32, 59, 32]) (er_intB (er_cmp er_iv er_int)) (by constructor <;> first | omega | (split <;> omega)) (by first | omega | assumption | (simp only [List.length_append, List.length_cons, List.length_nil, List.length_map, List.length_range, List.length_set, rng_len, enm_len, repL_len] at *; omega))) (add_rep_le (by simp only [List.length_cons, List.length_nil] at *; omega))) (er_call (eac (er_var rfl r12) ea0) (gv__law_written hx)) (stT_len2 hp1_0 hx (by omega))) fun H15 e16 => ?_
      replace f_l_two_here := Me.ex e16 f_l_two_here
      replace r12 := Me.ex e16 r12
      replace F0 := F0.trans e16
      replace k7 := k7.trans (Kt.ex e16)
      exact ⟨st__law_two_written_1 l_two_here s1 x1, _, _, fold_snoc hs1 hx1, (stT_len hp1_0 hx), rfl, F0, k7⟩
    rintro _ H17 ⟨s1, j8, j9, hs1, hp1_0, rfl, F0, k7⟩
    rw [take_all] at hs1; subst hs1
    replace f_l_two_here := Mkt.kt k7 f_l_two_here
    refine s_ret (R := rX) (er_xadd er_xv (er_xrep (er_xc [46]) (er_intB (er_eqD (er_var rfl f_l_two_here) (er_tup (R := (rT K rI)) eas0 (by decide)))) (by constructor <;> first | omega | (split <;> omega)) (by first | omega | assumption | (simp only [List.length_append, List.length_cons, List.length_nil, List.length_map, List.length_range, List.length_set, rng_len, enm_len, repL_len] at *; omega))) (add_rep_le (by simp only [List.length_cons, List.length_nil] at *; omega))) fun v H' e r => ?_
    cases r
    have z := q _ (F0.trans e)
    rw [← two_written_eq] at z; exact z

end
section
variable {P : Program} {w : World} {K : PySem.W.Frag} {mg : Str → Option Value} {base : Heap}
def spLaw (K : PySem.W.Frag) : Sp := fun vs H Q _ => ∃ (a : Addr) (ns : List Int), vs = [.ref a] ∧ SqL K H a (ns.map V.int) ∧ ns.length ≤ 63 ∧ ∀ H', Q (.bl true) H'
theorem ok_law {f : Addr} {fd : FuncData} (F : Fun K "law" "law" s_law f fd) (n_range : mg "range" = none) (n_max : mg "max" = none) (D__law_bag : Df P w K mg base CX0 1 "_law_bag" ["_law_script", "_law_at"] (sp__law_bag K)) (n_min : mg "min" = none) (D__law_take : Df P w K mg base CX0 1 "_law_take" ["_law_bag_here", "_law_many"] (sp__law_take K)) (D__law_poly : Df P w K mg base CX0 3 "_law_poly" ["_law_bag_here", "_law_p", "_law_most"] (sp__law_poly K)) (D__law_two : Df P w K mg base CX0 4 "_law_two" ["_law_bag_here", "_law_p"] (sp__law_two K)) (n_len : mg "len" = none) (D_show_poly : Df P w K mg base CX0 1 "show_poly" ["poly"] (sp_show_poly K)) (D_show_two : Df P w K mg base CX0 2 "show_two" ["two"] (sp_show_two K)) (n_isinstance : mg "isinstance" = none) (n_str : mg "str" = none) (D__law_written : Df P w K mg base CX0 1 "_law_written" ["_law_poly_here"] (sp__law_written K)) (D_read_poly : Df P w K mg base CX0 4 "read_poly" ["p", "thing"] (sp_read_poly K)) (D__law_two_written : Df P w K mg base CX0 2 "_law_two_written" ["_law_two_here"] (sp__law_two_written K)) (D_read_two : Df P w K mg base CX0 4 "read_two" ["p", "thing"] (sp_read_two K)) : FnOk P w K mg base CX0 5 f fd ["_law_script"] (spLaw K) := by
  refine F.ok sc_law (fun vs H Q E h => ?_) (fun cdv A outer s H vs Q E hr h => ?_)
  · obtain ⟨a, ns, rfl, _⟩ := h; rfl
  · obtain ⟨a, ns, rfl, hS, hlen, q⟩ := h
    refine ⟨_, (pss_cons (ps_for PassesOwn.never rfl (pi_range1 (by rfl) n_range (pa_cons (pe_callB (call_max2 rfl) (by rfl) n_max (by decide +kernel) (pa_cons pe_int (pa_cons (pe_callB (call_min2 rfl) (by rfl) n_min (by decide +kernel) (pa_cons pe_int (pa_cons (pe_callB (call_len_seqK K) (by rfl) n_len (by decide +kernel) (pa_cons (pv 0) pa_nil)) pa_nil))) pa_nil))) pa_nil)) (pg_name (i := 1) sc_law.nd rfl (Or.inl rfl))
 (pss_cons (ps_set (i := 2) sc_law.nd rfl (Or.inl rfl) (pe_call D__law_bag.ok (hr.mono (by omega)) (by rfl) D__law_bag.g D__law_bag.kp D__law_bag.b .nil pass0 (pa_cons (pv 0) (pa_cons (pv 1) pa_nil))))
 (pss_cons (ps_set (i := 3) sc_law.nd rfl (Or.inr rfl) (pe_ix (ix_listK K) (pe_lst (pa_cons pe_int (pa_cons pe_int (pa_cons pe_int pa_nil)))) (pe_call D__law_take.ok (hr.mono (by omega)) (by rfl) D__law_take.g D__law_take.kp D__law_take.b .nil pass0 (pa_cons (pv 2) (pa_cons pe_int pa_nil))) (fun _ _ => rfl)))
 (pss_cons (ps_set (i := 4) sc_law.nd rfl (Or.inl rfl) (pe_lst (pa_cons (pe_call D__law_poly.ok (hr.mono (by omega)) (by rfl) D__law_poly.g D__law_poly.kp D__law_poly.b .nil pass0 (pa_cons (pv 2) (pa_cons (pv 3) (pa_cons pe_int pa_nil)))) (pa_cons (pe_call D__law_poly.ok (hr.mono (by omega)) (by rfl) D__law_poly.g D__law_poly.kp D__law_poly.b .nil pass0 (pa_cons (pv 2) (pa_cons (pv 3) (pa_cons pe_int pa_nil)))) (pa_cons (pe_tup pa_nil) pa_nil)))))
 (pss_cons (ps_set (i := 5) sc_law.nd rfl (Or.inl rfl) (pe_lst (pa_cons (pe_call D__law_two.ok (hr.mono (by omega)) (by rfl) D__law_two.g D__law_two.kp D__law_two.b .nil pass0 (pa_cons (pv 2) (pa_cons (pv 3) pa_nil))) (pa_cons (pe_call D__law_two.ok (hr.mono (by omega)) (by rfl) D__law_two.g D__law_two.kp D__law_two.b .nil pass0 (pa_cons (pv 2) (pa_cons (pv 3) pa_nil))) (pa_cons (pe_tup pa_nil) pa_nil)))))
 (pss_one (ps_for PassesOwn.never rfl (pi_range1 (by rfl) n_range (pa_cons pe_int pa_nil)) (pg_name (i := 6) sc_law.nd rfl (Or.inl rfl))
 (pss_cons (ps_for PassesOwn.never rfl (pi_listK K (pv 4)) (pg_name (i := 7) sc_law.nd rfl (Or.inl rfl))
 (pss_cons (ps_set (i := 8) sc_law.nd rfl (Or.inl rfl) (pe_call D_show_poly.ok (hr.mono (by omega)) (by rfl) D_show_poly.g D_show_poly.kp D_show_poly.b .nil pass0 (pa_cons (pv 7) pa_nil)))
 (pss_cons (ps_if (PW.pt (pw_or (pt_not (pt_val (pe_callB (call_isiK' K) (by rfl) n_isinstance (by decide +kernel) (pa_cons (pv 8) (pa_cons (pe_bltn (v := .ty "str") (by rfl) n_str (by decide +kernel) rfl) pa_nil))))) (pw_or1 (pt_cmpR op_ne (pv 8) (pe_call D__law_written.ok (hr.mono (by omega)) (by rfl) D__law_written.g D__law_written.kp D__law_written.b .nil pass0 (pa_cons (pv 7) pa_nil)) (nomark _))))) (pss_one (ps_ret pe_bl)) pss_nil)
 (pss_one (ps_for PassesOwn.never rfl (pi_listK K (pe_lc (own := [("_law_one", 11)]) (by rfl) sc_law.nd (pi_tupK K (pe_tup (pa_cons pe_int (pa_cons pe_int (pa_cons pe_int pa_nil))))) (blkOk_by (own := [("_law_one", 11)]) (N := ["_law_script", "_law_k", "_law_bag_here", "_law_p", "_law_polys", "_law_twos", "_law_turn", "_law_poly_here", "_law_text", "_law_q", "_law_two_here", "_law_one"]) (sc := defScope s_law) (by decide +kernel)) (fun _ _ _ _ _ => (pg_name (i := 11) sc_law.nd rfl (Or.inl rfl))) (fun _ _ _ _ _ => (pts_one (pt_cmpR op_ge (pv 11) (pv 3) (nomark _)))) (fun _ _ _ _ _ => (pv 11)))) (pg_name (i := 9) sc_law.nd rfl (Or.inl rfl))
 (pss_one (ps_if (pt_cmpR (op_neDK K hr.units) (pe_call D_read_poly.ok (hr.mono (by omega)) (by rfl) D_read_poly.g D_read_poly.kp D_read_poly.b .nil pass0 (pa_cons (pv 9) (pa_cons (pv 8) pa_nil))) (pv 7) (nomark _)) (pss_one (ps_ret pe_bl)) pss_nil)))))))
 (pss_one (ps_for PassesOwn.never rfl (pi_listK K (pv 5)) (pg_name (i := 10) sc_law.nd rfl (Or.inl rfl))
 (pss_cons (ps_set (i := 8) sc_law.nd rfl (Or.inl rfl) (pe_call D_show_two.ok (hr.mono (by omega)) (by rfl) D_show_two.g D_show_two.kp D_show_two.b .nil pass0 (pa_cons (pv 10) pa_nil)))
 (pss_cons (ps_if (PW.pt (pw_or (pt_not (pt_val (pe_callB (call_isiK' K) (by rfl) n_isinstance (by decide +kernel) (pa_cons (pv 8) (pa_cons (pe_bltn (v := .ty "str") (by rfl) n_str (by decide +kernel) rfl) pa_nil))))) (pw_or1 (pt_cmpR op_ne (pv 8) (pe_call D__law_two_written.ok (hr.mono (by omega)) (by rfl) D__law_two_written.g D__law_two_written.kp D__law_two_written.b .nil pass0 (pa_cons (pv 10) pa_nil)) (nomark _))))) (pss_one (ps_ret pe_bl)) pss_nil)
 (pss_one (ps_for PassesOwn.never rfl (pi_listK K (pe_lc (own := [("_law_one", 11)]) (by rfl) sc_law.nd (pi_tupK K (pe_tup (pa_cons pe_int (pa_cons pe_int (pa_cons pe_int pa_nil))))) (blkOk_by (own := [("_law_one", 11)]) (N := ["_law_script", "_law_k", "_law_bag_here", "_law_p", "_law_polys", "_law_twos", "_law_turn", "_law_poly_here", "_law_text", "_law_q", "_law_two_here", "_law_one"]) (sc := defScope s_law) (by decide +kernel)) (fun _ _ _ _ _ => (pg_name (i := 11) sc_law.nd rfl (Or.inl rfl))) (fun _ _ _ _ _ => (pts_one (pt_cmpR op_ge (pv 11) (pv 3) (nomark _)))) (fun _ _ _ _ _ => (pv 11)))) (pg_name (i := 9) sc_law.nd rfl (Or.inl rfl))
 (pss_one (ps_if (pt_cmpR (op_neDK K hr.units) (pe_call D_read_two.ok (hr.mono (by omega)) (by rfl) D_read_two.g D_read_two.kp D_read_two.b .nil pass0 (pa_cons (pv 9) (pa_cons (pv 8) pa_nil))) (pv 10) (nomark _)) (pss_one (ps_ret pe_bl)) pss_nil))))))))))))))))
 (pss_one (ps_ret pe_bl))), ?_⟩
    have F0 : Ex H H := Ex.refl H
    replace q : ∀ H', Ex H H' → Q (.bl true) H' := fun H' _ => q H'
    refine q_forR1 (er_mx2 er_int (er_mn2 er_int (er_lenL (er_var rfl (rl_of (Evl.ex_l F0 hS)))))) mm_b fun H1 e2 => ?_
    replace F0 := F0.trans e2
    have k3 : Kt K _ _ := Kt.refl H1
    refine fq_R (lo := 0) (hi := (mx2 ((3 : Int)) ((mn2 ((6 : Int)) ((ns.length : Int)))))) (by rw [Int.sub_zero]) (fun i σ' H' => ∃ (s1 : Unit) (j4 : Option V) (j5 : Option V) (j6 : Option V) (j7 : Option V) (j8 : Option V) (j9 : Option V) (j10 : Option V) (j11 : Option V) (j12 : Option V) (j13 : Option V), True ∧ σ' = [some (.ref a), j4, j5, j6, j7, j8, j9, j10, j11, j12, j13, none] ∧ Ex H H' ∧ Kt K H1 H') ?_ ?_ ?_
    · exact ⟨(), _, _, _, _, _, _, _, _, _, _, trivial, rfl, F0, k3⟩
    ·
      rintro i x1  _ H14 hi hx1 ⟨s1, j4, j5, j6, j7, j8, j9, j10, j11, j12, j13, hs1, rfl, F0, k3⟩
      have hr1 := rng_at hx1
      refine q_asg0 ?_
      refine go_callA ?_
      refine go_cons ?_
      refine ⟨_, rfl, ?_⟩
      refine go_cons ?_
      refine ⟨_, rfl, ?_⟩
      refine go_nil ?_
      refine ⟨_, _, _, rfl, Evl.ex_l F0 hS, (by omega), (Int.lt_of_lt_of_le hr1.2.2 mm_b2), fun b17 H18 n19 e20 B21 => ?_⟩
      have n0b17 : H b17 = none := fresh_back F0 n19
      replace F0 := F0.trans e20
      replace k3 := k3.trans (Kt.ex e20)
      refine q_asg0 ?_
      refine go_opK ?_
      refine go_L (el_lst (R := rI) (eas er_int (eas er_int (eas er_int eas0))) (by first | decide | simp)) fun p24 H22 n25 e23 l26 => ?_
      have neb17p24 : b17 ≠ p24 := B21.ne n25
      have n0p24 : H p24 = none := fresh_back F0 n25
      replace B21 := Bag.ex B21 e23
      replace F0 := F0.trans e23
      replace k3 := k3.trans (Kt.ex e23)
      refine go_callA ?_
      refine go_cons ?_
      refine ⟨_, rfl, ?_⟩
      refine go_cons ?_
      refine go_I er_int fun H29 e30 => ?_
      replace B21 := Bag.ex B21 e30
      replace l26 := Lt.ex l26 e30
      replace F0 := F0.trans e30
      replace k3 := k3.trans (Kt.ex e30)
      refine go_nil ?_
      refine ⟨b17, _, rfl, B21, (by first | assumption | omega | (simp only [List.length_append, List.length_cons, List.length_nil, List.length_map, List.length_range, List.length_set, rng_len, enm_len, repL_len] at *; omega)), (by first | assumption | omega | (simp only [List.length_append, List.length_cons, List.length_nil, List.length_map, List.length_range, List.length_set, rng_len, enm_len, repL_len] at *; omega)), fun y33 H32 c34 B35 hqy33_0 => ?_⟩
      have kt36 : Kt K _ _ := Bag.kt B21 c34
      replace k3 := k3.trans kt36
      replace l26 := Lt.keep l26 kt36 c34 (by first | assumption | exact Ne.symm (by assumption))
      replace F0 := C1.ofNew F0 n0b17 c34
      replace B21 := B35
      refine go_I (er_ixL0 (0 : Int) (er_K (Lt.rl l26)) er_iK (by first | omega | assumption | (simp; omega) | (simp only [List.length_append, List.length_cons, List.length_nil, List.length_map, List.length_range, List.length_set, rng_len, enm_len, repL_len] at *; omega)) (by first | omega | assumption | (simp; omega) | (simp only [List.length_append, List.length_cons, List.length_nil, List.length_map, List.length_range, List.length_set, rng_len, enm_len, repL_len] at *; omega))) fun H38 e39 => ?_
      replace B21 := Bag.ex B21 e39
      replace l26 := Lt.ex l26 e39
      replace F0 := F0.trans e39
      replace k3 := k3.trans (Kt.ex e39)
      obtain ⟨lp, hlp, hP⟩ := pick3i (by assumption)
      rw [hlp]
      have hP5 := hP.le
      refine q_asg0 ?_
      refine go_lstA ?_
      refine go_cons ?_
      refine go_callA ?_
      refine go_cons ?_
      refine ⟨_, rfl, ?_⟩
      refine go_cons ?_
      refine ⟨_, rfl, ?_⟩
      refine go_cons ?_
      refine go_I er_int fun H42 e43 => ?_
      replace B21 := Bag.ex B21 e43
      replace F0 := F0.trans e43
      replace k3 := k3.trans (Kt.ex e43)
      refine go_nil ?_
      refine ⟨_, _, b17, rfl, B21, (by first | assumption | omega | (simp only [List.length_append, List.length_cons, List.length_nil, List.length_map, List.length_range, List.length_set, rng_len, enm_len, repL_len] at *; omega)), (by first | assumption | omega | (simp only [List.length_append, List.length_cons, List.length_nil, List.length_map, List.length_range, List.length_set, rng_len, enm_len, repL_len] at *; omega)), fun y46 v49 H45 c47 B48 f50 hqy46_0 => ?_⟩
      have kt51 : Kt K _ _ := Bag.kt B21 c47
      replace k3 := k3.trans kt51
      replace F0 := C1.ofNew F0 n0b17 c47
      replace B21 := B48
      refine go_cons ?_
      refine go_callA ?_
      refine go_cons ?_
      refine ⟨_, rfl, ?_⟩
      refine go_cons ?_
      refine ⟨_, rfl, ?_⟩
      refine go_cons ?_
      refine go_I er_int fun H55 e56 => ?_
      replace B21 := Bag.ex B21 e56
      replace f50 := Me.ex e56 f50
      replace F0 := F0.trans e56
      replace k3 := k3.trans (Kt.ex e56)
      refine go_nil ?_
      refine ⟨_, _, b17, rfl, B21, (by first | assumption | omega | (simp only [List.length_append, List.length_cons, List.length_nil, List.length_map, List.length_range, List.length_set, rng_len, enm_len, repL_len] at *; omega)), (by first | assumption | omega | (simp only [List.length_append, List.length_cons, List.length_nil, List.length_map, List.length_range, List.length_set, rng_len, enm_len, repL_len] at *; omega)), fun y59 v62 H58 c60 B61 f63 hqy59_0 => ?_⟩
      have kt64 : Kt K _ _ := Bag.kt B21 c60
      replace k3 := k3.trans kt64
      replace f50 := Mkt.kt kt64 f50
      replace F0 := C1.ofNew F0 n0b17 c60
      replace B21 := B61
      refine go_cons ?_
      refine go_R (R := (rT K rI)) (er_tup (R := rI) eas0 (by decide)) fun v68 H66 e67 f69 => ?_
      replace B21 := Bag.ex B21 e67
      replace f50 := Me.ex e67 f50
      replace f63 := Me.ex e67 f63
      replace F0 := F0.trans e67
      replace k3 := k3.trans (Kt.ex e67)
      refine go_nil ?_
      refine go_L (el_lst (R := (rT K rI)) (eas (er_K f50) (eas (er_K f63) (eas (er_K f69) eas0))) (by first | decide | simp)) fun p73 H71 n74 e72 l75 => ?_
      have neb17p73 : b17 ≠ p73 := B21.ne n74
      have n0p73 : H p73 = none := fresh_back F0 n74
      replace B21 := Bag.ex B21 e72
      replace f50 := Me.ex e72 f50
      replace f63 := Me.ex e72 f63
      replace f69 := Me.ex e72 f69
      replace F0 := F0.trans e72
      replace k3 := k3.trans (Kt.ex e72)
      refine q_asg0 ?_
      refine go_lstA ?_
      refine go_cons ?_
      refine go_callA ?_
      refine go_cons ?_
      refine ⟨_, rfl, ?_⟩
      refine go_cons ?_
      refine ⟨_, rfl, ?_⟩
      refine go_nil ?_
      refine ⟨_, b17, rfl, B21, (by first | assumption | omega | (simp only [List.length_append, List.length_cons, List.length_nil, List.length_map, List.length_range, List.length_set, rng_len, enm_len, repL_len] at *; omega)), fun y79 v82 H78 c80 B81 f83 hqy79_0 => ?_⟩
      have kt84 : Kt K _ _ := Bag.kt B21 c80
      replace k3 := k3.trans kt84
      replace l75 := Lt.keep l75 kt84 c80 (by first | assumption | exact Ne.symm (by assumption))
      replace F0 := C1.ofNew F0 n0b17 c80
      replace B21 := B81
      refine go_cons ?_
      refine go_callA ?_
      refine go_cons ?_
      refine ⟨_, rfl, ?_⟩
      refine go_cons ?_
      refine ⟨_, rfl, ?_⟩
      refine go_nil ?_
      refine ⟨_, b17, rfl, B21, (by first | assumption | omega | (simp only [List.length_append, List.length_cons, List.length_nil, List.length_map, List.length_range, List.length_set, rng_len, enm_len, repL_len] at *; omega)), fun y89 v92 H88 c90 B91 f93 hqy89_0 => ?_⟩
      have kt94 : Kt K _ _ := Bag.kt B21 c90
      replace k3 := k3.trans kt94
      replace l75 := Lt.keep l75 kt94 c90 (by first | assumption | exact Ne.symm (by assumption))
      replace f83 := Mkt.kt kt94 f83
      replace F0 := C1.ofNew F0 n0b17 c90
      replace B21 := B91
      refine go_cons ?_
      refine go_R (R := (rT K (rT K rI))) (er_tup (R := (rT K rI)) eas0 (by decide)) fun v98 H96 e97 f99 => ?_
      replace B21 := Bag.ex B21 e97
      replace l75 := Lt.ex l75 e97
      replace f83 := Me.ex e97 f83
      replace f93 := Me.ex e97 f93
      replace F0 := F0.trans e97
      replace k3 := k3.trans (Kt.ex e97)
      refine go_nil ?_
      refine go_L (el_lst (R := (rT K (rT K rI))) (eas (er_K f83) (eas (er_K f93) (eas (er_K f99) eas0))) (by first | decide | simp)) fun p103 H101 n104 e102 l105 => ?_
      have neb17p103 : b17 ≠ p103 := B21.ne n104
      have nep73p103 : p73 ≠ p103 := l75.ne n104
      have n0p103 : H p103 = none := fresh_back F0 n104
      replace B21 := Bag.ex B21 e102
      replace l75 := Lt.ex l75 e102
      replace f83 := Me.ex e102 f83
      replace f93 := Me.ex e102 f93
      replace f99 := Me.ex e102 f99
      replace F0 := F0.trans e102
      replace k3 := k3.trans (Kt.ex e102)
      refine s_forR1 er_int (by first | omega | assumption) fun H106 e107 => ?_
      replace B21 := Bag.ex B21 e107
      replace l75 := Lt.ex l75 e107
      replace l105 := Lt.ex l105 e107
      replace F0 := F0.trans e107
      replace k3 := k3.trans (Kt.ex e107)
      have k108 : Kt K _ _ := Kt.refl H106
      refine fl_R (lo := 0) (hi := (2 : Int)) (by rw [Int.sub_zero]) (fun i σ' H' => ∃ (s2 : Unit) (j109 : Option V) (j110 : Option V) (j111 : Option V) (j112 : Option V) (j113 : Option V), s2 = () ∧ σ' = [some (.ref a), some (.int x1), some (.ref b17), some (.int lp), some (.ref p73), some (.ref p103), j109, j110, j111, j112, j113, none] ∧ Ex H H' ∧ Kt K H106 H' ∧ Lt (rT K rI) H' p73 (([y46, y59, ([] : (List Int))] : List (List Int))) ∧ Lt (rT K (rT K rI)) H' p103 (([y79, y89, ([] : (List (List Int)))] : List (List (List Int)))) ∧ Bag H' b17) ?_ ?_ ?_
      · exact ⟨(), _, _, _, _, _, rfl, rfl, F0, k108, l75, l105, B21⟩
      ·
        rintro i x2  _ H114 hi hx2 ⟨s2, j109, j110, j111, j112, j113, hs2, rfl, F0, k108, l75, l105, B21⟩
        replace k3 := k3.trans k108
        have hr2 := rng_at hx2
        refine q_forLv rfl l75 ?_
        have k119 : Kt K _ _ := Kt.refl H114
        refine fq_L (v := .ref p73) (Lt.rl l75) (fun i σ' H' => ∃ (s3 : Unit) (j120 : Option V) (j121 : Option V) (j122 : Option V), s3 = () ∧ σ' = [some (.ref a), some (.int x1), some (.ref b17), some (.int lp), some (.ref p73), some (.ref p103), some (.int x2), j120, j121, j122, j113, none] ∧ Ex H H' ∧ Kt K H114 H' ∧ Lt (rT K rI) H' p73 (([y46, y59, ([] : (List Int))] : List (List Int))) ∧ Lt (rT K (rT K rI)) H' p103 (([y79, y89, ([] : (List (List Int)))] : List (List (List Int)))) ∧ Bag H' b17) ?_ ?_ ?_ ?_ _ rfl
        · exact ⟨(), _, _, _, rfl, rfl, F0, k119, l75, l105, B21⟩
        · intro i σ' H' hi h; obtain ⟨s3, j120, j121, j122, hs3, rfl, F0, k119, l75, l105, B21⟩ := h; exact Lt.rl l75
        ·
          rintro i x3 v124 _ H123 hi hx3 ⟨s3, j120, j121, j122, hs3, rfl, F0, k119, l75, l105, B21⟩ r125
          replace k108 := k108.trans k119
          replace k3 := k3.trans k119
          have hx := list3_mem (F := PolyOk lp 12) (by assumption) (by assumption) polyOk_nil hx3
          refine q_asgX (er_call (eac (er_var rfl r125) ea0) (gv_show_poly (hx.up hP5.2))) fun H126 e127 => ?_
          replace B21 := Bag.ex B21 e127
          replace l75 := Lt.ex l75 e127
          replace l105 := Lt.ex l105 e127
          replace r125 := Me.ex e127 r125
          replace F0 := F0.trans e127
          replace k119 := k119.trans (Kt.ex e127)
          replace k108 := k108.trans (Kt.ex e127)
          replace k3 := k3.trans (Kt.ex e127)
          refine q_not (et_or (et_not (et_b (er_isX er_xv))) fun hc128 => (et_t (er_xne er_xv (er_call (eac (er_var rfl r125) ea0) (gv__law_written (hx.up hP5.2)))))) (by simp) fun H129 e130 => ?_
          replace B21 := Bag.ex B21 e130
          replace l75 := Lt.ex l75 e130
          replace l105 := Lt.ex l105 e130
          replace r125 := Me.ex e130 r125
          replace F0 := F0.trans e130
          replace k119 := k119.trans (Kt.ex e130)
          replace k108 := k108.trans (Kt.ex e130)
          replace k3 := k3.trans (Kt.ex e130)
          refine s_forLn (el_lcTIc (K := K) (er_tup (eas er_int (eas er_int (eas er_int eas0))) (by first | decide | simp)) (by first | omega | assumption | (simp only [List.length_append, List.length_cons, List.length_nil, List.length_map, List.length_range, List.length_set, rng_len, enm_len, repL_len] at *; omega)) (fun _ => rfl) (fun x139 H1 e140 hx141 => (et_t (er_cmp er_iv er_iv))) (fun x139 H1 e140 hx141 => fun hc142 => er_iv)) fun p137 H135 n143 e136 l138 => ?_
          have neb17p137 : b17 ≠ p137 := B21.ne n143
          have nep73p137 : p73 ≠ p137 := l75.ne n143
          have nep103p137 : p103 ≠ p137 := l105.ne n143
          have n0p137 : H p137 = none := fresh_back F0 n143
          replace B21 := Bag.ex B21 e136
          replace l75 := Lt.ex l75 e136
          replace l105 := Lt.ex l105 e136
          replace r125 := Me.ex e136 r125
          replace F0 := F0.trans e136
          replace k119 := k119.trans (Kt.ex e136)
          replace k108 := k108.trans (Kt.ex e136)
          replace k3 := k3.trans (Kt.ex e136)
          have k144 : Kt K _ _ := Kt.refl H135
          refine fl_LI (v := .ref p137) (Lt.rl l138) (fun i σ' H' => ∃ (s4 : Unit) (j145 : Option V), s4 = () ∧ σ' = [some (.ref a), some (.int x1), some (.ref b17), some (.int lp), some (.ref p73), some (.ref p103), some (.int x2), some v124, some (.str (S (((wP x3))))), j145, j113, none] ∧ Ex H H' ∧ Kt K H135 H' ∧ Lt (rT K rI) H' p73 (([y46, y59, ([] : (List Int))] : List (List Int))) ∧ Lt (rT K (rT K rI)) H' p103 (([y79, y89, ([] : (List (List Int)))] : List (List (List Int)))) ∧ Lt rI H' p137 (((([(2 : Int), (3 : Int), (5 : Int)]).filter fun x139 => (decide (lp ≤ x139))).map fun x139 => x139)) ∧ Bag H' b17) ?_ ?_ ?_ ?_ _ rfl
          · exact ⟨(), _, rfl, rfl, F0, k144, l75, l105, l138, B21⟩
          · intro i σ' H' hi h; obtain ⟨s4, j145, hs4, rfl, F0, k144, l75, l105, l138, B21⟩ := h; exact Lt.rl l138
          ·
            rintro i x4  _ H146 hi hx4 ⟨s4, j145, hs4, rfl, F0, k144, l75, l105, l138, B21⟩
            replace r125 := Mkt.kt k144 r125
            replace k119 := k119.trans k144
            replace k108 := k108.trans k144
            replace k3 := k3.trans k144
            have hq := pick_ge hx4
            refine s_not (et_t (er_neD (er_call (eac er_iv (eac er_xv ea0)) (gv_read_poly hq.1 (wP_ok hq.1.le hq.2 (by decide) hx))) (er_var rfl r125))) (by rw [rdP_wP hP5.2 hx.2.1]; simp) fun H147 e148 => ?_
            replace B21 := Bag.ex B21 e148
            replace l75 := Lt.ex l75 e148
            replace l105 := Lt.ex l105 e148
            replace r125 := Me.ex e148 r125
            replace l138 := Lt.ex l138 e148
            replace F0 := F0.trans e148
            replace k144 := k144.trans (Kt.ex e148)
            replace k119 := k119.trans (Kt.ex e148)
            replace k108 := k108.trans (Kt.ex e148)
            replace k3 := k3.trans (Kt.ex e148)
            exact ⟨(), _, rfl, rfl, F0, k144, l75, l105, l138, B21⟩
          rintro _ H149 ⟨s4, j145, hs4, rfl, F0, k144, l75, l105, l138, B21⟩
          replace r125 := Mkt.kt k144 r125
          replace k119 := k119.trans k144
          replace k108 := k108.trans k144
          replace k3 := k3.trans k144
          exact ⟨(), _, _, _, rfl, rfl, F0, k119, l75, l105, B21⟩
        rintro _ H150 ⟨s3, j120, j121, j122, hs3, rfl, F0, k119, l75, l105, B21⟩
        replace k108 := k108.trans k119
        replace k3 := k3.trans k119
        refine s_forLv rfl l105 ?_
        have k155 : Kt K _ _ := Kt.refl H150
        refine fl_L (v := .ref p103) (Lt.rl l105) (fun i σ' H' => ∃ (s5 : Unit) (j156 : Option V) (j157 : Option V) (j158 : Option V), s5 = () ∧ σ' = [some (.ref a), some (.int x1), some (.ref b17), some (.int lp), some (.ref p73), some (.ref p103), some (.int x2), j120, j156, j157, j158, none] ∧ Ex H H' ∧ Kt K H150 H' ∧ Lt (rT K rI) H' p73 (([y46, y59, ([] : (List Int))] : List (List Int))) ∧ Lt (rT K (rT K rI)) H' p103 (([y79, y89, ([] : (List (List Int)))] : List (List (List Int)))) ∧ Bag H' b17) ?_ ?_ ?_ ?_ _ rfl
        · exact ⟨(), _, _, _, rfl, rfl, F0, k155, l75, l105, B21⟩
        · intro i σ' H' hi h; obtain ⟨s5, j156, j157, j158, hs5, rfl, F0, k155, l75, l105, B21⟩ := h; exact Lt.rl l105
        ·
          rintro i x5 v160 _ H159 hi hx5 ⟨s5, j156, j157, j158, hs5, rfl, F0, k155, l75, l105, B21⟩ r161
          replace k108 := k108.trans k155
          replace k3 := k3.trans k155
          have hx := list3_mem (F := TwoOk lp 7 4) (by assumption) (by assumption) twoOk_nil hx5
          refine q_asgX (er_call (eac (er_var rfl r161) ea0) (gv_show_two (hx.up hP5.2))) fun H162 e163 => ?_
          replace B21 := Bag.ex B21 e163
          replace l75 := Lt.ex l75 e163
          replace l105 := Lt.ex l105 e163
          replace r161 := Me.ex e163 r161
          replace F0 := F0.trans e163
          replace k155 := k155.trans (Kt.ex e163)
          replace k108 := k108.trans (Kt.ex e163)
          replace k3 := k3.trans (Kt.ex e163)
          refine q_not (et_or (et_not (et_b (er_isX er_xv))) fun hc164 => (et_t (er_xne er_xv (er_call (eac (er_var rfl r161) ea0) (gv__law_two_written (hx.up hP5.2)))))) (by simp) fun H165 e166 => ?_
          replace B21 := Bag.ex B21 e166
          replace l75 := Lt.ex l75 e166
          replace l105 := Lt.ex l105 e166
          replace r161 := Me.ex e166 r161
          replace F0 := F0.trans e166
          replace k155 := k155.trans (Kt.ex e166)
          replace k108 := k108.trans (Kt.ex e166)
          replace k3 := k3.trans (Kt.ex e166)
          refine s_forLn (el_lcTIc (K := K) (er_tup (eas er_int (eas er_int (eas er_int eas0))) (by first | decide | simp)) (by first | omega | assumption | (simp only [List.length_append, List.length_cons, List.length_nil, List.length_map, List.length_range, List.length_set, rng_len, enm_len, repL_len] at *; omega)) (fun _ => rfl) (fun x175 H1 e176 hx177 => (et_t (er_cmp er_iv er_iv))) (fun x175 H1 e176 hx177 => fun hc178 => er_iv)) fun p173 H171 n179 e172 l174 => ?_
          have neb17p173 : b17 ≠ p173 := B21.ne n179
          have nep73p173 : p73 ≠ p173 := l75.ne n179
          have nep103p173 : p103 ≠ p173 := l105.ne n179
          have n0p173 : H p173 = none := fresh_back F0 n179
          replace B21 := Bag.ex B21 e172
          replace l75 := Lt.ex l75 e172
          replace l105 := Lt.ex l105 e172
          replace r161 := Me.ex e172 r161
          replace F0 := F0.trans e172
          replace k155 := k155.trans (Kt.ex e172)
          replace k108 := k108.trans (Kt.ex e172)
          replace k3 := k3.trans (Kt.ex e172)
          have k180 : Kt K _ _ := Kt.refl H171
          refine fl_LI (v := .ref p173) (Lt.rl l174) (fun i σ' H' => ∃ (s6 : Unit) (j181 : Option V), s6 = () ∧ σ' = [some (.ref a), some (.int x1), some (.ref b17), some (.int lp), some (.ref p73), some (.ref p103), some (.int x2), j120, some (.str (S (((wT x5))))), j181, some v160, none] ∧ Ex H H' ∧ Kt K H171 H' ∧ Lt (rT K rI) H' p73 (([y46, y59, ([] : (List Int))] : List (List Int))) ∧ Lt (rT K (rT K rI)) H' p103 (([y79, y89, ([] : (List (List Int)))] : List (List (List Int)))) ∧ Lt rI H' p173 (((([(2 : Int), (3 : Int), (5 : Int)]).filter fun x175 => (decide (lp ≤ x175))).map fun x175 => x175)) ∧ Bag H' b17) ?_ ?_ ?_ ?_ _ rfl
          · exact ⟨(), _, rfl, rfl, F0, k180, l75, l105, l174, B21⟩
          · intro i σ' H' hi h; obtain ⟨s6, j181, hs6, rfl, F0, k180, l75, l105, l174, B21⟩ := h; exact Lt.rl l174
          ·
            rintro i x6  _ H182 hi hx6 ⟨s6, j181, hs6, rfl, F0, k180, l75, l105, l174, B21⟩
            replace r161 := Mkt.kt k180 r161
            replace k155 := k155.trans k180
            replace k108 := k108.trans k180
            replace k3 := k3.trans k180
            have hq := pick_ge hx6
            refine s_not (et_t (er_neD (er_call (eac er_iv (eac er_xv ea0)) (gv_read_two hq.1 (wT_ok hq.1.le hq.2 (by decide) hx))) (er_var rfl r161))) (by rw [rdT_wT hP5.2 hx]; simp) fun H183 e184 => ?_
            replace B21 := Bag.ex B21 e184
            replace l75 := Lt.ex l75 e184
            replace l105 := Lt.ex l105 e184
            replace r161 := Me.ex e184 r161
            replace l174 := Lt.ex l174 e184
            replace F0 := F0.trans e184
            replace k180 := k180.trans (Kt.ex e184)
            replace k155 := k155.trans (Kt.ex e184)
            replace k108 := k108.trans (Kt.ex e184)
            replace k3 := k3.trans (Kt.ex e184)
            exact ⟨(), _, rfl, rfl, F0, k180, l75, l105, l174, B21⟩
          rintro _ H185 ⟨s6, j181, hs6, rfl, F0, k180, l75, l105, l174, B21⟩
          replace r161 := Mkt.kt k180 r161
          replace k155 := k155.trans k180
          replace k108 := k108.trans k180
          replace k3 := k3.trans k180
          exact ⟨(), _, _, _, rfl, rfl, F0, k155, l75, l105, B21⟩
        rintro _ H186 ⟨s5, j156, j157, j158, hs5, rfl, F0, k155, l75, l105, B21⟩
        replace k108 := k108.trans k155
        replace k3 := k3.trans k155
        exact ⟨(), _, _, _, _, _, rfl, rfl, F0, k108, l75, l105, B21⟩
      rintro _ H187 ⟨s2, j109, j110, j111, j112, j113, hs2, rfl, F0, k108, l75, l105, B21⟩
      replace k3 := k3.trans k108
      exact ⟨(), _, _, _, _, _, _, _, _, _, _, trivial, rfl, F0, k3⟩
    rintro _ H188 ⟨s1, j4, j5, j6, j7, j8, j9, j10, j11, j12, j13, hs1, rfl, F0, k3⟩
    refine s_ret (R := rB) er_bl fun v H' e r => ?_
    cases r
    have z := q _ (F0.trans e)
    exact z

end
theorem all_mk {l : PySem.W.OpenLaw} {w : World} {K : PySem.W.Frag} {h : Heap} {mg : Str → Option Value} {fa f0 f1 f2 f3 f4 f5 f6 f7 f8 f9 f10 f11 f12 f13 f14 f15 f16 f17 : Addr} (X : K.In h) (G : h.Ns mainGlobals mg) (hfa : mg "law" = some (.ref fa))
    {od0 an0 : Option Addr} {sl0 : Array (Option Value)} {oc0 kV0 dc0 pm0 cd0 ct0 : Value}
    {od1 an1 : Option Addr} {sl1 : Array (Option Value)} {oc1 kV1 dc1 pm1 cd1 ct1 : Value}
    {od2 an2 : Option Addr} {sl2 : Array (Option Value)} {oc2 kV2 dc2 pm2 cd2 ct2 : Value}
    {od3 an3 : Option Addr} {sl3 : Array (Option Value)} {oc3 kV3 dc3 pm3 cd3 ct3 : Value}
    {od4 an4 : Option Addr} {sl4 : Array (Option Value)} {oc4 kV4 dc4 pm4 cd4 ct4 : Value}
    {od5 an5 : Option Addr} {sl5 : Array (Option Value)} {oc5 kV5 dc5 pm5 cd5 ct5 : Value}
    {od6 an6 : Option Addr} {sl6 : Array (Option Value)} {oc6 kV6 dc6 pm6 cd6 ct6 : Value}
    {od7 an7 : Option Addr} {sl7 : Array (Option Value)} {oc7 kV7 dc7 pm7 cd7 ct7 : Value}
    {od8 an8 : Option Addr} {sl8 : Array (Option Value)} {oc8 kV8 dc8 pm8 cd8 ct8 : Value}
    {od9 an9 : Option Addr} {sl9 : Array (Option Value)} {oc9 kV9 dc9 pm9 cd9 ct9 : Value}
    {od10 an10 : Option Addr} {sl10 : Array (Option Value)} {oc10 kV10 dc10 pm10 cd10 ct10 : Value}
    {od11 an11 : Option Addr} {sl11 : Array (Option Value)} {oc11 kV11 dc11 pm11 cd11 ct11 : Value}
    {od12 an12 : Option Addr} {sl12 : Array (Option Value)} {oc12 kV12 dc12 pm12 cd12 ct12 : Value}
    {od13 an13 : Option Addr} {sl13 : Array (Option Value)} {oc13 kV13 dc13 pm13 cd13 ct13 : Value}
    {od14 an14 : Option Addr} {sl14 : Array (Option Value)} {oc14 kV14 dc14 pm14 cd14 ct14 : Value}
    {od15 an15 : Option Addr} {sl15 : Array (Option Value)} {oc15 kV15 dc15 pm15 cd15 ct15 : Value}
    {od16 an16 : Option Addr} {sl16 : Array (Option Value)} {oc16 kV16 dc16 pm16 cd16 ct16 : Value}
    {od17 an17 : Option Addr} {sl17 : Array (Option Value)} {oc17 kV17 dc17 pm17 cd17 ct17 : Value}
    {a_PRIMES : Addr} {dd_PRIMES : Option Addr} {cn_PRIMES : Nat} {cs_PRIMES : Array (Option Value)} {tkPRIMES0 tkPRIMES1 tkPRIMES2 : Tok}
    {tkFIGURES : Tok}
    {tkMOST_NUMBERS : Tok}
    {tkMOST_POLYS : Tok}
    {tkMOST_OF_TWO : Tok}
    {C_NoPrime : Addr}
    {C_NoText : Addr}
    (a0 : PySem.W.nsIn K mainGlobals "is_whole" = some (some (.ref f0)))
    (l0 : K.lookup f0 = some ⟨oc0, od0, .func (PySem.W.fnOf "is_whole" "is_whole" (defArgs s_is_whole) (defBody s_is_whole) (defScope s_is_whole) .none kV0 dc0 pm0 an0 cd0 ct0), sl0⟩)
    (c0 : PySem.W.codeIn K cd0 "is_whole" = true)
    (k0 : PySem.W.keepIn K (.ref f0) = true)
    (a1 : PySem.W.nsIn K mainGlobals "is_prime" = some (some (.ref f1)))
    (l1 : K.lookup f1 = some ⟨oc1, od1, .func (PySem.W.fnOf "is_prime" "is_prime" (defArgs s_is_prime) (defBody s_is_prime) (defScope s_is_prime) .none kV1 dc1 pm1 an1 cd1 ct1), sl1⟩)
    (c1 : PySem.W.codeIn K cd1 "is_prime" = true)
    (k1 : PySem.W.keepIn K (.ref f1) = true)
    (a2 : PySem.W.nsIn K mainGlobals "look_prime" = some (some (.ref f2)))
    (l2 : K.lookup f2 = some ⟨oc2, od2, .func (PySem.W.fnOf "look_prime" "look_prime" (defArgs s_look_prime) (defBody s_look_prime) (defScope s_look_prime) .none kV2 dc2 pm2 an2 cd2 ct2), sl2⟩)
    (c2 : PySem.W.codeIn K cd2 "look_prime" = true)
    (k2 : PySem.W.keepIn K (.ref f2) = true)
    (a3 : PySem.W.nsIn K mainGlobals "show_poly" = some (some (.ref f3)))
    (l3 : K.lookup f3 = some ⟨oc3, od3, .func (PySem.W.fnOf "show_poly" "show_poly" (defArgs s_show_poly) (defBody s_show_poly) (defScope s_show_poly) .none kV3 dc3 pm3 an3 cd3 ct3), sl3⟩)
    (c3 : PySem.W.codeIn K cd3 "show_poly" = true)
    (k3 : PySem.W.keepIn K (.ref f3) = true)
    (a4 : PySem.W.nsIn K mainGlobals "show_two" = some (some (.ref f4)))
    (l4 : K.lookup f4 = some ⟨oc4, od4, .func (PySem.W.fnOf "show_two" "show_two" (defArgs s_show_two) (defBody s_show_two) (defScope s_show_two) .none kV4 dc4 pm4 an4 cd4 ct4), sl4⟩)
    (c4 : PySem.W.codeIn K cd4 "show_two" = true)
    (k4 : PySem.W.keepIn K (.ref f4) = true)
    (a5 : PySem.W.nsIn K mainGlobals "poly_in" = some (some (.ref f5)))
    (l5 : K.lookup f5 = some ⟨oc5, od5, .func (PySem.W.fnOf "poly_in" "poly_in" (defArgs s_poly_in) (defBody s_poly_in) (defScope s_poly_in) .none kV5 dc5 pm5 an5 cd5 ct5), sl5⟩)
    (c5 : PySem.W.codeIn K cd5 "poly_in" = true)
    (k5 : PySem.W.keepIn K (.ref f5) = true)
    (a6 : PySem.W.nsIn K mainGlobals "two_in" = some (some (.ref f6)))
    (l6 : K.lookup f6 = some ⟨oc6, od6, .func (PySem.W.fnOf "two_in" "two_in" (defArgs s_two_in) (defBody s_two_in) (defScope s_two_in) .none kV6 dc6 pm6 an6 cd6 ct6), sl6⟩)
    (c6 : PySem.W.codeIn K cd6 "two_in" = true)
    (k6 : PySem.W.keepIn K (.ref f6) = true)
    (a7 : PySem.W.nsIn K mainGlobals "read_poly" = some (some (.ref f7)))
    (l7 : K.lookup f7 = some ⟨oc7, od7, .func (PySem.W.fnOf "read_poly" "read_poly" (defArgs s_read_poly) (defBody s_read_poly) (defScope s_read_poly) .none kV7 dc7 pm7 an7 cd7 ct7), sl7⟩)
    (c7 : PySem.W.codeIn K cd7 "read_poly" = true)
    (k7 : PySem.W.keepIn K (.ref f7) = true)
    (a8 : PySem.W.nsIn K mainGlobals "read_two" = some (some (.ref f8)))
    (l8 : K.lookup f8 = some ⟨oc8, od8, .func (PySem.W.fnOf "read_two" "read_two" (defArgs s_read_two) (defBody s_read_two) (defScope s_read_two) .none kV8 dc8 pm8 an8 cd8 ct8), sl8⟩)
    (c8 : PySem.W.codeIn K cd8 "read_two" = true)
    (k8 : PySem.W.keepIn K (.ref f8) = true)
    (a9 : PySem.W.nsIn K mainGlobals "_law_bag" = some (some (.ref f9)))
    (l9 : K.lookup f9 = some ⟨oc9, od9, .func (PySem.W.fnOf "_law_bag" "_law_bag" (defArgs s__law_bag) (defBody s__law_bag) (defScope s__law_bag) .none kV9 dc9 pm9 an9 cd9 ct9), sl9⟩)
    (c9 : PySem.W.codeIn K cd9 "_law_bag" = true)
    (k9 : PySem.W.keepIn K (.ref f9) = true)
    (a10 : PySem.W.nsIn K mainGlobals "_law_take" = some (some (.ref f10)))
    (l10 : K.lookup f10 = some ⟨oc10, od10, .func (PySem.W.fnOf "_law_take" "_law_take" (defArgs s__law_take) (defBody s__law_take) (defScope s__law_take) .none kV10 dc10 pm10 an10 cd10 ct10), sl10⟩)
    (c10 : PySem.W.codeIn K cd10 "_law_take" = true)
    (k10 : PySem.W.keepIn K (.ref f10) = true)
    (a11 : PySem.W.nsIn K mainGlobals "_law_numbers" = some (some (.ref f11)))
    (l11 : K.lookup f11 = some ⟨oc11, od11, .func (PySem.W.fnOf "_law_numbers" "_law_numbers" (defArgs s__law_numbers) (defBody s__law_numbers) (defScope s__law_numbers) .none kV11 dc11 pm11 an11 cd11 ct11), sl11⟩)
    (c11 : PySem.W.codeIn K cd11 "_law_numbers" = true)
    (k11 : PySem.W.keepIn K (.ref f11) = true)
    (a12 : PySem.W.nsIn K mainGlobals "_law_trimmed" = some (some (.ref f12)))
    (l12 : K.lookup f12 = some ⟨oc12, od12, .func (PySem.W.fnOf "_law_trimmed" "_law_trimmed" (defArgs s__law_trimmed) (defBody s__law_trimmed) (defScope s__law_trimmed) .none kV12 dc12 pm12 an12 cd12 ct12), sl12⟩)
    (c12 : PySem.W.codeIn K cd12 "_law_trimmed" = true)
    (k12 : PySem.W.keepIn K (.ref f12) = true)
    (a13 : PySem.W.nsIn K mainGlobals "_law_poly" = some (some (.ref f13)))
    (l13 : K.lookup f13 = some ⟨oc13, od13, .func (PySem.W.fnOf "_law_poly" "_law_poly" (defArgs s__law_poly) (defBody s__law_poly) (defScope s__law_poly) .none kV13 dc13 pm13 an13 cd13 ct13), sl13⟩)
    (c13 : PySem.W.codeIn K cd13 "_law_poly" = true)
    (k13 : PySem.W.keepIn K (.ref f13) = true)
    (a14 : PySem.W.nsIn K mainGlobals "_law_two" = some (some (.ref f14)))
    (l14 : K.lookup f14 = some ⟨oc14, od14, .func (PySem.W.fnOf "_law_two" "_law_two" (defArgs s__law_two) (defBody s__law_two) (defScope s__law_two) .none kV14 dc14 pm14 an14 cd14 ct14), sl14⟩)
    (c14 : PySem.W.codeIn K cd14 "_law_two" = true)
    (k14 : PySem.W.keepIn K (.ref f14) = true)
    (a15 : PySem.W.nsIn K mainGlobals "_law_written" = some (some (.ref f15)))
    (l15 : K.lookup f15 = some ⟨oc15, od15, .func (PySem.W.fnOf "_law_written" "_law_written" (defArgs s__law_written) (defBody s__law_written) (defScope s__law_written) .none kV15 dc15 pm15 an15 cd15 ct15), sl15⟩)
    (c15 : PySem.W.codeIn K cd15 "_law_written" = true)
    (k15 : PySem.W.keepIn K (.ref f15) = true)
    (a16 : PySem.W.nsIn K mainGlobals "_law_two_written" = some (some (.ref f16)))
    (l16 : K.lookup f16 = some ⟨oc16, od16, .func (PySem.W.fnOf "_law_two_written" "_law_two_written" (defArgs s__law_two_written) (defBody s__law_two_written) (defScope s__law_two_written) .none kV16 dc16 pm16 an16 cd16 ct16), sl16⟩)
    (c16 : PySem.W.codeIn K cd16 "_law_two_written" = true)
    (k16 : PySem.W.keepIn K (.ref f16) = true)
    (a17 : PySem.W.nsIn K mainGlobals "law" = some (some (.ref f17)))
    (l17 : K.lookup f17 = some ⟨oc17, od17, .func (PySem.W.fnOf "law" "law" (defArgs s_law) (defBody s_law) (defScope s_law) .none kV17 dc17 pm17 an17 cd17 ct17), sl17⟩)
    (c17 : PySem.W.codeIn K cd17 "law" = true)
    (k17 : PySem.W.keepIn K (.ref f17) = true)
    (n_isinstance : PySem.W.nsIn K mainGlobals "isinstance" = some none)
    (n_int : PySem.W.nsIn K mainGlobals "int" = some none)
    (n_bool : PySem.W.nsIn K mainGlobals "bool" = some none)
    (n_len : PySem.W.nsIn K mainGlobals "len" = some none)
    (n_enumerate : PySem.W.nsIn K mainGlobals "enumerate" = some none)
    (n_range : PySem.W.nsIn K mainGlobals "range" = some none)
    (n_abs : PySem.W.nsIn K mainGlobals "abs" = some none)
    (n_max : PySem.W.nsIn K mainGlobals "max" = some none)
    (n_min : PySem.W.nsIn K mainGlobals "min" = some none)
    (n_tuple : PySem.W.nsIn K mainGlobals "tuple" = some none)
    (n_str : PySem.W.nsIn K mainGlobals "str" = some none)
    (n_all : PySem.W.nsIn K mainGlobals "all" = some none)
    (ca_PRIMES : PySem.W.nsIn K mainGlobals "PRIMES" = some (some (.ref a_PRIMES)))
    (cl_PRIMES : K.lookup a_PRIMES = some ⟨.type "tuple", dd_PRIMES, .seq #[.int 2 tkPRIMES0, .int 3 tkPRIMES1, .int 5 tkPRIMES2] cn_PRIMES, cs_PRIMES⟩)
    (ca_FIGURES : PySem.W.nsIn K mainGlobals "FIGURES" = some (some (.str "01234" tkFIGURES)))
    (ca_MOST_NUMBERS : PySem.W.nsIn K mainGlobals "MOST_NUMBERS" = some (some (.int 12 tkMOST_NUMBERS)))
    (ca_MOST_POLYS : PySem.W.nsIn K mainGlobals "MOST_POLYS" = some (some (.int 7 tkMOST_POLYS)))
    (ca_MOST_OF_TWO : PySem.W.nsIn K mainGlobals "MOST_OF_TWO" = some (some (.int 4 tkMOST_OF_TWO)))
    (xa_NoPrime : PySem.W.nsIn K mainGlobals "NoPrime" = some (some (.ref C_NoPrime)))
    (xa_NoText : PySem.W.nsIn K mainGlobals "NoText" = some (some (.ref C_NoText))) :
    ∃ fd : FuncData, (∀ (s : Shared) (v : Value), BindsTo s fd ⟨[v], []⟩ [("_law_script", v)]) ∧ ∀ base : Heap, K.In base → base.Ns mainGlobals mg → FnOk l.prog w K mg base CX0 5 fa fd ["_law_script"] (spLaw K) := by
  have e := hfa.symm.trans (PySem.W.mg_of X G a17)
  cases e
  have c_PRIMES : Cn K mg "PRIMES" [.int 2, .int 3, .int 5] := ⟨a_PRIMES, PySem.W.mg_of X G ca_PRIMES, fun H => .inr ⟨_, _, _, cl_PRIMES, rfl, rfl, (by show 3 ≤ sizeLine; decide), .cons ⟨_, rfl⟩ (.cons ⟨_, rfl⟩ (.cons ⟨_, rfl⟩ (.nil)))⟩⟩
  have c_FIGURES : Cg mg "FIGURES" (.str "01234") := ⟨_, PySem.W.mg_of X G ca_FIGURES, ⟨_, rfl⟩⟩
  have c_MOST_NUMBERS : Cg mg "MOST_NUMBERS" (.int 12) := ⟨_, PySem.W.mg_of X G ca_MOST_NUMBERS, ⟨_, rfl⟩⟩
  have c_MOST_POLYS : Cg mg "MOST_POLYS" (.int 7) := ⟨_, PySem.W.mg_of X G ca_MOST_POLYS, ⟨_, rfl⟩⟩
  have c_MOST_OF_TWO : Cg mg "MOST_OF_TWO" (.int 4) := ⟨_, PySem.W.mg_of X G ca_MOST_OF_TWO, ⟨_, rfl⟩⟩
  have F0 := fun_mk (st := s_is_whole) l0 c0 k0
  have b0 := F0.binds (ps := ["thing"]) fun _ _ _ _ _ _ us hl => match us, hl with | [_], _ => rfl
  have F1 := fun_mk (st := s_is_prime) l1 c1 k1
  have b1 := F1.binds (ps := ["thing"]) fun _ _ _ _ _ _ us hl => match us, hl with | [_], _ => rfl
  have F2 := fun_mk (st := s_look_prime) l2 c2 k2
  have b2 := F2.binds (ps := ["p"]) fun _ _ _ _ _ _ us hl => match us, hl with | [_], _ => rfl
  have F3 := fun_mk (st := s_show_poly) l3 c3 k3
  have b3 := F3.binds (ps := ["poly"]) fun _ _ _ _ _ _ us hl => match us, hl with | [_], _ => rfl
  have F4 := fun_mk (st := s_show_two) l4 c4 k4
  have b4 := F4.binds (ps := ["two"]) fun _ _ _ _ _ _ us hl => match us, hl with | [_], _ => rfl
  have F5 := fun_mk (st := s_poly_in) l5 c5 k5
  have b5 := F5.binds (ps := ["p", "text", "most"]) fun _ _ _ _ _ _ us hl => match us, hl with | [_, _, _], _ => rfl
  have F6 := fun_mk (st := s_two_in) l6 c6 k6
  have b6 := F6.binds (ps := ["p", "text", "most"]) fun _ _ _ _ _ _ us hl => match us, hl with | [_, _, _], _ => rfl
  have F7 := fun_mk (st := s_read_poly) l7 c7 k7
  have b7 := F7.binds (ps := ["p", "thing"]) fun _ _ _ _ _ _ us hl => match us, hl with | [_, _], _ => rfl
  have F8 := fun_mk (st := s_read_two) l8 c8 k8
  have b8 := F8.binds (ps := ["p", "thing"]) fun _ _ _ _ _ _ us hl => match us, hl with | [_, _], _ => rfl
  have F9 := fun_mk (st := s__law_bag) l9 c9 k9
  have b9 := F9.binds (ps := ["_law_script", "_law_at"]) fun _ _ _ _ _ _ us hl => match us, hl with | [_, _], _ => rfl
  have F10 := fun_mk (st := s__law_take) l10 c10 k10
  have b10 := F10.binds (ps := ["_law_bag_here", "_law_many"]) fun _ _ _ _ _ _ us hl => match us, hl with | [_, _], _ => rfl
  have F11 := fun_mk (st := s__law_numbers) l11 c11 k11
  have b11 := F11.binds (ps := ["_law_bag_here", "_law_p", "_law_many"]) fun _ _ _ _ _ _ us hl => match us, hl with | [_, _, _], _ => rfl
  have F12 := fun_mk (st := s__law_trimmed) l12 c12 k12
  have b12 := F12.binds (ps := ["_law_numbers_here"]) fun _ _ _ _ _ _ us hl => match us, hl with | [_], _ => rfl
  have F13 := fun_mk (st := s__law_poly) l13 c13 k13
  have b13 := F13.binds (ps := ["_law_bag_here", "_law_p", "_law_most"]) fun _ _ _ _ _ _ us hl => match us, hl with | [_, _, _], _ => rfl
  have F14 := fun_mk (st := s__law_two) l14 c14 k14
  have b14 := F14.binds (ps := ["_law_bag_here", "_law_p"]) fun _ _ _ _ _ _ us hl => match us, hl with | [_, _], _ => rfl
  have F15 := fun_mk (st := s__law_written) l15 c15 k15
  have b15 := F15.binds (ps := ["_law_poly_here"]) fun _ _ _ _ _ _ us hl => match us, hl with | [_], _ => rfl
  have F16 := fun_mk (st := s__law_two_written) l16 c16 k16
  have b16 := F16.binds (ps := ["_law_two_here"]) fun _ _ _ _ _ _ us hl => match us, hl with | [_], _ => rfl
  have F17 := fun_mk (st := s_law) l17 c17 k17
  refine ⟨PySem.W.fnOf "law" "law" (defArgs s_law) (defBody s_law) (defScope s_law) .none kV17 dc17 pm17 an17 cd17 ct17, fun s v => .of_eq rfl, fun base _ _ => ?_⟩
  have D_is_whole : Df l.prog w K mg base CX0 1 "is_whole" ["thing"] (sp_is_whole K) := ⟨f0, _, ok_is_whole F0 (PySem.W.mg_none_of X G n_isinstance) (PySem.W.mg_none_of X G n_int) (PySem.W.mg_none_of X G n_bool), PySem.W.mg_of X G a0, k0, b0⟩
  have D_is_prime : Df l.prog w K mg base CX0 2 "is_prime" ["thing"] (sp_is_prime K) := ⟨f1, _, ok_is_prime F1 D_is_whole c_PRIMES, PySem.W.mg_of X G a1, k1, b1⟩
  have D_look_prime : Df l.prog w K mg base CX0 3 "look_prime" ["p"] (sp_look_prime K) := ⟨f2, _, ok_look_prime F2 D_is_prime (PySem.W.mg_of X G xa_NoPrime), PySem.W.mg_of X G a2, k2, b2⟩
  have D_show_poly : Df l.prog w K mg base CX0 1 "show_poly" ["poly"] (sp_show_poly K) := ⟨f3, _, ok_show_poly F3 (PySem.W.mg_none_of X G n_str), PySem.W.mg_of X G a3, k3, b3⟩
  have D_show_two : Df l.prog w K mg base CX0 2 "show_two" ["two"] (sp_show_two K) := ⟨f4, _, ok_show_two F4 D_show_poly, PySem.W.mg_of X G a4, k4, b4⟩
  have D_poly_in : Df l.prog w K mg base CX0 1 "poly_in" ["p", "text", "most"] (sp_poly_in K) := ⟨f5, _, ok_poly_in F5 (PySem.W.mg_none_of X G n_tuple) (PySem.W.mg_of X G xa_NoText) (PySem.W.mg_none_of X G n_len) (PySem.W.mg_none_of X G n_all) (PySem.W.mg_none_of X G n_int) c_FIGURES, PySem.W.mg_of X G a5, k5, b5⟩
  have D_two_in : Df l.prog w K mg base CX0 2 "two_in" ["p", "text", "most"] (sp_two_in K) := ⟨f6, _, ok_two_in F6 (PySem.W.mg_none_of X G n_tuple) (PySem.W.mg_of X G xa_NoText) (PySem.W.mg_none_of X G n_len) D_poly_in c_MOST_OF_TWO, PySem.W.mg_of X G a6, k6, b6⟩
  have D_read_poly : Df l.prog w K mg base CX0 4 "read_poly" ["p", "thing"] (sp_read_poly K) := ⟨f7, _, ok_read_poly F7 D_look_prime D_poly_in c_MOST_NUMBERS (PySem.W.mg_none_of X G n_isinstance) (PySem.W.mg_none_of X G n_str) (PySem.W.mg_of X G xa_NoText), PySem.W.mg_of X G a7, k7, b7⟩
  have D_read_two : Df l.prog w K mg base CX0 4 "read_two" ["p", "thing"] (sp_read_two K) := ⟨f8, _, ok_read_two F8 D_look_prime D_two_in c_MOST_POLYS (PySem.W.mg_none_of X G n_isinstance) (PySem.W.mg_none_of X G n_str) (PySem.W.mg_of X G xa_NoText), PySem.W.mg_of X G a8, k8, b8⟩
  have D__law_bag : Df l.prog w K mg base CX0 1 "_law_bag" ["_law_script", "_law_at"] (sp__law_bag K) := ⟨f9, _, ok__law_bag F9 (PySem.W.mg_none_of X G n_len) (PySem.W.mg_none_of X G n_abs) (PySem.W.mg_none_of X G n_int), PySem.W.mg_of X G a9, k9, b9⟩
  have D__law_take : Df l.prog w K mg base CX0 1 "_law_take" ["_law_bag_here", "_law_many"] (sp__law_take K) := ⟨f10, _, ok__law_take F10, PySem.W.mg_of X G a10, k10, b10⟩
  have D__law_numbers : Df l.prog w K mg base CX0 2 "_law_numbers" ["_law_bag_here", "_law_p", "_law_many"] (sp__law_numbers K) := ⟨f11, _, ok__law_numbers F11 (PySem.W.mg_none_of X G n_tuple) D__law_take (PySem.W.mg_none_of X G n_range), PySem.W.mg_of X G a11, k11, b11⟩
  have D__law_trimmed : Df l.prog w K mg base CX0 1 "_law_trimmed" ["_law_numbers_here"] (sp__law_trimmed K) := ⟨f12, _, ok__law_trimmed F12 (PySem.W.mg_none_of X G n_max) (PySem.W.mg_none_of X G n_tuple) (PySem.W.mg_none_of X G n_range) (PySem.W.mg_none_of X G n_len), PySem.W.mg_of X G a12, k12, b12⟩
  have D__law_poly : Df l.prog w K mg base CX0 3 "_law_poly" ["_law_bag_here", "_law_p", "_law_most"] (sp__law_poly K) := ⟨f13, _, ok__law_poly F13 D__law_trimmed D__law_numbers D__law_take, PySem.W.mg_of X G a13, k13, b13⟩
  have D__law_two : Df l.prog w K mg base CX0 4 "_law_two" ["_law_bag_here", "_law_p"] (sp__law_two K) := ⟨f14, _, ok__law_two F14 (PySem.W.mg_none_of X G n_max) (PySem.W.mg_none_of X G n_tuple) D__law_poly (PySem.W.mg_none_of X G n_range) D__law_take (PySem.W.mg_none_of X G n_len), PySem.W.mg_of X G a14, k14, b14⟩
  have D__law_written : Df l.prog w K mg base CX0 1 "_law_written" ["_law_poly_here"] (sp__law_written K) := ⟨f15, _, ok__law_written F15 (PySem.W.mg_none_of X G n_int), PySem.W.mg_of X G a15, k15, b15⟩
  have D__law_two_written : Df l.prog w K mg base CX0 2 "_law_two_written" ["_law_two_here"] (sp__law_two_written K) := ⟨f16, _, ok__law_two_written F16 (PySem.W.mg_none_of X G n_enumerate) D__law_written (PySem.W.mg_none_of X G n_int), PySem.W.mg_of X G a16, k16, b16⟩
  exact ok_law F17 (PySem.W.mg_none_of X G n_range) (PySem.W.mg_none_of X G n_max) D__law_bag (PySem.W.mg_none_of X G n_min) D__law_take D__law_poly D__law_two (PySem.W.mg_none_of X G n_len) D_show_poly D_show_two (PySem.W.mg_none_of X G n_isinstance) (PySem.W.mg_none_of X G n_str) D__law_written D_read_poly D__law_two_written D_read_two
end Dg
open PySem PySem.W PyProof.Rows
set_option maxRecDepth 100000 in
set_option maxHeartbeats 0 in
theorem PySem.Challenge.cw_digitroots_k51_texts_written_holds : PySem.Challenge.rw_digitroots_k51_texts_written.Holds := by
  w_on; o_law; k_head; (case hw => w_witness2)
  k_fill
  refine L2.walk_of (l := PySem.Challenge.rw_digitroots_k51_texts_written) (n := 63) (k := 5) (x := "_law_script") (CX := fun _ => L2.CX0) (sp := fun w => Dg.spLaw _) rfl (by decide) rfl ⟨rfl, by decide, by decide⟩ (fun w h Y => PySem.W.kIn_of Y) ?F (fun _ _ a ns hl _ hS => ⟨a, ns, rfl, hS, hl, fun _ => rfl⟩) (fun _ _ _ _ _ h => h)
  case F =>
    intro w mg fa h KX G hmg
    refine' Dg.all_mk KX G hmg ?a0 ?l0 ?c0 ?k0 ?a1 ?l1 ?c1 ?k1 ?a2 ?l2 ?c2 ?k2 ?a3 ?l3 ?c3 ?k3 ?a4 ?l4 ?c4 ?k4 ?a5 ?l5 ?c5 ?k5 ?a6 ?l6 ?c6 ?k6 ?a7 ?l7 ?c7 ?k7 ?a8 ?l8 ?c8 ?k8 ?a9 ?l9 ?c9 ?k9 ?a10 ?l10 ?c10 ?k10 ?a11 ?l11 ?c11 ?k11 ?a12 ?l12 ?c12 ?k12 ?a13 ?l13 ?c13 ?k13 ?a14 ?l14 ?c14 ?k14 ?a15 ?l15 ?c15 ?k15 ?a16 ?l16 ?c16 ?k16 ?a17 ?l17 ?c17 ?k17 ?n_isinstance ?n_int ?n_bool ?n_len ?n_enumerate ?n_range ?n_abs ?n_max ?n_min ?n_tuple ?n_str ?n_all ?ca_PRIMES ?cl_PRIMES ?ca_FIGURES ?ca_MOST_NUMBERS ?ca_MOST_POLYS ?ca_MOST_OF_TWO ?xa_NoPrime ?xa_NoText
    (case a0 => k_is)
    (case l0 => k_is)
    (case c0 => k_is)
    (case k0 => k_is)
    (case a1 => k_is)
    (case l1 => k_is)
    (case c1 => k_is)
    (case k1 => k_is)
    (case a2 => k_is)
    (case l2 => k_is)
    (case c2 => k_is)
    (case k2 => k_is)
    (case a3 => k_is)
    (case l3 => k_is)
    (case c3 => k_is)
    (case k3 => k_is)
    (case a4 => k_is)
    (case l4 => k_is)
    (case c4 => k_is)
    (case k4 => k_is)
    (case a5 => k_is)
    (case l5 => k_is)
    (case c5 => k_is)
    (case k5 => k_is)
    (case a6 => k_is)
    (case l6 => k_is)
    (case c6 => k_is)
    (case k6 => k_is)
    (case a7 => k_is)
    (case l7 => k_is)
    (case c7 => k_is)
    (case k7 => k_is)
    (case a8 => k_is)
    (case l8 => k_is)
    (case c8 => k_is)
    (case k8 => k_is)
    (case a9 => k_is)
    (case l9 => k_is)
    (case c9 => k_is)
    (case k9 => k_is)
    (case a10 => k_is)
    (case l10 => k_is)
    (case c10 => k_is)
    (case k10 => k_is)
    (case a11 => k_is)
    (case l11 => k_is)
    (case c11 => k_is)
    (case k11 => k_is)
    (case a12 => k_is)
    (case l12 => k_is)
    (case c12 => k_is)
    (case k12 => k_is)
    (case a13 => k_is)
    (case l13 => k_is)
    (case c13 => k_is)
    (case k13 => k_is)
    (case a14 => k_is)
    (case l14 => k_is)
    (case c14 => k_is)
    (case k14 => k_is)
    (case a15 => k_is)
    (case l15 => k_is)
    (case c15 => k_is)
    (case k15 => k_is)
    (case a16 => k_is)
    (case l16 => k_is)
    (case c16 => k_is)
    (case k16 => k_is)
    (case a17 => k_is)
    (case l17 => k_is)
    (case c17 => k_is)
    (case k17 => k_is)
    (case n_isinstance => k_is)
    (case n_int => k_is)
    (case n_bool => k_is)
    (case n_len => k_is)
    (case n_enumerate => k_is)
    (case n_range => k_is)
    (case n_abs => k_is)
    (case n_max => k_is)
    (case n_min => k_is)
    (case n_tuple => k_is)
    (case n_str => k_is)
    (case n_all => k_is)
    (case ca_PRIMES => k_is)
    (case cl_PRIMES => k_is)
    (case ca_FIGURES => k_is)
    (case ca_MOST_NUMBERS => k_is)
    (case ca_MOST_POLYS => k_is)
    (case ca_MOST_OF_TWO => k_is)
    (case xa_NoPrime => k_is)
    (case xa_NoText => k_is)


