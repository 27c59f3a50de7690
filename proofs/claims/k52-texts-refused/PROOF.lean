import PyProof.Rows.All
import Wide.All
import OpenK.AllK
import Wide.FinOn
import HandS.ForMost
import HandS.ForExc
import HandS.IsInst
import HandS.ExcIs
import HandS.TupAny
import HandS.Evl
import HandS.Walk
import HandS.Zip
import HandS.Wide
import HandS.CallSlots
import KE.GoesEnum
import KE.DatumOrd
import HandS.TupMul
import PyProof.Rows.CallKwBuiltin
import HandS.Codes
import PyProof.StrOps2
import HandS.Style
import HandS.HotCalls
import HandS.ExcCtx
import HandS.Hot
import HandS.ReplaceLit
import HandS.ReplaceList
import HandS.Deep
import KE.GoesComp
import KE.KExcNote
import KE.GoesRaise
import PySem.Challenge.RW_digitroots_k52_texts_refused
set_option Elab.async false
set_option linter.all false
set_option maxRecDepth 100000
set_option maxHeartbeats 4000000
set_option maxRecDepth 100000
set_option maxHeartbeats 4000000
/-! Readings by what they represent: Er (a value), El (a new list), Et (a test); the bag of a law. -/
namespace Dg
open PySem PySem.Spec PyProof.Rows L2 Evl

/-! ### steps of the heap -/
/-- at most what stands at p is changed -/
def C1 (p : Addr) (H H' : Hp) : Prop := ∀ a o, a ≠ p → H a = some o → H' a = some o
theorem C1.ex {p : Addr} {H H' : Hp} (e : Ex H H') : C1 p H H' := fun a o _ h => e a o h
theorem C1.refl (p : Addr) (H : Hp) : C1 p H H := fun _ _ _ h => h
theorem C1.trans {p : Addr} {H H1 H2 : Hp} (a : C1 p H H1) (b : C1 p H1 H2) : C1 p H H2 := fun x o n h => b x o n (a x o n h)
theorem C1.up {p : Addr} {H H' : Hp} {o : HO} (a : C1 p H H') : C1 p H (upd H' p o) := fun x u n h => by rw [upd_ne n]; exact a x u n h
theorem C1.upn {p q : Addr} {H H' : Hp} {o : HO} (a : C1 p H H') (hq : H q = none) : C1 p H (upd H' q o) := fun x u n h => by rw [upd_ne (ne_of_none h hq)]; exact a x u n h
/-- a step that turns p alone, p new to H -/
theorem C1.ofNew {p : Addr} {H H1 H2 : Hp} (e : Ex H H1) (hp : H p = none) (c : C1 p H1 H2) : Ex H H2 := fun a o h => c a o (ne_of_none h hp) (e a o h)
theorem C1.ofNew2 {b p : Addr} {H H1 H2 : Hp} (e : C1 b H H1) (hp : H p = none) (c : C1 p H1 H2) : C1 b H H2 := fun a o n h => c a o (ne_of_none h hp) (e a o n h)

/-- what is read as a tuple stays so -/
def Kt (K : PySem.W.Frag) (H H' : Hp) : Prop := ∀ a xs, SqT K H a xs → SqT K H' a xs
theorem Kt.refl {K : PySem.W.Frag} (H : Hp) : Kt K H H := fun _ _ h => h
theorem Kt.trans {K : PySem.W.Frag} {H H1 H2 : Hp} (a : Kt K H H1) (b : Kt K H1 H2) : Kt K H H2 := fun x o h => b x o (a x o h)
theorem Kt.ex {K : PySem.W.Frag} {H H' : Hp} (e : Ex H H') : Kt K H H' := fun _ _ h => ex_t e h
theorem Kt.c1 {K : PySem.W.Frag} {p : Addr} {xs : List V} {H H' : Hp} (hp : H p = some (.lst xs)) (c : C1 p H H') : Kt K H H' := fun a ys h => by
  rcases h with (h | ⟨o, h⟩) | h
  · exact .inl (.inl (c a _ (ne_of h hp (by intro z; cases z)) h))
  · exact .inl (.inr ⟨o, c a _ (ne_of h hp (by intro z; cases z)) h⟩)
  · exact .inr h

/-! ### what a value stands for -/
abbrev Rp (α : Type) := Hp → α → V → Prop
def rI : Rp Int := fun _ i v => v = .int i
def rB : Rp Bool := fun _ b v => v = .bl b
def rS : Rp Str := fun _ s v => v = .str s
def rN : Rp Unit := fun _ _ v => v = .non
/-- a tuple, a list of such -/
def rT {α : Type} (K : PySem.W.Frag) (R : Rp α) : Rp (List α) := fun H xs v => ∃ a vs, v = .ref a ∧ SqT K H a vs ∧ Paired (R H) xs vs
def rL {α : Type} (K : PySem.W.Frag) (R : Rp α) : Rp (List α) := fun H xs v => ∃ a vs, v = .ref a ∧ SqL K H a vs ∧ Paired (R H) xs vs
def r2 {α β : Type} (K : PySem.W.Frag) (R : Rp α) (S : Rp β) : Rp (α × β) := fun H x v => ∃ a u w, v = .ref a ∧ SqT K H a [u, w] ∧ R H x.1 u ∧ S H x.2 w
/-- stays while tuples stay -/
class Mkt {α : Type} (K : PySem.W.Frag) (R : Rp α) : Prop where
  kt : ∀ {H H' : Hp} {x : α} {v : V}, Kt K H H' → R H x v → R H' x v
/-- stays while all stays -/
class Me {α : Type} (R : Rp α) : Prop where
  ex : ∀ {H H' : Hp} {x : α} {v : V}, Ex H H' → R H x v → R H' x v
theorem pm {α β : Type} {F G : α → β → Prop} {l : List α} {m : List β} (h : Paired F l m) (f : ∀ a b, F a b → G a b) : Paired G l m := Paired.mapP h f

section
variable {α β γ : Type} {K : PySem.W.Frag} {H H' : Hp}
instance : Me rI := ⟨fun _ h => h⟩
instance : Me rB := ⟨fun _ h => h⟩
instance : Me rS := ⟨fun _ h => h⟩
instance : Me rN := ⟨fun _ h => h⟩
instance {R : Rp α} [r : Me R] : Me (rT K R) := ⟨fun e ⟨a, vs, h1, h2, h3⟩ => ⟨a, vs, h1, ex_t e h2, pm h3 fun _ _ z => r.ex e z⟩⟩
instance {R : Rp α} [r : Me R] : Me (rL K R) := ⟨fun e ⟨a, vs, h1, h2, h3⟩ => ⟨a, vs, h1, ex_l e h2, pm h3 fun _ _ z => r.ex e z⟩⟩
instance {R : Rp α} {S : Rp β} [r : Me R] [s : Me S] : Me (r2 K R S) := ⟨fun e ⟨a, u, w, h1, h2, h3, h4⟩ => ⟨a, u, w, h1, ex_t e h2, r.ex e h3, s.ex e h4⟩⟩
instance : Mkt K rI := ⟨fun _ h => h⟩
instance : Mkt K rB := ⟨fun _ h => h⟩
instance : Mkt K rS := ⟨fun _ h => h⟩
instance : Mkt K rN := ⟨fun _ h => h⟩
instance {R : Rp α} [r : Mkt K R] : Mkt K (rT K R) := ⟨fun e ⟨a, vs, h1, h2, h3⟩ => ⟨a, vs, h1, e _ _ h2, pm h3 fun _ _ z => r.kt e z⟩⟩
instance {R : Rp α} {S : Rp β} [r : Mkt K R] [s : Mkt K S] : Mkt K (r2 K R S) := ⟨fun e ⟨a, u, w, h1, h2, h3, h4⟩ => ⟨a, u, w, h1, e _ _ h2, r.kt e h3, s.kt e h4⟩⟩
/-- a list of this def's own, at p -/
def Lt (R : Rp α) (H : Hp) (p : Addr) (xs : List α) : Prop := ∃ vs, H p = some (.lst vs) ∧ Paired (R H) xs vs
theorem Lt.rl {R : Rp α} {p : Addr} {xs : List α} (h : Lt R H p xs) : rL K R H xs (.ref p) := let ⟨vs, h1, h2⟩ := h; ⟨p, vs, rfl, SqL.of h1, h2⟩
theorem Lt.ex {R : Rp α} [Me R] {p : Addr} {xs : List α} (h : Lt R H p xs) (e : Ex H H') : Lt R H' p xs := let ⟨vs, h1, h2⟩ := h; ⟨vs, e _ _ h1, pm h2 fun _ _ z => Me.ex e z⟩
theorem Lt.c1 {R : Rp α} [Mkt K R] {p q : Addr} {xs : List α} {ys : List V} (h : Lt R H p xs) (hq : H q = some (.lst ys)) (c : C1 q H H') (n : p ≠ q) : Lt R H' p xs := let ⟨vs, h1, h2⟩ := h; ⟨vs, c _ _ n h1, pm h2 fun _ _ z => Mkt.kt (Kt.c1 (K := K) hq c) z⟩

/-! ### ints by map -/
theorem pI : ∀ {xs : List Int} {vs : List V}, Paired (rI H) xs vs → vs = xs.map V.int
  | [], _, .nil => rfl
  | x :: xs, _, .cons r t => by
    have e : _ = V.int x := r
    rw [e, pI t]
    rfl
theorem pI' : ∀ (xs : List Int), Paired (rI H) xs (xs.map V.int)
  | [] => .nil
  | _ :: xs => .cons rfl (pI' xs)
theorem paired_len {F : α → β → Prop} : ∀ {l : List α} {m : List β}, Paired F l m → l.length = m.length
  | _, _, .nil => rfl
  | _, _, .cons _ t => by rw [List.length_cons, List.length_cons, paired_len t]
theorem paired_get {F : α → β → Prop} : ∀ {l : List α} {m : List β} {i : Nat} {x : α}, Paired F l m → l[i]? = some x → ∃ y, m[i]? = some y ∧ F x y
  | _, _, i, _, .nil, h => by simp at h
  | _, _, 0, _, .cons r _, h => by
    simp only [List.getElem?_cons_zero, Option.some.injEq] at h
    subst h
    exact ⟨_, rfl, r⟩
  | _, _, i + 1, _, .cons _ t, h => by
    simp only [List.getElem?_cons_succ] at h
    exact paired_get (i := i) t h
theorem paired_get' {F : α → β → Prop} : ∀ {l : List α} {m : List β} {i : Nat} {y : β}, Paired F l m → m[i]? = some y → ∃ x, l[i]? = some x ∧ F x y
  | _, _, i, _, .nil, h => by simp at h
  | _, _, 0, _, .cons r _, h => by
    simp only [List.getElem?_cons_zero, Option.some.injEq] at h
    subst h
    exact ⟨_, rfl, r⟩
  | _, _, i + 1, _, .cons _ t, h => by
    simp only [List.getElem?_cons_succ] at h
    exact paired_get' (i := i) t h
theorem paired_append {F : α → β → Prop} : ∀ {l l' : List α} {m m' : List β}, Paired F l m → Paired F l' m' → Paired F (l ++ l') (m ++ m')
  | _, _, _, _, .nil, h => h
  | _, _, _, _, .cons r t, h => .cons r (paired_append t h)
theorem paired_set {F : α → β → Prop} : ∀ {l : List α} {m : List β} (i : Nat) {x : α} {y : β}, Paired F l m → F x y → Paired F (l.set i x) (m.set i y)
  | _, _, _, _, _, .nil, _ => .nil
  | _, _, 0, _, _, .cons _ t, h => .cons h t
  | _, _, i + 1, _, _, .cons r t, h => .cons r (paired_set i t h)
theorem paired_take {F : α → β → Prop} : ∀ {l : List α} {m : List β} (n : Nat), Paired F l m → Paired F (l.take n) (m.take n)
  | _, _, 0, _ => .nil
  | _, _, _ + 1, .nil => .nil
  | _, _, n + 1, .cons r t => .cons r (paired_take n t)
theorem paired_drop {F : α → β → Prop} : ∀ {l : List α} {m : List β} (n : Nat), Paired F l m → Paired F (l.drop n) (m.drop n)
  | _, _, 0, h => h
  | _, _, _ + 1, .nil => .nil
  | _, _, n + 1, .cons _ t => paired_drop n t
theorem paired_rep {F : α → β → Prop} {x : α} {y : β} (h : F x y) : ∀ n : Nat, Paired F (List.replicate n x) (List.replicate n y)
  | 0 => .nil
  | n + 1 => .cons h (paired_rep h n)
theorem paired_reverse {F : α → β → Prop} : ∀ {l : List α} {m : List β}, Paired F l m → Paired F l.reverse m.reverse
  | _, _, .nil => .nil
  | _, _, .cons r t => by
    rw [List.reverse_cons, List.reverse_cons]
    exact paired_append (paired_reverse t) (.cons r .nil)

/-! ### a reading's value by what it stands for -/
def Er (R : Rp α) (t : TE) (σ : L2.St) (H : Hp) (x : α) : Prop := ∀ H1, Ex H H1 → ∀ Q : VK, (∀ v H2, Ex H1 H2 → R H2 x v → Q v H2) → t σ H1 Q
/-- a new list -/
def El (R : Rp α) (t : TE) (σ : L2.St) (H : Hp) (xs : List α) : Prop := ∀ H1, Ex H H1 → ∀ Q : VK, (∀ p H2, H1 p = none → Ex H1 H2 → Lt R H2 p xs → Q (.ref p) H2) → t σ H1 Q
abbrev Et := EvT
/-- arguments -/
def Ea (t : TA) (σ : L2.St) (H : Hp) (P : List V → Hp → Prop) : Prop := ∀ H1, Ex H H1 → ∀ Q : List V → Hp → Prop, (∀ vs H2, Ex H1 H2 → P vs H2 → Q vs H2) → t σ H1 Q

variable {σ : L2.St} {ta tb te : TE} {t u : TT} {R : Rp α} {S : Rp β} {x y z : α}
theorem Er.mono (h : Er R te σ H x) (e : Ex H H') : Er R te σ H' x := fun H1 a Q q => h H1 (e.trans a) Q q
theorem El.er {xs : List α} (h : El R te σ H xs) : Er (rL K R) te σ H xs := fun H1 e Q q => h H1 e Q fun p H2 _ e2 l => q _ H2 e2 l.rl
theorem er_is (h : Er R te σ H x) (e : x = y) : Er R te σ H y := e ▸ h
theorem er_var [Me R] {i : Nat} {v : V} (h : σ[i]? = some (some v)) (r : R H x v) : Er R (tVar i) σ H x := fun H1 e _ q => ⟨v, h, q v H1 (Ex.refl H1) (Me.ex e r)⟩
theorem er_iv {i : Nat} {k : Int} (h : σ[i]? = some (some (.int k)) := by rfl) : Er rI (tVar i) σ H k := fun H1 e _ q => ⟨_, h, q _ H1 (Ex.refl H1) rfl⟩
theorem er_bv {i : Nat} {k : Bool} (h : σ[i]? = some (some (.bl k)) := by rfl) : Er rB (tVar i) σ H k := fun H1 e _ q => ⟨_, h, q _ H1 (Ex.refl H1) rfl⟩
theorem er_int {k : Int} : Er rI (tC (.int k)) σ H k := fun H1 e _ q => q _ H1 (Ex.refl H1) rfl
theorem er_bl {k : Bool} : Er rB (tC (.bl k)) σ H k := fun H1 e _ q => q _ H1 (Ex.refl H1) rfl
theorem er_str {k : Str} : Er rS (tC (.str k)) σ H k := fun H1 e _ q => q _ H1 (Ex.refl H1) rfl
/-- ints: operators -/
theorem er_op0 {g : Int → Int → Int} {i j : Int} (ha : Er rI ta σ H i) (hb : Er rI tb σ H j) : Er rI (tOp (rI0 fun i j => V.int (g i j)) ta tb) σ H (g i j) := fun H1 e Q q =>
  ha H1 e _ fun v H2 e2 r1 => hb H2 (e.trans e2) _ fun w H3 e3 r2 => ⟨i, j, r1, r2, q _ H3 (e2.trans e3) rfl⟩
theorem er_op {C : Int → Int → Prop} {g : Int → Int → Int} {i j : Int} (ha : Er rI ta σ H i) (hb : Er rI tb σ H j) (hc : C i j) : Er rI (tOp (L2.rI C fun i j => V.int (g i j)) ta tb) σ H (g i j) := fun H1 e Q q =>
  ha H1 e _ fun v H2 e2 r1 => hb H2 (e.trans e2) _ fun w H3 e3 r2 => ⟨i, j, r1, r2, hc, q _ H3 (e2.trans e3) rfl⟩
theorem er_cmp {g : Int → Int → Bool} {i j : Int} (ha : Er rI ta σ H i) (hb : Er rI tb σ H j) : Er rB (tOp (rI0 fun i j => V.bl (g i j)) ta tb) σ H (g i j) := fun H1 e Q q =>
  ha H1 e _ fun v H2 e2 r1 => hb H2 (e.trans e2) _ fun w H3 e3 r2 => ⟨i, j, r1, r2, q _ H3 (e2.trans e3) rfl⟩
theorem er_neg {i : Int} (ha : Er rI ta σ H i) : Er rI (tUn (rU fun i => V.int (-i)) ta) σ H (-i) := fun H1 e Q q => ha H1 e _ fun v H2 e2 r1 => ⟨i, r1, q _ H2 e2 rfl⟩
theorem er_eqI {i j : Int} (ha : Er rI ta σ H i) (hb : Er rI tb σ H j) : Er rB (tOp rEq ta tb) σ H (decide (i = j)) := fun H1 e Q q =>
  ha H1 e _ fun v H2 e2 r1 => hb H2 (e.trans e2) _ fun w H3 e3 r2 => by
    cases r1; cases r2
    exact ⟨rfl, q _ H3 (e2.trans e3) (by show V.bl _ = V.bl _; congr 1; exact decide_eq_decide.mpr ⟨fun z => V.int.inj z, fun z => congrArg V.int z⟩)⟩
theorem er_neI {i j : Int} (ha : Er rI ta σ H i) (hb : Er rI tb σ H j) : Er rB (tOp rNe ta tb) σ H (!decide (i = j)) := fun H1 e Q q =>
  ha H1 e _ fun v H2 e2 r1 => hb H2 (e.trans e2) _ fun w H3 e3 r2 => by
    cases r1; cases r2
    exact ⟨rfl, q _ H3 (e2.trans e3) (by show V.bl _ = V.bl _; congr 2; exact decide_eq_decide.mpr ⟨fun z => V.int.inj z, fun z => congrArg V.int z⟩)⟩
/-- tests -/
theorem et_t {b : Bool} (h : Er rB te σ H b) : Et (tTest te) σ H b := fun H1 e _ q => h H1 e _ fun v H2 e2 r => ⟨b, r, q H2 e2⟩
theorem et_b {b : Bool} (h : Er rB te σ H b) : Et (tB te) σ H b := fun H1 e _ q => h H1 e _ fun v H2 e2 r => ⟨b, r, q H2 e2⟩
theorem er_andV {a b : Bool} (h1 : Er rB ta σ H a) (h2 : a = true → Er rB tb σ H b) : Er rB (tAndV ta tb) σ H (a && b) := fun H1 e Q q => h1 H1 e _ fun v H2 e2 r => ⟨a, r, by
  cases a with
  | true =>
    show tb σ H2 Q
    exact h2 rfl H2 (e.trans e2) Q fun w H3 e3 r3 => q w H3 (e2.trans e3) r3
  | false =>
    show Q (.bl false) H2
    exact q _ H2 e2 rfl⟩
theorem er_orV {a b : Bool} (h1 : Er rB ta σ H a) (h2 : a = false → Er rB tb σ H b) : Er rB (tOrV ta tb) σ H (a || b) := fun H1 e Q q => h1 H1 e _ fun v H2 e2 r => ⟨a, r, by
  cases a with
  | true =>
    show Q (.bl true) H2
    exact q _ H2 e2 rfl
  | false =>
    show tb σ H2 Q
    exact h2 rfl H2 (e.trans e2) Q fun w H3 e3 r3 => q w H3 (e2.trans e3) r3⟩
theorem er_notV {a : Bool} (h1 : Er rB ta σ H a) : Er rB (tNotV ta) σ H (!a) := fun H1 e Q q => h1 H1 e _ fun v H2 e2 r => ⟨a, r, q _ H2 e2 rfl⟩
theorem er_if {b : Bool} (h : Et t σ H b) (h1 : b = true → Er R ta σ H x) (h2 : b = false → Er R tb σ H y) : Er R (tIf t ta tb) σ H (if b = true then x else y) := fun H1 e Q q => h H1 e _ fun H2 e2 => by
  cases b with
  | true =>
    show ta σ H2 Q
    exact h1 rfl H2 (e.trans e2) Q fun w H3 e3 r3 => q w H3 (e2.trans e3) r3
  | false =>
    show tb σ H2 Q
    exact h2 rfl H2 (e.trans e2) Q fun w H3 e3 r3 => q w H3 (e2.trans e3) r3
/-- argument lists -/
def A0 : List V → Hp → Prop := fun vs _ => vs = []
def Ac (R : Rp α) (x : α) (P : List V → Hp → Prop) : List V → Hp → Prop := fun vs H => ∃ v r, vs = v :: r ∧ R H x v ∧ P r H
theorem ea0 : Ea tNil σ H A0 := fun H1 e Q q => q [] H1 (Ex.refl H1) rfl
theorem eac [Me R] {tr : TA} {P : List V → Hp → Prop} (h : Er R ta σ H x) (hr : Ea tr σ H P) : Ea (tCons ta tr) σ H (Ac R x P) := fun H1 e Q q =>
  h H1 e _ fun v H2 e2 r2 => hr H2 (e.trans e2) _ fun vs H3 e3 p => q (v :: vs) H3 (e2.trans e3) ⟨v, vs, rfl, Me.ex e3 r2, p⟩
/-- a def's promise: from P of its arguments to the value x -/
def Gv (sp : Sp) (P : List V → Hp → Prop) (R : Rp α) (x : α) : Prop := ∀ vs H1, P vs H1 → ∀ (Q : VK) (E : XK), (∀ v H2, Ex H1 H2 → R H2 x v → Q v H2) → sp vs H1 Q E
theorem er_call {sp : Sp} {E : XK} {tr : TA} {P : List V → Hp → Prop} (h : Ea tr σ H P) (g : Gv sp P R x) : Er R (tCall sp [] E tr) σ H x := fun H1 e Q q =>
  h H1 e _ fun vs H2 e2 p => by
    show sp (vs ++ []) H2 Q E
    rw [List.append_nil]
    exact g vs H2 p Q E fun v H3 e3 r => q v H3 (e2.trans e3) r
/-- a built-in's rule -/
def Gb (r : List V → Hp → VK → Prop) (P : List V → Hp → Prop) (R : Rp α) (x : α) : Prop := ∀ vs H1, P vs H1 → ∀ (Q : VK), (∀ v H2, Ex H1 H2 → R H2 x v → Q v H2) → r vs H1 Q
theorem er_cb {r : List V → Hp → VK → Prop} {tr : TA} {P : List V → Hp → Prop} (h : Ea tr σ H P) (g : Gb r P R x) : Er R (tCB r tr) σ H x := fun H1 e Q q =>
  h H1 e _ fun vs H2 e2 p => g vs H2 p Q fun v H3 e3 r => q v H3 (e2.trans e3) r

/-! ### statements -/
variable {D : Ends} {tu tw tz : TS} {j : Nat}
theorem s_asgI {i : Int} (h : Er rI te σ H i) (k : ∀ H1, Ex H H1 → D.nx (σ.set j (some (.int i))) H1) : tAsg te (gName j) D σ H := h H (Ex.refl H) _ fun v H1 e r => by
  cases r
  exact k H1 e
theorem s_asgB {i : Bool} (h : Er rB te σ H i) (k : ∀ H1, Ex H H1 → D.nx (σ.set j (some (.bl i))) H1) : tAsg te (gName j) D σ H := h H (Ex.refl H) _ fun v H1 e r => by
  cases r
  exact k H1 e
theorem s_asgS {i : Str} (h : Er rS te σ H i) (k : ∀ H1, Ex H H1 → D.nx (σ.set j (some (.str i))) H1) : tAsg te (gName j) D σ H := h H (Ex.refl H) _ fun v H1 e r => by
  cases r
  exact k H1 e
theorem s_asg (h : Er R te σ H x) (k : ∀ v H1, Ex H H1 → R H1 x v → D.nx (σ.set j (some v)) H1) : tAsg te (gName j) D σ H := h H (Ex.refl H) _ fun v H1 e r => k v H1 e r
theorem s_asgL {xs : List α} (h : El R te σ H xs) (k : ∀ p H1, H p = none → Ex H H1 → Lt R H1 p xs → D.nx (σ.set j (some (.ref p))) H1) : tAsg te (gName j) D σ H := h H (Ex.refl H) _ k
theorem s_ret (h : Er R te σ H x) (k : ∀ v H1, Ex H H1 → R H1 x v → D.rt v H1) : tRet te D σ H := h H (Ex.refl H) _ k
theorem s_drop (h : Er R te σ H x) (k : ∀ H1, Ex H H1 → D.nx σ H1) : tDrop te D σ H := h H (Ex.refl H) _ fun _ H1 e _ => k H1 e
theorem s_if {b : Bool} (h : Et t σ H b) (h1 : b = true → ∀ H1, Ex H H1 → tu D σ H1) (h2 : b = false → ∀ H1, Ex H H1 → tw D σ H1) : tIfS t tu tw D σ H := Evl.s_if h h1 h2
theorem s_when {b : Bool} (h : Et t σ H b) (h1 : b = true → ∀ H1, Ex H H1 → tu D σ H1) (h2 : b = false → ∀ H1, Ex H H1 → D.nx σ H1) : tIfS t tu tNext D σ H := Evl.s_if h h1 h2
theorem sz0 {n : Nat} (h : n < 1000000) : n < sizeLine := Nat.lt_of_lt_of_le h (by decide)
theorem sz1 {n : Nat} (h : n ≤ 1000000) : n ≤ sizeLine := Nat.le_trans h (by decide)
/-- xs.append(e): an own list -/
theorem s_app [Mkt K R] {l : Addr} {xs : List α} (hl : Lt R H l xs) (hi : σ[j]? = some (some (.ref l))) (h : Er R te σ H x) (hz : xs.length < 1000000) (k : ∀ H1, C1 l H H1 → Lt R H1 l (xs ++ [x]) → D.nx σ H1) :
    tDrop (tBM K "list" rAppend (tVar j) (tCons te tNil)) D σ H := by
  obtain ⟨vs, h1, h2⟩ := hl
  refine ⟨_, hi, .inl ⟨rfl, vs, SqL.of h1⟩, ?_⟩
  refine h H (Ex.refl H) _ fun v H1 e r => ⟨l, vs, v, rfl, rfl, e _ _ h1, ?_, ?_⟩
  · rw [← paired_len h2]
    exact sz0 hz
  · have kt1 : Kt K H1 (upd H1 l (.lst (vs ++ [v]))) := Kt.c1 (e _ _ h1) (C1.up (C1.refl l H1))
    exact k _ (C1.up (C1.ex e)) ⟨_, upd_same, paired_append (pm h2 fun _ _ z => Mkt.kt ((Kt.ex (K := K) e).trans kt1) z) (.cons (Mkt.kt kt1 r) .nil)⟩
theorem s_while (W : Nat → L2.St → Hp → Prop) (m0 : Nat) (h0 : W m0 σ H)
    (hs : ∀ m σ' H', W m σ' H' → ∃ b, Et t σ' H' b ∧ (b = true → ∀ H1, Ex H' H1 → ∃ N : L2.St → Hp → Prop, (∀ σ2 H2, N σ2 H2 → ∃ m', m' < m ∧ W m' σ2 H2) ∧ tu { D with nx := N, ct := N, bk := D.nx } σ' H1) ∧ (b = false → ∀ H1, Ex H' H1 → D.nx σ' H1)) : tWhile t tu D σ H := Evl.s_while W m0 h0 hs

/-! ### more values: lists and tuples read -/
theorem er_sv {i : Nat} {k : Str} (h : σ[i]? = some (some (.str k)) := by rfl) : Er rS (tVar i) σ H k := fun H1 e _ q => ⟨_, h, q _ H1 (Ex.refl H1) rfl⟩
theorem er_nv {i : Nat} (h : σ[i]? = some (some .non) := by rfl) : Er rN (tVar i) σ H () := fun H1 e _ q => ⟨_, h, q _ H1 (Ex.refl H1) rfl⟩
theorem er_non : Er rN (tC .non) σ H () := fun H1 e _ q => q _ H1 (Ex.refl H1) rfl
/-- go on with an int at hand -/
theorem go_I {Q : VK} {i : Int} (h : Er rI te σ H i) (k : ∀ H1, Ex H H1 → Q (.int i) H1) : te σ H Q := h H (Ex.refl H) _ fun v H1 e r => by cases r; exact k H1 e
theorem go_R {Q : VK} (h : Er R te σ H x) (k : ∀ v H1, Ex H H1 → R H1 x v → Q v H1) : te σ H Q := h H (Ex.refl H) _ k
theorem go_L {Q : VK} {xs : List α} (h : El R te σ H xs) (k : ∀ p H1, H p = none → Ex H H1 → Lt R H1 p xs → Q (.ref p) H1) : te σ H Q := h H (Ex.refl H) _ k
/-- the place of an index -/
def ixs (n : Nat) (i : Int) : Nat := if 0 ≤ i then i.toNat else (i + n).toNat
theorem ixN_ixs {n : Nat} {i : Int} (h1 : -(n : Int) ≤ i) (h2 : i < n) : ixN n i = some (ixs n i) ∧ ixs n i < n := by
  unfold ixN ixs
  by_cases h : 0 ≤ i
  · rw [if_pos h, if_pos h2, if_pos h]
    exact ⟨rfl, by omega⟩
  · rw [if_neg h, if_pos h1, if_neg h]
    exact ⟨rfl, by omega⟩
theorem atI_ixs {xs : List V} {i : Int} {v : V} (h1 : -(xs.length : Int) ≤ i) (h2 : i < xs.length) (h : xs[ixs xs.length i]? = some v) : atI xs i = some v := by
  unfold atI
  rw [(ixN_ixs h1 h2).1]
  exact h
theorem er_ixL [Me R] {xs : List α} {i : Int} (ha : Er (rL K R) ta σ H xs) (hb : Er rI tb σ H i) (h1 : -(xs.length : Int) ≤ i) (h2 : i < xs.length) (hx : xs[ixs xs.length i]? = some x) : Er R (tOp (rIxL K) ta tb) σ H x := fun H1 e Q q =>
  ha H1 e _ fun v H2 e2 r1 => hb H2 (e.trans e2) _ fun w H3 e3 r2 => by
    cases r2
    obtain ⟨a, vs, rfl, hs, hp⟩ := r1
    obtain ⟨u, hu, ru⟩ := paired_get hp hx
    have hl := paired_len hp
    rw [hl] at h1 h2 hu
    exact ⟨a, vs, i, u, rfl, rfl, ex_l e3 hs, atI_ixs h1 h2 hu, q u H3 (e2.trans e3) (Me.ex e3 ru)⟩
theorem er_ixT [Me R] {xs : List α} {i : Int} (ha : Er (rT K R) ta σ H xs) (hb : Er rI tb σ H i) (h1 : -(xs.length : Int) ≤ i) (h2 : i < xs.length) (hx : xs[ixs xs.length i]? = some x) : Er R (tOp (rIxT K) ta tb) σ H x := fun H1 e Q q =>
  ha H1 e _ fun v H2 e2 r1 => hb H2 (e.trans e2) _ fun w H3 e3 r2 => by
    cases r2
    obtain ⟨a, vs, rfl, hs, hp⟩ := r1
    obtain ⟨u, hu, ru⟩ := paired_get hp hx
    have hl := paired_len hp
    rw [hl] at h1 h2 hu
    exact ⟨a, vs, i, u, rfl, rfl, ex_t e3 hs, atI_ixs h1 h2 hu, q u H3 (e2.trans e3) (Me.ex e3 ru)⟩
/-- by a place from 0 on -/
def gt0 (d : α) (xs : List α) (i : Int) : α := (xs[ixs xs.length i]?).getD d
theorem gt0_nat (d : α) (xs : List α) (i : Nat) : gt0 d xs (i : Int) = (xs[i]?).getD d := by unfold gt0 ixs; rw [if_pos (by omega)]; rfl
theorem gt0_some {d : α} {xs : List α} {i : Int} (h1 : -(xs.length : Int) ≤ i) (h2 : i < xs.length) : xs[ixs xs.length i]? = some (gt0 d xs i) := by
  have h := (ixN_ixs h1 h2).2
  unfold gt0
  rw [List.getElem?_eq_getElem h]
  rfl
theorem er_ixL0 [Me R] (d : α) {xs : List α} {i : Int} (ha : Er (rL K R) ta σ H xs) (hb : Er rI tb σ H i) (h1 : -(xs.length : Int) ≤ i) (h2 : i < xs.length) : Er R (tOp (rIxL K) ta tb) σ H (gt0 d xs i) := er_ixL ha hb h1 h2 (gt0_some h1 h2)
theorem er_ixT0 [Me R] (d : α) {xs : List α} {i : Int} (ha : Er (rT K R) ta σ H xs) (hb : Er rI tb σ H i) (h1 : -(xs.length : Int) ≤ i) (h2 : i < xs.length) : Er R (tOp (rIxT K) ta tb) σ H (gt0 d xs i) := er_ixT ha hb h1 h2 (gt0_some h1 h2)
/-- len -/
def rLenQ (K : PySem.W.Frag) : List V → Hp → VK → Prop := fun xs H Q => ∃ p ys, xs = [.ref p] ∧ (SqL K H p ys ∨ SqT K H p ys) ∧ Q (.int ys.length) H
theorem er_lenL {xs : List α} (ha : Er (rL K R) ta σ H xs) : Er rI (tCB (rLenQ K) (tCons ta tNil)) σ H (xs.length : Int) := fun H1 e Q q =>
  ha H1 e _ fun v H2 e2 ⟨a, vs, h1, hs, hp⟩ => ⟨a, vs, by rw [h1], .inl hs, q _ H2 e2 (by show V.int _ = V.int _; rw [paired_len hp])⟩
theorem er_lenT {xs : List α} (ha : Er (rT K R) ta σ H xs) : Er rI (tCB (rLenQ K) (tCons ta tNil)) σ H (xs.length : Int) := fun H1 e Q q =>
  ha H1 e _ fun v H2 e2 ⟨a, vs, h1, hs, hp⟩ => ⟨a, vs, by rw [h1], .inr hs, q _ H2 e2 (by show V.int _ = V.int _; rw [paired_len hp])⟩
theorem er_lenS {z : Str} (ha : Er rS ta σ H z) (hz : z.length ≤ 1000000) : Er rI (tCB (fun xs H Q => ∃ z, xs = [.str z] ∧ z.length ≤ sizeLine ∧ Q (.int z.length) H) (tCons ta tNil)) σ H (z.length : Int) := fun H1 e Q q =>
  ha H1 e _ fun v H2 e2 h => ⟨z, by rw [h], sz1 hz, q _ H2 e2 rfl⟩
theorem er_abs {i : Int} (ha : Er rI ta σ H i) : Er rI (tCB (fun xs H Q => ∃ i, xs = [.int i] ∧ Q (.int (if i < 0 then -i else i)) H) (tCons ta tNil)) σ H (if i < 0 then -i else i) := fun H1 e Q q =>
  ha H1 e _ fun v H2 e2 h => ⟨i, by rw [h], q _ H2 e2 rfl⟩
theorem er_max2 {i j : Int} (ha : Er rI ta σ H i) (hb : Er rI tb σ H j) : Er rI (tCB (fun xs H Q => ∃ i j, xs = [.int i, .int j] ∧ Q (.int (if j > i then j else i)) H) (tCons ta (tCons tb tNil))) σ H (if j > i then j else i) := fun H1 e Q q =>
  ha H1 e _ fun v H2 e2 h => hb H2 (e.trans e2) _ fun w H3 e3 h' => ⟨i, j, by rw [h, h'], q _ H3 (e2.trans e3) rfl⟩
theorem er_min2 {i j : Int} (ha : Er rI ta σ H i) (hb : Er rI tb σ H j) : Er rI (tCB (fun xs H Q => ∃ i j, xs = [.int i, .int j] ∧ Q (.int (if j < i then j else i)) H) (tCons ta (tCons tb tNil))) σ H (if j < i then j else i) := fun H1 e Q q =>
  ha H1 e _ fun v H2 e2 h => hb H2 (e.trans e2) _ fun w H3 e3 h' => ⟨i, j, by rw [h, h'], q _ H3 (e2.trans e3) rfl⟩
theorem er_intB {b : Bool} (ha : Er rB ta σ H b) : Er rI (tCB (fun xs H Q => (∃ i, xs = [.int i] ∧ Q (.int i) H) ∨ ∃ k, xs = [.bl k] ∧ Q (.int (if k then 1 else 0)) H) (tCons ta tNil)) σ H (if b then 1 else 0) := fun H1 e Q q =>
  ha H1 e _ fun v H2 e2 h => .inr ⟨b, by rw [h], q _ H2 e2 rfl⟩
/-- displays: the items one by one -/
def As (R : Rp α) (xs : List α) : List V → Hp → Prop := fun vs H => Paired (R H) xs vs
theorem eas0 : Ea tNil σ H (As R []) := fun H1 e Q q => q [] H1 (Ex.refl H1) .nil
theorem eas [Me R] {tr : TA} {xs : List α} (h : Er R ta σ H x) (hr : Ea tr σ H (As R xs)) : Ea (tCons ta tr) σ H (As R (x :: xs)) := fun H1 e Q q =>
  h H1 e _ fun v H2 e2 r2 => hr H2 (e.trans e2) _ fun vs H3 e3 p => q (v :: vs) H3 (e2.trans e3) (.cons (Me.ex e3 r2) p)
theorem el_lst [Me R] {tr : TA} {xs : List α} (h : Ea tr σ H (As R xs)) (hl : xs.length ≤ 1000000) : El R (tLst tr) σ H xs := fun H1 e Q q =>
  h H1 e _ fun vs H2 e2 p => ⟨by rw [← paired_len p]; exact sz1 hl, fun a ha => q a _ (fresh_back e2 ha) (e2.trans (Ex.new ha)) ⟨vs, upd_same, pm p fun _ _ z => Me.ex (Ex.new ha) z⟩⟩
theorem er_tup [Me R] {tr : TA} {xs : List α} (h : Ea tr σ H (As R xs)) (hl : xs.length ≤ 1000000) : Er (rT K R) (tTup tr) σ H xs := fun H1 e Q q =>
  h H1 e _ fun vs H2 e2 p => ⟨by rw [← paired_len p]; exact sz1 hl, fun a ha => q _ _ (e2.trans (Ex.new ha)) ⟨a, vs, rfl, SqT.of upd_same, pm p fun _ _ z => Me.ex (Ex.new ha) z⟩⟩
theorem s_retL {D : Ends} {σ : L2.St} {H : Hp} {p : Addr} {i : Nat} (hi : σ[i]? = some (some (.ref p))) (k : D.rt (.ref p) H) : tRet (tVar i) D σ H := ⟨_, hi, k⟩

/-! ### for -/
def Fl (J : It) (g : TG) (tb : TS) (D : Ends) (σ : L2.St) (H : Hp) : Prop := ∃ W : Nat → Nat → L2.St → Hp → Prop, (∃ m, W 0 m σ H) ∧ ∀ i m σ H, W i m σ H →
  (J.stop i H ∧ D.nx σ H) ∨ (J.go i H ∧ ∃ N : L2.St → Hp → Prop, (∀ σ' H', N σ' H' → ∃ m', m' < m ∧ W (i + 1) m' σ' H') ∧ ∀ x H', J.yld i H x H' → g x σ H' fun σ2 H2 => tb { D with nx := N, ct := N, bk := D.nx } σ2 H2)
/-- so many numbers from lo on -/
def rng (lo hi : Int) : List Int := (List.range (hi - lo).toNat).map fun (k : Nat) => lo + (k : Int)
theorem rng_len (lo hi : Int) : (rng lo hi).length = (hi - lo).toNat := by unfold rng; rw [List.length_map, List.length_range]
theorem rng_get {lo hi : Int} {i : Nat} (h : i < (hi - lo).toNat) : (rng lo hi)[i]? = some (lo + (i : Int)) := by
  unfold rng
  rw [List.getElem?_map, List.getElem?_range h]
  rfl
theorem rng_at {lo hi x : Int} {i : Nat} (h : (rng lo hi)[i]? = some x) : x = lo + (i : Int) ∧ lo ≤ x ∧ x < hi := by
  have hl := (List.getElem?_eq_some_iff.mp h).1
  rw [rng_len] at hl
  rw [rng_get hl] at h
  have := Option.some.inj h
  omega
theorem take_all {xs : List α} : xs.take xs.length = xs := List.take_length
theorem fold_snoc {σ' ι : Type} {f : σ' → ι → σ'} {b s : σ'} {xs : List ι} {i : Nat} {x : ι} (h : s = List.foldl f b (List.take i xs)) (hx : xs[i]? = some x) : f s x = List.foldl f b (List.take (i + 1) xs) := by
  rw [List.take_add_one, hx, List.foldl_append, h]
  rfl
/-- a list's items by their places -/
def enm (xs : List α) : List (Int × α) := xs.zipIdx.map fun p => ((p.2 : Int), p.1)
theorem enm_len (xs : List α) : (enm xs).length = xs.length := by unfold enm; rw [List.length_map, List.length_zipIdx]
theorem enm_get {xs : List α} {i : Nat} {x : α} (h : xs[i]? = some x) : (enm xs)[i]? = some ((i : Int), x) := by
  unfold enm
  rw [List.getElem?_map, List.getElem?_zipIdx, h]
  simp
theorem enm_at {xs : List α} {i : Nat} {x : Int × α} (h : (enm xs)[i]? = some x) : x.1 = (i : Int) ∧ xs[i]? = some x.2 := by
  have hl := (List.getElem?_eq_some_iff.mp h).1
  rw [enm_len] at hl
  have e := enm_get (List.getElem?_eq_getElem hl)
  rw [e] at h
  have := Option.some.inj h
  rw [← this]
  exact ⟨rfl, List.getElem?_eq_getElem hl⟩
theorem s_forT {tl : TE} {g : TG} {xs : List α} (h : Er (rT K R) tl σ H xs) (k : ∀ v H1, Ex H H1 → rT K R H1 xs v → ∀ a, v = .ref a → Fl (Itt K a) g tu D σ H1) : tFor (iTup K tl) g tu D σ H :=
  h H (Ex.refl H) _ fun v H1 e r => by
    obtain ⟨a, vs, h1, h2, h3⟩ := id r
    exact ⟨a, h1, ⟨vs, h2⟩, k v H1 e r a h1⟩
theorem s_forL {tl : TE} {g : TG} {xs : List α} (h : Er (rL K R) tl σ H xs) (k : ∀ v H1, Ex H H1 → rL K R H1 xs v → ∀ a, v = .ref a → Fl (Itl K a) g tu D σ H1) : tFor (iList K tl) g tu D σ H :=
  h H (Ex.refl H) _ fun v H1 e r => by
    obtain ⟨a, vs, h1, h2, h3⟩ := id r
    exact ⟨a, h1, ⟨vs, h2⟩, k v H1 e r a h1⟩
theorem s_forR1 {ta : TE} {g : TG} {hi : Int} (h : Er rI ta σ H hi) (hb : -(2 ^ 62) ≤ hi ∧ hi < 2 ^ 62) (k : ∀ H1, Ex H H1 → Fl (Itr 0 hi.toNat) g tu D σ H1) : tFor (iRng1 (tCons ta tNil)) g tu D σ H :=
  h H (Ex.refl H) _ fun v H1 e r => by
    cases r
    exact ⟨hi, rfl, hb.1, hb.2, k H1 e⟩
theorem s_forR2 {ta tb : TE} {g : TG} {lo hi : Int} (h : Er rI ta σ H lo) (h' : Er rI tb σ H hi) (hb : -(2 ^ 62) ≤ lo ∧ lo < 2 ^ 62 ∧ -(2 ^ 62) ≤ hi ∧ hi < 2 ^ 62) (k : ∀ H1, Ex H H1 → Fl (Itr lo (hi - lo).toNat) g tu D σ H1) : tFor (iRng2 (tCons ta (tCons tb tNil))) g tu D σ H :=
  h H (Ex.refl H) _ fun v H1 e r => h' H1 e _ fun v' H2 e2 r' => by
    cases r
    cases r'
    exact ⟨lo, hi, rfl, hb, k H2 (e.trans e2)⟩
theorem s_forEL {ta : TE} {g : TG} {xs : List α} (h : Er (rL K R) ta σ H xs) (k : ∀ v H1, Ex H H1 → rL K R H1 xs v → ∀ a, v = .ref a → Fl (Ite K a) g tu D σ H1) : tFor (iEnum K (tCons ta tNil)) g tu D σ H :=
  h H (Ex.refl H) _ fun v H1 e r => by
    obtain ⟨a, vs, h1, h2, h3⟩ := id r
    exact ⟨a, vs, by rw [h1], h2, k v H1 e r a h1⟩

theorem fl_core {J : It} {n : Nat} {g : TG} (Pv : Nat → L2.St → Hp → Prop) (h0 : Pv 0 σ H) (go : ∀ i σ H', i < n → Pv i σ H' → J.go i H') (stop : ∀ σ H', Pv n σ H' → J.stop n H')
    (hs : ∀ i x σ H' H'', i < n → Pv i σ H' → J.yld i H' x H'' → g x σ H'' fun σ2 H2 => tu { D with nx := Pv (i + 1), ct := Pv (i + 1), bk := D.nx } σ2 H2) (hd : ∀ σ H', Pv n σ H' → D.nx σ H') : Fl J g tu D σ H := by
  refine ⟨fun i m σ H => m = n - i ∧ i ≤ n ∧ Pv i σ H, ⟨n, by simp, Nat.zero_le _, h0⟩, ?_⟩
  rintro i m σ H ⟨rfl, hi, p⟩
  by_cases hlt : i < n
  · exact .inr ⟨go i σ H hlt p, Pv (i + 1), fun σ' H' p' => ⟨n - (i + 1), by omega, rfl, hlt, p'⟩, fun x H' y => hs i x σ H H' hlt p y⟩
  · have e : i = n := by omega
    subst e
    exact .inl ⟨stop σ H p, hd σ H p⟩
theorem fl_T {xs : List α} {v : V} (r : rT K R H xs v) (Pv : Nat → L2.St → Hp → Prop) (h0 : Pv 0 σ H) (hG : ∀ i σ H', i ≤ xs.length → Pv i σ H' → rT K R H' xs v)
    (hs : ∀ i x u σ H', i < xs.length → xs[i]? = some x → Pv i σ H' → R H' x u → tu { D with nx := Pv (i + 1), ct := Pv (i + 1), bk := D.nx } (σ.set j (some u)) H') (hd : ∀ σ H', Pv xs.length σ H' → D.nx σ H') :
    ∀ a, v = .ref a → Fl (Itt K a) (gName j) tu D σ H := by
  rintro a rfl
  refine fl_core Pv h0 (fun i σ H' hi p => ?_) (fun σ H' p => ?_) (fun i x σ H' H'' hi p y => ?_) hd
  · obtain ⟨_, vs, h1, h2, h3⟩ := hG i σ H' (by omega) p
    cases h1
    have hl := paired_len h3
    exact ⟨vs, vs[i]'(by omega), h2, List.getElem?_eq_getElem _⟩
  · obtain ⟨_, vs, h1, h2, h3⟩ := hG _ σ H' (Nat.le_refl _) p
    cases h1
    exact ⟨vs, h2, by rw [paired_len h3]; exact Nat.le_refl _⟩
  · obtain ⟨_, vs, h1, h2, h3⟩ := hG i σ H' (by omega) p
    cases h1
    obtain ⟨rfl, y⟩ := y
    have hx := y vs h2
    obtain ⟨z, hz, rz⟩ := paired_get' h3 hx
    exact hs i z x σ H'' hi hz p rz
theorem fl_L {xs : List α} {v : V} (r : rL K R H xs v) (Pv : Nat → L2.St → Hp → Prop) (h0 : Pv 0 σ H) (hG : ∀ i σ H', i ≤ xs.length → Pv i σ H' → rL K R H' xs v)
    (hs : ∀ i x u σ H', i < xs.length → xs[i]? = some x → Pv i σ H' → R H' x u → tu { D with nx := Pv (i + 1), ct := Pv (i + 1), bk := D.nx } (σ.set j (some u)) H') (hd : ∀ σ H', Pv xs.length σ H' → D.nx σ H') :
    ∀ a, v = .ref a → Fl (Itl K a) (gName j) tu D σ H := by
  rintro a rfl
  refine fl_core Pv h0 (fun i σ H' hi p => ?_) (fun σ H' p => ?_) (fun i x σ H' H'' hi p y => ?_) hd
  · obtain ⟨_, vs, h1, h2, h3⟩ := hG i σ H' (by omega) p
    cases h1
    have hl := paired_len h3
    exact ⟨vs, vs[i]'(by omega), h2, List.getElem?_eq_getElem _⟩
  · obtain ⟨_, vs, h1, h2, h3⟩ := hG _ σ H' (Nat.le_refl _) p
    cases h1
    exact ⟨vs, h2, by rw [paired_len h3]; exact Nat.le_refl _⟩
  · obtain ⟨_, vs, h1, h2, h3⟩ := hG i σ H' (by omega) p
    cases h1
    obtain ⟨rfl, y⟩ := y
    have hx := y vs h2
    obtain ⟨z, hz, rz⟩ := paired_get' h3 hx
    exact hs i z x σ H'' hi hz p rz
theorem fl_TI {xs : List Int} {v : V} (r : rT K rI H xs v) (Pv : Nat → L2.St → Hp → Prop) (h0 : Pv 0 σ H) (hG : ∀ i σ H', i ≤ xs.length → Pv i σ H' → rT K rI H' xs v)
    (hs : ∀ i x σ H', i < xs.length → xs[i]? = some x → Pv i σ H' → tu { D with nx := Pv (i + 1), ct := Pv (i + 1), bk := D.nx } (σ.set j (some (.int x))) H') (hd : ∀ σ H', Pv xs.length σ H' → D.nx σ H') :
    ∀ a, v = .ref a → Fl (Itt K a) (gName j) tu D σ H := fl_T r Pv h0 hG (fun i x u σ H' hi hx p r => by cases r; exact hs i x σ H' hi hx p) hd
theorem fl_LI {xs : List Int} {v : V} (r : rL K rI H xs v) (Pv : Nat → L2.St → Hp → Prop) (h0 : Pv 0 σ H) (hG : ∀ i σ H', i ≤ xs.length → Pv i σ H' → rL K rI H' xs v)
    (hs : ∀ i x σ H', i < xs.length → xs[i]? = some x → Pv i σ H' → tu { D with nx := Pv (i + 1), ct := Pv (i + 1), bk := D.nx } (σ.set j (some (.int x))) H') (hd : ∀ σ H', Pv xs.length σ H' → D.nx σ H') :
    ∀ a, v = .ref a → Fl (Itl K a) (gName j) tu D σ H := fl_L r Pv h0 hG (fun i x u σ H' hi hx p r => by cases r; exact hs i x σ H' hi hx p) hd
theorem fl_R {lo hi : Int} {n : Nat} (hn : n = (hi - lo).toNat) (Pv : Nat → L2.St → Hp → Prop) (h0 : Pv 0 σ H)
    (hs : ∀ i x σ H', i < (rng lo hi).length → (rng lo hi)[i]? = some x → Pv i σ H' → tu { D with nx := Pv (i + 1), ct := Pv (i + 1), bk := D.nx } (σ.set j (some (.int x))) H') (hd : ∀ σ H', Pv (rng lo hi).length σ H' → D.nx σ H') :
    Fl (Itr lo n) (gName j) tu D σ H := by
  subst hn
  have hl := rng_len lo hi
  refine fl_core (n := (hi - lo).toNat) Pv h0 (fun i σ H' hi p => hi) (fun σ H' p => Nat.le_refl _) (fun i x σ H' H'' hi p y => ?_) (fun σ H' p => hd σ H' (by rw [hl]; exact p))
  obtain ⟨rfl, rfl⟩ := y
  exact hs i _ σ H'' (by omega) (rng_get hi) p
/-- a pair's targets -/
abbrev g2 (K : PySem.W.Frag) (i j : Nat) : TG := gTup K 2 (gCons (gName i) (gCons (gName j) gNil))
theorem fl_EL {i0 : Nat} {xs : List α} {v : V} (r : rL K R H xs v) (Pv : Nat → L2.St → Hp → Prop) (h0 : Pv 0 σ H) (hG : ∀ i σ H', i ≤ xs.length → Pv i σ H' → rL K R H' xs v)
    (hs : ∀ i x u σ H' H'', i < (enm xs).length → (enm xs)[i]? = some x → Pv i σ H' → Ex H' H'' → R H' x.2 u → tu { D with nx := Pv (i + 1), ct := Pv (i + 1), bk := D.nx } ((σ.set i0 (some (.int x.1))).set j (some u)) H'') (hd : ∀ σ H', Pv (enm xs).length σ H' → D.nx σ H') :
    ∀ a, v = .ref a → Fl (Ite K a) (g2 K i0 j) tu D σ H := by
  rintro a rfl
  have hle := enm_len xs
  refine fl_core (n := xs.length) Pv h0 (fun i σ H' hi p => ?_) (fun σ H' p => ?_) (fun i x σ H' H'' hi p y => ?_) (fun σ H' p => hd σ H' (by rw [hle]; exact p))
  · obtain ⟨_, vs, h1, h2, h3⟩ := hG i σ H' (by omega) p
    cases h1
    have hl := paired_len h3
    exact ⟨vs, vs[i]'(by omega), h2, List.getElem?_eq_getElem _⟩
  · obtain ⟨_, vs, h1, h2, h3⟩ := hG _ σ H' (Nat.le_refl _) p
    cases h1
    exact ⟨vs, h2, by rw [paired_len h3]; exact Nat.le_refl _⟩
  · obtain ⟨_, vs, h1, h2, h3⟩ := hG i σ H' (by omega) p
    cases h1
    obtain ⟨T, u, rfl, nT, rfl, y⟩ := y
    have hx := y vs h2
    obtain ⟨z, hz, rz⟩ := paired_get' h3 hx
    exact ⟨T, [.int (i : Nat), u], rfl, SqT.of upd_same, rfl, _, _, rfl, _, _, rfl, rfl, hs i ((i : Int), z) u σ H' _ (by omega) (enm_get hz) p (Ex.new nT) rz⟩
theorem fl_ELI {i0 : Nat} {xs : List Int} {v : V} (r : rL K rI H xs v) (Pv : Nat → L2.St → Hp → Prop) (h0 : Pv 0 σ H) (hG : ∀ i σ H', i ≤ xs.length → Pv i σ H' → rL K rI H' xs v)
    (hs : ∀ i x σ H' H'', i < (enm xs).length → (enm xs)[i]? = some x → Pv i σ H' → Ex H' H'' → tu { D with nx := Pv (i + 1), ct := Pv (i + 1), bk := D.nx } ((σ.set i0 (some (.int x.1))).set j (some (.int x.2))) H'') (hd : ∀ σ H', Pv (enm xs).length σ H' → D.nx σ H') :
    ∀ a, v = .ref a → Fl (Ite K a) (g2 K i0 j) tu D σ H := fl_EL r Pv h0 hG (fun i x u σ H' H'' hi hx p e r => by cases r; exact hs i x σ H' H'' hi hx p e) hd

/-! ### own lists kept -/
theorem Lt.ne {p q : Addr} {xs : List α} (h : Lt R H p xs) (hq : H q = none) : p ≠ q := let ⟨_, h1, _⟩ := h; ne_of_none h1 hq
theorem Lt.kt {p : Addr} {xs : List α} (h : Lt R H p xs) (c : C1 p H H') : Kt K H H' := let ⟨_, h1, _⟩ := h; Kt.c1 h1 c
theorem Lt.keep [Mkt K R] {p q : Addr} {xs : List α} (h : Lt R H q xs) (kt : Kt K H H') (c : C1 p H H') (n : q ≠ p) : Lt R H' q xs := let ⟨vs, h1, h2⟩ := h; ⟨vs, c _ _ n h1, pm h2 fun _ _ z => Mkt.kt kt z⟩
/-- xs[i] = e: an own list -/
theorem s_set [Mkt K R] {l : Addr} {xs : List α} {i : Int} (hl : Lt R H l xs) (hj : σ[j]? = some (some (.ref l))) (h : Er R te σ H x) (hi : Er rI tb σ H i) (h1 : -(xs.length : Int) ≤ i) (h2 : i < xs.length)
    (k : ∀ H1, C1 l H H1 → Lt R H1 l (xs.set (ixs xs.length i) x) → D.nx σ H1) : tAsg te (gSub (tVar j) tb rSetL) D σ H := by
  obtain ⟨vs, e1, e2⟩ := hl
  refine h H (Ex.refl H) _ fun v H1 ex1 r => ⟨_, hj, ?_⟩
  refine hi H1 ex1 _ fun u H2 ex2 ri => ?_
  cases ri
  have hl := paired_len e2
  have e3 : H2 l = some (.lst vs) := ex2 _ _ (ex1 _ _ e1)
  refine ⟨l, vs, i, ixs xs.length i, rfl, rfl, e3, by rw [← hl]; exact (ixN_ixs h1 h2).1, ?_⟩
  have kt1 : Kt K H2 (upd H2 l (.lst (vs.set (ixs xs.length i) v))) := Kt.c1 e3 (C1.up (C1.refl l H2))
  exact k _ (C1.up (C1.ex (ex1.trans ex2))) ⟨_, upd_same, paired_set _ (pm e2 fun _ _ z => Mkt.kt ((Kt.ex (K := K) (ex1.trans ex2)).trans kt1) z) (Mkt.kt ((Kt.ex (K := K) ex2).trans kt1) r)⟩
/-! ### new lists -/
theorem el_own [Me R] {p : Addr} {xs : List α} {i : Nat} : True := trivial
theorem el_cat [Me R] {xs ys : List α} (ha : El R ta σ H xs) (hb : El R tb σ H ys) (hl : xs.length + ys.length ≤ 1000000) : El R (tOp rCat ta tb) σ H (xs ++ ys) := fun H1 e Q q =>
  ha H1 e _ fun p H2 n2 e2 l2 => hb H2 (e.trans e2) _ fun p' H3 n3 e3 l3 => by
    obtain ⟨vs, h1, h2⟩ := l2
    obtain ⟨ws, h3, h4⟩ := l3
    refine ⟨p, p', vs, ws, rfl, rfl, e3 _ _ h1, h3, by rw [← paired_len h2, ← paired_len h4]; exact sz1 hl, fun a na => ?_⟩
    exact q a _ (fresh_back (e2.trans e3) na) ((e2.trans e3).trans (Ex.new na)) ⟨_, upd_same, paired_append (pm h2 fun _ _ z => Me.ex (e3.trans (Ex.new na)) z) (pm h4 fun _ _ z => Me.ex (Ex.new na) z)⟩
def repL (xs : List α) (k : Int) : List α := (List.replicate k.toNat xs).flatten
theorem repL_len (xs : List α) (k : Int) : (repL xs k).length = k.toNat * xs.length := by unfold repL; simp
theorem paired_flat {F : α → V → Prop} {xs : List α} {vs : List V} (h : Paired F xs vs) : ∀ n, Paired F (List.replicate n xs).flatten (List.replicate n vs).flatten
  | 0 => .nil
  | n + 1 => by
    rw [List.replicate_succ, List.replicate_succ, List.flatten_cons, List.flatten_cons]
    exact paired_append h (paired_flat h n)
theorem el_rep [Me R] {xs : List α} {k : Int} (ha : El R ta σ H xs) (hb : Er rI tb σ H k) (h1 : -(2 ^ 63) ≤ k ∧ k < 2 ^ 63) (hl : xs.length * k.toNat ≤ 1000000) : El R (tOp rRep ta tb) σ H (repL xs k) := fun H1 e Q q =>
  ha H1 e _ fun p H2 n2 e2 l2 => hb H2 (e.trans e2) _ fun v H3 e3 r => by
    cases r
    obtain ⟨vs, h3, h4⟩ := l2
    refine ⟨p, k, vs, rfl, rfl, e3 _ _ h3, h1.1, h1.2, by rw [← paired_len h4]; exact sz1 hl, fun a na => ?_⟩
    exact q a _ (fresh_back (e2.trans e3) na) ((e2.trans e3).trans (Ex.new na)) ⟨_, upd_same, paired_flat (pm h4 fun _ _ z => Me.ex (e3.trans (Ex.new na)) z) _⟩
def rListQ (K : PySem.W.Frag) : List V → Hp → VK → Prop := fun xs H Q => ∃ p ys, xs = [.ref p] ∧ (SqL K H p ys ∨ SqT K H p ys) ∧ ∀ l, H l = none → Q (.ref l) (upd H l (.lst ys))
theorem el_listL [Me R] {xs : List α} (ha : Er (rL K R) ta σ H xs) : El R (tCB (rListQ K) (tCons ta tNil)) σ H xs := fun H1 e Q q =>
  ha H1 e _ fun v H2 e2 ⟨a, vs, h1, hs, hp⟩ => ⟨a, vs, by rw [h1], .inl hs, fun l nl => q l _ (fresh_back e2 nl) (e2.trans (Ex.new nl)) ⟨_, upd_same, pm hp fun _ _ z => Me.ex (Ex.new nl) z⟩⟩
theorem el_listT [Me R] {xs : List α} (ha : Er (rT K R) ta σ H xs) : El R (tCB (rListQ K) (tCons ta tNil)) σ H xs := fun H1 e Q q =>
  ha H1 e _ fun v H2 e2 ⟨a, vs, h1, hs, hp⟩ => ⟨a, vs, by rw [h1], .inr hs, fun l nl => q l _ (fresh_back e2 nl) (e2.trans (Ex.new nl)) ⟨_, upd_same, pm hp fun _ _ z => Me.ex (Ex.new nl) z⟩⟩
def rTupQ (K : PySem.W.Frag) : List V → Hp → VK → Prop := fun xs H Q => ∃ p ys, xs = [.ref p] ∧ ((SqL K H p ys ∧ ∀ l, H l = none → Q (.ref l) (upd H l (.tup ys))) ∨ (SqT K H p ys ∧ Q (.ref p) H))
theorem er_tupL [Me R] {xs : List α} (ha : Er (rL K R) ta σ H xs) : Er (rT K R) (tCB (rTupQ K) (tCons ta tNil)) σ H xs := fun H1 e Q q =>
  ha H1 e _ fun v H2 e2 ⟨a, vs, h1, hs, hp⟩ => ⟨a, vs, by rw [h1], .inl ⟨hs, fun l nl => q _ _ (e2.trans (Ex.new nl)) ⟨l, _, rfl, SqT.of upd_same, pm hp fun _ _ z => Me.ex (Ex.new nl) z⟩⟩⟩
theorem er_tupT {xs : List α} (ha : Er (rT K R) ta σ H xs) : Er (rT K R) (tCB (rTupQ K) (tCons ta tNil)) σ H xs := fun H1 e Q q =>
  ha H1 e _ fun v H2 e2 r => by
    obtain ⟨a, vs, h1, hs, hp⟩ := id r
    exact ⟨a, vs, by rw [h1], .inr ⟨hs, q _ H2 e2 (by rw [← h1]; exact r)⟩⟩
theorem er_catT [Me R] {xs ys : List α} (ha : Er (rT K R) ta σ H xs) (hb : Er (rT K R) tb σ H ys) (hl : xs.length + ys.length ≤ 1000000) : Er (rT K R) (tOp (rCatA K) ta tb) σ H (xs ++ ys) := fun H1 e Q q =>
  ha H1 e _ fun v H2 e2 r1 => hb H2 (e.trans e2) _ fun w H3 e3 r2 => by
    obtain ⟨a, vs, rfl, h1, h2⟩ := r1
    obtain ⟨b, ws, rfl, h3, h4⟩ := r2
    refine ⟨a, b, vs, ws, rfl, rfl, ex_t e3 h1, h3, by rw [← paired_len h2, ← paired_len h4]; exact sz1 hl, fun z => ?_, fun _ z => ?_, fun _ _ p np => ?_⟩
    · subst z
      cases h2
      exact q _ H3 (e2.trans e3) ⟨b, ws, rfl, h3, h4⟩
    · subst z
      cases h4
      exact q _ H3 (e2.trans e3) (by rw [List.append_nil]; exact ⟨a, vs, rfl, ex_t e3 h1, pm h2 fun _ _ z => Me.ex e3 z⟩)
    · exact q _ _ ((e2.trans e3).trans (Ex.new np)) ⟨p, _, rfl, SqT.of upd_same, paired_append (pm h2 fun _ _ z => Me.ex (e3.trans (Ex.new np)) z) (pm h4 fun _ _ z => Me.ex (Ex.new np) z)⟩
/-- slices -/
def cutL (xs : List α) (lo hi : Option Int) : List α := (xs.drop (HT.sIx xs.length 0 lo)).take (HT.sIx xs.length xs.length hi - HT.sIx xs.length 0 lo)
theorem paired_cut {F : α → V → Prop} {xs : List α} {vs : List V} (h : Paired F xs vs) (lo hi : Option Int) : Paired F (cutL xs lo hi) (cutV vs lo hi) := by
  have hl := paired_len h
  unfold cutL cutV
  rw [hl]
  exact paired_take _ (paired_drop _ h)
theorem cutL_hi {xs : List α} (k : Nat) : cutL xs none (some (k : Int)) = xs.take k := by
  unfold cutL
  rw [HT.sIx_none, HT.sIx_nat, List.drop_zero, Nat.sub_zero]
  by_cases h : k ≤ xs.length
  · rw [Nat.min_eq_left h]
  · rw [Nat.min_eq_right (by omega), List.take_of_length_le (Nat.le_refl _), List.take_of_length_le (by omega)]
theorem cutL_lo {xs : List α} (k : Nat) : cutL xs (some (k : Int)) none = xs.drop k := by
  unfold cutL
  rw [HT.sIx_none, HT.sIx_nat]
  by_cases h : k ≤ xs.length
  · rw [Nat.min_eq_left h, List.take_of_length_le (by rw [List.length_drop]; exact Nat.le_refl _)]
  · rw [Nat.min_eq_right (by omega), List.drop_of_length_le (Nat.le_refl _), List.drop_of_length_le (by omega), List.take_nil]
def Eo (to : TO) (σ : L2.St) (H : Hp) (o : Option Int) : Prop := ∀ H1, Ex H H1 → ∀ Q : Option Int → Hp → Prop, (∀ H2, Ex H1 H2 → Q o H2) → to σ H1 Q
theorem eo0 : Eo tNoPart σ H none := fun H1 _ _ q => q H1 (Ex.refl H1)
theorem eo1 {i : Int} (h : Er rI te σ H i) : Eo (tPart te) σ H (some i) := fun H1 e _ q => h H1 e _ fun v H2 e2 r => ⟨i, r, q H2 e2⟩
theorem er_slT [Me R] {tl th : TO} {xs : List α} {lo hi : Option Int} (h : Er (rT K R) te σ H xs) (h1 : Eo tl σ H lo) (h2 : Eo th σ H hi) : Er (rT K R) (tSl (rSlA K) te tl th) σ H (cutL xs lo hi) := fun H1 e Q q =>
  h H1 e _ fun v H2 e2 r => h1 H2 (e.trans e2) _ fun H3 e3 => h2 H3 ((e.trans e2).trans e3) _ fun H4 e4 => by
    obtain ⟨a, vs, rfl, hs, hp⟩ := r
    have hs4 := ex_t e4 (ex_t e3 hs)
    have hp4 : Paired (R H4) xs vs := pm hp fun _ _ z => Me.ex (e3.trans e4) z
    have e24 := (e2.trans e3).trans e4
    refine ⟨a, vs, rfl, hs4, fun z => ?_, fun _ p np => ?_⟩
    · refine q _ H4 e24 ⟨a, vs, rfl, hs4, ?_⟩
      have w : cutV vs lo hi = vs := by
        unfold cutV
        rw [z.1, z.2, List.drop_zero, Nat.sub_zero, List.take_length]
      have := paired_cut hp4 lo hi
      rw [w] at this
      exact this
    · exact q _ _ (e24.trans (Ex.new np)) ⟨p, _, rfl, SqT.of upd_same, pm (paired_cut hp4 lo hi) fun _ _ z => Me.ex (Ex.new np) z⟩
theorem el_sl [Me R] {tl th : TO} {xs : List α} {lo hi : Option Int} (h : Er (rL K R) te σ H xs) (h1 : Eo tl σ H lo) (h2 : Eo th σ H hi) : El R (tSl (rSlL K) te tl th) σ H (cutL xs lo hi) := fun H1 e Q q =>
  h H1 e _ fun v H2 e2 r => h1 H2 (e.trans e2) _ fun H3 e3 => h2 H3 ((e.trans e2).trans e3) _ fun H4 e4 => by
    obtain ⟨a, vs, rfl, hs, hp⟩ := r
    have e24 := (e2.trans e3).trans e4
    refine ⟨a, vs, rfl, ex_l e4 (ex_l e3 hs), fun p np => ?_⟩
    exact q p _ (fresh_back e24 np) (e24.trans (Ex.new np)) ⟨_, upd_same, pm (paired_cut hp lo hi) fun _ _ z => Me.ex ((e3.trans e4).trans (Ex.new np)) z⟩
/-- lists as arguments -/
def AcL (R : Rp α) (xs : List α) (P : List V → Hp → Prop) : List V → Hp → Prop := fun vs H => ∃ v r, vs = v :: r ∧ (∃ p, v = .ref p ∧ Lt R H p xs) ∧ P r H
theorem eacL [Me R] {tr : TA} {xs : List α} {P : List V → Hp → Prop} (h : El R ta σ H xs) (hr : Ea tr σ H P) : Ea (tCons ta tr) σ H (AcL R xs P) := fun H1 e Q q =>
  h H1 e _ fun p H2 _ e2 l2 => hr H2 (e.trans e2) _ fun vs H3 e3 pv => q (.ref p :: vs) H3 (e2.trans e3) ⟨.ref p, vs, rfl, ⟨p, rfl, l2.ex e3⟩, pv⟩
theorem eacO [Me R] {tr : TA} {p : Addr} {i : Nat} {xs : List α} {P : List V → Hp → Prop} (hi : σ[i]? = some (some (.ref p))) (h : Lt R H p xs) (hr : Ea tr σ H P) : Ea (tCons (tVar i) tr) σ H (AcL R xs P) := fun H1 e Q q =>
  ⟨_, hi, hr H1 e _ fun vs H3 e3 pv => q (.ref p :: vs) H3 e3 ⟨.ref p, vs, rfl, ⟨p, rfl, h.ex (e.trans e3)⟩, pv⟩⟩
def Gnl (sp : Sp) (P : List V → Hp → Prop) (R : Rp α) (xs : List α) : Prop := ∀ vs H1, P vs H1 → ∀ (Q : VK) (E : XK), (∀ p H2, H1 p = none → Ex H1 H2 → Lt R H2 p xs → Q (.ref p) H2) → sp vs H1 Q E
theorem el_call {sp : Sp} {E : XK} {tr : TA} {P : List V → Hp → Prop} {xs : List α} (h : Ea tr σ H P) (g : Gnl sp P R xs) : El R (tCall sp [] E tr) σ H xs := fun H1 e Q q =>
  h H1 e _ fun vs H2 e2 p => by
    show sp (vs ++ []) H2 Q E
    rw [List.append_nil]
    exact g vs H2 p Q E fun a H3 n e3 r => q a H3 (fresh_back e2 n) (e2.trans e3) r
end
theorem cmul_of {i j : Int} (h : (-(2 ^ 64) < i ∧ i < 2 ^ 64) ∨ (-(2 ^ 64) < j ∧ j < 2 ^ 64)) : CMul i j := h
theorem cmul_l {i j : Int} (h : -(2 ^ 64) < i ∧ i < 2 ^ 64) : CMul i j := .inl h
theorem cmul_r {i j : Int} (h : -(2 ^ 64) < j ∧ j < 2 ^ 64) : CMul i j := .inr h

/-! ### the same, with what follows -/
section
variable {α : Type} {K : PySem.W.Frag} {H : Hp} {σ : L2.St} {ta tb te : TE} {t u : TT} {R : Rp α} {x : α} {D : Ends} {tu tw tz : TS} {j : Nat}
theorem q_asgI {i : Int} (h : Er rI te σ H i) (k : ∀ H1, Ex H H1 → tz D (σ.set j (some (.int i))) H1) : tSeq (tAsg te (gName j)) tz D σ H := s_asgI (D := { D with nx := tz D }) h k
theorem q_asgB {i : Bool} (h : Er rB te σ H i) (k : ∀ H1, Ex H H1 → tz D (σ.set j (some (.bl i))) H1) : tSeq (tAsg te (gName j)) tz D σ H := s_asgB (D := { D with nx := tz D }) h k
theorem q_asgS {i : Str} (h : Er rS te σ H i) (k : ∀ H1, Ex H H1 → tz D (σ.set j (some (.str i))) H1) : tSeq (tAsg te (gName j)) tz D σ H := s_asgS (D := { D with nx := tz D }) h k
theorem q_asg (h : Er R te σ H x) (k : ∀ v H1, Ex H H1 → R H1 x v → tz D (σ.set j (some v)) H1) : tSeq (tAsg te (gName j)) tz D σ H := s_asg (D := { D with nx := tz D }) h k
theorem q_asgL {xs : List α} (h : El R te σ H xs) (k : ∀ p H1, H p = none → Ex H H1 → Lt R H1 p xs → tz D (σ.set j (some (.ref p))) H1) : tSeq (tAsg te (gName j)) tz D σ H := s_asgL (D := { D with nx := tz D }) h k
theorem q_drop (h : Er R te σ H x) (k : ∀ H1, Ex H H1 → tz D σ H1) : tSeq (tDrop te) tz D σ H := s_drop (D := { D with nx := tz D }) h k
theorem q_if {b : Bool} (h : Et t σ H b) (h1 : b = true → ∀ H1, Ex H H1 → tu { D with nx := tz D } σ H1) (h2 : b = false → ∀ H1, Ex H H1 → tw { D with nx := tz D } σ H1) : tSeq (tIfS t tu tw) tz D σ H := s_if (D := { D with nx := tz D }) h h1 h2
theorem q_when {b : Bool} (h : Et t σ H b) (h1 : b = true → ∀ H1, Ex H H1 → tu { D with nx := tz D } σ H1) (h2 : b = false → ∀ H1, Ex H H1 → tz D σ H1) : tSeq (tIfS t tu tNext) tz D σ H := s_when (D := { D with nx := tz D }) h h1 h2
theorem q_app [Mkt K R] {l : Addr} {xs : List α} (hl : Lt R H l xs) (hi : σ[j]? = some (some (.ref l))) (h : Er R te σ H x) (hz : xs.length < 1000000) (k : ∀ H1, C1 l H H1 → Lt R H1 l (xs ++ [x]) → tz D σ H1) :
    tSeq (tDrop (tBM K "list" rAppend (tVar j) (tCons te tNil))) tz D σ H := s_app (D := { D with nx := tz D }) hl hi h hz k
theorem q_set [Mkt K R] {l : Addr} {xs : List α} {i : Int} (hl : Lt R H l xs) (hj : σ[j]? = some (some (.ref l))) (h : Er R te σ H x) (hi : Er rI tb σ H i) (h1 : -(xs.length : Int) ≤ i) (h2 : i < xs.length)
    (k : ∀ H1, C1 l H H1 → Lt R H1 l (xs.set (ixs xs.length i) x) → tz D σ H1) : tSeq (tAsg te (gSub (tVar j) tb rSetL)) tz D σ H := s_set (K := K) (D := { D with nx := tz D }) hl hj h hi h1 h2 k
theorem q_while (W : Nat → L2.St → Hp → Prop) (m0 : Nat) (h0 : W m0 σ H)
    (hs : ∀ m σ' H', W m σ' H' → ∃ b, Et t σ' H' b ∧ (b = true → ∀ H1, Ex H' H1 → ∃ N : L2.St → Hp → Prop, (∀ σ2 H2, N σ2 H2 → ∃ m', m' < m ∧ W m' σ2 H2) ∧ tu { D with nx := N, ct := N, bk := tz D } σ' H1) ∧ (b = false → ∀ H1, Ex H' H1 → tz D σ' H1)) : tSeq (tWhile t tu) tz D σ H := s_while (D := { D with nx := tz D }) W m0 h0 hs
theorem q_forT {tl : TE} {g : TG} {xs : List α} (h : Er (rT K R) tl σ H xs) (k : ∀ v H1, Ex H H1 → rT K R H1 xs v → ∀ a, v = .ref a → Fl (Itt K a) g tu { D with nx := tz D } σ H1) : tSeq (tFor (iTup K tl) g tu) tz D σ H := s_forT (D := { D with nx := tz D }) h k
theorem q_forL {tl : TE} {g : TG} {xs : List α} (h : Er (rL K R) tl σ H xs) (k : ∀ v H1, Ex H H1 → rL K R H1 xs v → ∀ a, v = .ref a → Fl (Itl K a) g tu { D with nx := tz D } σ H1) : tSeq (tFor (iList K tl) g tu) tz D σ H := s_forL (D := { D with nx := tz D }) h k
theorem q_forR1 {ta : TE} {g : TG} {hi : Int} (h : Er rI ta σ H hi) (hb : -(2 ^ 62) ≤ hi ∧ hi < 2 ^ 62) (k : ∀ H1, Ex H H1 → Fl (Itr 0 hi.toNat) g tu { D with nx := tz D } σ H1) : tSeq (tFor (iRng1 (tCons ta tNil)) g tu) tz D σ H := s_forR1 (D := { D with nx := tz D }) h hb k
theorem q_forR2 {ta tb : TE} {g : TG} {lo hi : Int} (h : Er rI ta σ H lo) (h' : Er rI tb σ H hi) (hb : -(2 ^ 62) ≤ lo ∧ lo < 2 ^ 62 ∧ -(2 ^ 62) ≤ hi ∧ hi < 2 ^ 62) (k : ∀ H1, Ex H H1 → Fl (Itr lo (hi - lo).toNat) g tu { D with nx := tz D } σ H1) : tSeq (tFor (iRng2 (tCons ta (tCons tb tNil))) g tu) tz D σ H := s_forR2 (D := { D with nx := tz D }) h h' hb k
theorem q_forEL {ta : TE} {g : TG} {xs : List α} (h : Er (rL K R) ta σ H xs) (k : ∀ v H1, Ex H H1 → rL K R H1 xs v → ∀ a, v = .ref a → Fl (Ite K a) g tu { D with nx := tz D } σ H1) : tSeq (tFor (iEnum K (tCons ta tNil)) g tu) tz D σ H := s_forEL (D := { D with nx := tz D }) h k
end
/-! ### for, with what follows -/
section
variable {α : Type} {K : PySem.W.Frag} {H : Hp} {σ : L2.St} {R : Rp α} {D : Ends} {tu tz : TS} {j : Nat}
theorem fq_T {xs : List α} {v : V} (r : rT K R H xs v) (Pv : Nat → L2.St → Hp → Prop) (h0 : Pv 0 σ H) (hG : ∀ i σ H', i ≤ xs.length → Pv i σ H' → rT K R H' xs v)
    (hs : ∀ i x u σ H', i < xs.length → xs[i]? = some x → Pv i σ H' → R H' x u → tu { nx := Pv (i + 1), rt := D.rt, bk := tz D, ct := Pv (i + 1) } (σ.set j (some u)) H') (hd : ∀ σ H', Pv xs.length σ H' → tz D σ H') :
    ∀ a, v = .ref a → Fl (Itt K a) (gName j) tu { D with nx := tz D } σ H := fl_T (D := { D with nx := tz D }) r Pv h0 hG hs hd
theorem fq_L {xs : List α} {v : V} (r : rL K R H xs v) (Pv : Nat → L2.St → Hp → Prop) (h0 : Pv 0 σ H) (hG : ∀ i σ H', i ≤ xs.length → Pv i σ H' → rL K R H' xs v)
    (hs : ∀ i x u σ H', i < xs.length → xs[i]? = some x → Pv i σ H' → R H' x u → tu { nx := Pv (i + 1), rt := D.rt, bk := tz D, ct := Pv (i + 1) } (σ.set j (some u)) H') (hd : ∀ σ H', Pv xs.length σ H' → tz D σ H') :
    ∀ a, v = .ref a → Fl (Itl K a) (gName j) tu { D with nx := tz D } σ H := fl_L (D := { D with nx := tz D }) r Pv h0 hG hs hd
theorem fq_TI {xs : List Int} {v : V} (r : rT K rI H xs v) (Pv : Nat → L2.St → Hp → Prop) (h0 : Pv 0 σ H) (hG : ∀ i σ H', i ≤ xs.length → Pv i σ H' → rT K rI H' xs v)
    (hs : ∀ i x σ H', i < xs.length → xs[i]? = some x → Pv i σ H' → tu { nx := Pv (i + 1), rt := D.rt, bk := tz D, ct := Pv (i + 1) } (σ.set j (some (.int x))) H') (hd : ∀ σ H', Pv xs.length σ H' → tz D σ H') :
    ∀ a, v = .ref a → Fl (Itt K a) (gName j) tu { D with nx := tz D } σ H := fl_TI (D := { D with nx := tz D }) r Pv h0 hG hs hd
theorem fq_LI {xs : List Int} {v : V} (r : rL K rI H xs v) (Pv : Nat → L2.St → Hp → Prop) (h0 : Pv 0 σ H) (hG : ∀ i σ H', i ≤ xs.length → Pv i σ H' → rL K rI H' xs v)
    (hs : ∀ i x σ H', i < xs.length → xs[i]? = some x → Pv i σ H' → tu { nx := Pv (i + 1), rt := D.rt, bk := tz D, ct := Pv (i + 1) } (σ.set j (some (.int x))) H') (hd : ∀ σ H', Pv xs.length σ H' → tz D σ H') :
    ∀ a, v = .ref a → Fl (Itl K a) (gName j) tu { D with nx := tz D } σ H := fl_LI (D := { D with nx := tz D }) r Pv h0 hG hs hd
theorem fq_R {lo hi : Int} {n : Nat} (hn : n = (hi - lo).toNat) (Pv : Nat → L2.St → Hp → Prop) (h0 : Pv 0 σ H)
    (hs : ∀ i x σ H', i < (rng lo hi).length → (rng lo hi)[i]? = some x → Pv i σ H' → tu { nx := Pv (i + 1), rt := D.rt, bk := tz D, ct := Pv (i + 1) } (σ.set j (some (.int x))) H') (hd : ∀ σ H', Pv (rng lo hi).length σ H' → tz D σ H') :
    Fl (Itr lo n) (gName j) tu { D with nx := tz D } σ H := fl_R (D := { D with nx := tz D }) hn Pv h0 hs hd
theorem fq_EL {i0 : Nat} {xs : List α} {v : V} (r : rL K R H xs v) (Pv : Nat → L2.St → Hp → Prop) (h0 : Pv 0 σ H) (hG : ∀ i σ H', i ≤ xs.length → Pv i σ H' → rL K R H' xs v)
    (hs : ∀ i x u σ H' H'', i < (enm xs).length → (enm xs)[i]? = some x → Pv i σ H' → Ex H' H'' → R H' x.2 u → tu { nx := Pv (i + 1), rt := D.rt, bk := tz D, ct := Pv (i + 1) } ((σ.set i0 (some (.int x.1))).set j (some u)) H'') (hd : ∀ σ H', Pv (enm xs).length σ H' → tz D σ H') :
    ∀ a, v = .ref a → Fl (Ite K a) (g2 K i0 j) tu { D with nx := tz D } σ H := fl_EL (D := { D with nx := tz D }) r Pv h0 hG hs hd
theorem fq_ELI {i0 : Nat} {xs : List Int} {v : V} (r : rL K rI H xs v) (Pv : Nat → L2.St → Hp → Prop) (h0 : Pv 0 σ H) (hG : ∀ i σ H', i ≤ xs.length → Pv i σ H' → rL K rI H' xs v)
    (hs : ∀ i x σ H' H'', i < (enm xs).length → (enm xs)[i]? = some x → Pv i σ H' → Ex H' H'' → tu { nx := Pv (i + 1), rt := D.rt, bk := tz D, ct := Pv (i + 1) } ((σ.set i0 (some (.int x.1))).set j (some (.int x.2))) H'') (hd : ∀ σ H', Pv (enm xs).length σ H' → tz D σ H') :
    ∀ a, v = .ref a → Fl (Ite K a) (g2 K i0 j) tu { D with nx := tz D } σ H := fl_ELI (D := { D with nx := tz D }) r Pv h0 hG hs hd
end
/-! ### comprehensions -/
section
variable {α β ι : Type} {K : PySem.W.Frag} {H : Hp} {σ : L2.St} {ta tb te tl : TE} {tt : TT} {R : Rp α} {Ri : Rp β} {vs : List Nat} {j : Nat}
def Good (R : Rp α) (σ : L2.St) (vs : List Nat) (tt : TT) (te : TE) (σ2 : L2.St) (H : Hp) (b : Bool) (y : α) : Prop := wipe σ2 vs = wipe σ vs ∧ Et tt σ2 H b ∧ (b = true → Er R te σ2 H y)
theorem el_core [Me R] [Mkt K R] {J : It} {g : TG} {xs : List ι} (c : ι → Bool) (f : ι → α) (hl : xs.length < 1000000)
    (go : ∀ i H', Ex H H' → i < xs.length → J.go i H') (stop : ∀ H', Ex H H' → J.stop xs.length H')
    (turn : ∀ i x u H' H'' (C : L2.St → Hp → Prop), xs[i]? = some x → Ex H H' → J.yld i H' u H'' → (∀ σ2 H3, Ex H' H3 → Good R σ vs tt te σ2 H3 (c x) (f x) → C σ2 H3) → g u (wipe σ vs) H'' C)
    (Q : VK) (q : ∀ p H2, H p = none → Ex H H2 → Lt R H2 p ((xs.filter c).map f) → Q (.ref p) H2) :
    ∀ D, H D = none → ∃ W : Nat → Nat → Hp → Prop, (∃ m, W 0 m (upd H D (.lst []))) ∧ ∀ i m H, W i m H →
      (J.stop i H ∧ Q (.ref D) H) ∨ (J.go i H ∧ ∃ Nx : Hp → Prop, (∀ H', Nx H' → ∃ m', m' < m ∧ W (i + 1) m' H') ∧ ∀ x H', J.yld i H x H' → g x (wipe σ vs) H' fun σ2 H2 => wipe σ2 vs = wipe σ vs ∧ tt σ2 H2 fun b H3 =>
        if b = true then te σ2 H3 fun y H4 => ∃ acc, H4 D = some (.lst acc) ∧ acc.length < sizeLine ∧ Nx (upd H4 D (.lst (acc ++ [y]))) else Nx H3) := by
  intro D hD
  refine ⟨fun i m H' => m = xs.length - i ∧ i ≤ xs.length ∧ Ex H H' ∧ Lt R H' D (((xs.take i).filter c).map f), ⟨xs.length, rfl, Nat.zero_le _, Ex.new hD, ⟨[], upd_same, .nil⟩⟩, ?_⟩
  rintro i m H1 ⟨rfl, hi, e1, l1⟩
  by_cases hlt : i < xs.length
  · have hx : xs[i]? = some xs[i] := List.getElem?_eq_getElem hlt
    refine .inr ⟨go i H1 e1 hlt, fun H' => Ex H H' ∧ Lt R H' D (((xs.take (i + 1)).filter c).map f), fun H' h => ⟨xs.length - (i + 1), by omega, rfl, hlt, h⟩, fun u H2 y => ?_⟩
    refine turn i _ u H1 H2 _ hx e1 y fun σ2 H3 e3 g => ⟨g.1, ?_⟩
    have tk : xs.take (i + 1) = xs.take i ++ [xs[i]] := by rw [List.take_add_one, hx]; rfl
    refine g.2.1 H3 (Ex.refl H3) _ fun H4 e4 => ?_
    cases hb : c xs[i] with
    | true =>
      show te σ2 H4 _
      refine g.2.2 hb H4 e4 _ fun v H5 e5 r5 => ?_
      obtain ⟨acc, a1, a2⟩ := l1.ex ((e3.trans e4).trans e5)
      have la : acc.length ≤ i := by
        rw [← paired_len a2, List.length_map]
        exact Nat.le_trans (List.length_filter_le _ _) (by rw [List.length_take]; omega)
      have kt1 : Kt K H5 (upd H5 D (.lst (acc ++ [v]))) := Kt.c1 a1 (C1.up (C1.refl D H5))
      refine ⟨acc, a1, sz0 (by omega), (fun a o h => ?_), ⟨acc ++ [v], upd_same, ?_⟩⟩
      · rw [upd_ne (ne_of_none h hD)]
        exact e5 _ _ (e4 _ _ (e3 _ _ (e1 _ _ h)))
      · rw [tk, List.filter_append, List.map_append]
        refine paired_append (pm a2 fun _ _ z => Mkt.kt kt1 z) ?_
        rw [show [xs[i]].filter c = [xs[i]] by simp [hb]]
        exact .cons (Mkt.kt kt1 r5) .nil
    | false =>
      show Ex H H4 ∧ _
      refine ⟨((e1.trans e3).trans e4), ?_⟩
      rw [tk, List.filter_append, List.filter_cons, hb]
      simpa using l1.ex (e3.trans e4)
  · have hi2 : i = xs.length := by omega
    subst hi2
    rw [List.take_length] at l1
    exact .inl ⟨stop H1 e1, q D H1 hD e1 l1⟩
theorem et_yes {σ : L2.St} {H : Hp} : Et tYes σ H true := fun H1 _ _ q => q H1 (Ex.refl H1)
/-- [e for x in range(n) (if c)] -/
theorem el_lcR1c [Me R] [Mkt K R] {hi : Int} {c : Int → Bool} {f : Int → α} (h : Er rI ta σ H hi) (hb : -(2 ^ 62) ≤ hi ∧ hi < 1000000) (hw : ∀ x, wipe ((wipe σ vs).set j (some x)) vs = wipe σ vs)
    (ht : ∀ x H1, Ex H H1 → (0 ≤ x ∧ x < hi) → Et tt ((wipe σ vs).set j (some (.int x))) H1 (c x)) (he : ∀ x H1, Ex H H1 → (0 ≤ x ∧ x < hi) → c x = true → Er R te ((wipe σ vs).set j (some (.int x))) H1 (f x)) :
    El R (tLc (iRng1 (tCons ta tNil)) (gName j) tt te vs) σ H (((rng 0 hi).filter c).map f) := fun H1 e1 Q q =>
  h H1 e1 _ fun v H2 e2 r => by
    cases r
    have hl := rng_len 0 hi
    have hn : (rng 0 hi).length = hi.toNat := by rw [hl, Int.sub_zero]
    refine ⟨hi, rfl, hb.1, by omega, el_core (K := K) (R := R) (xs := rng 0 hi) c f (by omega) (fun i H' _ h => by rw [hn] at h; exact h) (fun H' _ => by rw [hn]; exact Nat.le_refl _) (fun i x u H' H'' C hx e3 y k => ?_) Q fun p H3 n3 e3 l3 => q p H3 (fresh_back e2 n3) (e2.trans e3) l3⟩
    obtain ⟨rfl, rfl⟩ := y
    have hx2 := rng_at hx
    have ex : x = 0 + (i : Int) := hx2.1
    refine k _ H'' (Ex.refl H'') ⟨hw _, ?_, fun hc => ?_⟩
    · rw [← ex]; exact ht x H'' ((e1.trans e2).trans e3) hx2.2
    · rw [← ex]; exact he x H'' ((e1.trans e2).trans e3) hx2.2 hc
theorem el_lcR1 [Me R] [Mkt K R] {hi : Int} {f : Int → α} (h : Er rI ta σ H hi) (hb : -(2 ^ 62) ≤ hi ∧ hi < 1000000) (hw : ∀ x, wipe ((wipe σ vs).set j (some x)) vs = wipe σ vs)
    (he : ∀ x H1, Ex H H1 → (0 ≤ x ∧ x < hi) → Er R te ((wipe σ vs).set j (some (.int x))) H1 (f x)) : El R (tLc (iRng1 (tCons ta tNil)) (gName j) tYes te vs) σ H ((rng 0 hi).map f) := by
  have z := el_lcR1c (K := K) (c := fun _ => true) (f := f) h hb hw (fun _ _ _ _ => et_yes) fun x H1 e hx _ => he x H1 e hx
  rw [List.filter_eq_self.mpr fun _ _ => rfl] at z
  exact z
/-- [e for x in xs (if c)], a list; a tuple -/
theorem el_lcLc [Me R] [Mkt K R] [Me Ri] {xs : List β} {c : β → Bool} {f : β → α} (h : Er (rL K Ri) tl σ H xs) (hb : xs.length < 1000000) (hw : ∀ x, wipe ((wipe σ vs).set j (some x)) vs = wipe σ vs)
    (ht : ∀ x v H1, Ex H H1 → x ∈ xs → Ri H1 x v → Et tt ((wipe σ vs).set j (some v)) H1 (c x)) (he : ∀ x v H1, Ex H H1 → x ∈ xs → Ri H1 x v → c x = true → Er R te ((wipe σ vs).set j (some v)) H1 (f x)) :
    El R (tLc (iList K tl) (gName j) tt te vs) σ H ((xs.filter c).map f) := fun H1 e1 Q q =>
  h H1 e1 _ fun v H2 e2 r => by
    obtain ⟨a, us, rfl, hs, hp⟩ := r
    have hl := paired_len hp
    refine ⟨a, rfl, ⟨us, hs⟩, el_core (K := K) (R := R) (J := Itl K a) (xs := xs) c f hb (fun i H' e3 h => ⟨us, us[i]'(by omega), ex_l e3 hs, List.getElem?_eq_getElem _⟩) (fun H' e3 => ⟨us, ex_l e3 hs, by omega⟩) (fun i x u H' H'' C hx e3 y k => ?_) Q fun p H3 n3 e3 l3 => q p H3 (fresh_back e2 n3) (e2.trans e3) l3⟩
    obtain ⟨rfl, y⟩ := y
    obtain ⟨u', hu, ru⟩ := paired_get hp hx
    have eu := y us (ex_l e3 hs)
    rw [hu] at eu
    cases eu
    exact k _ H'' (Ex.refl H'') ⟨hw _, ht x u H'' ((e1.trans e2).trans e3) (List.mem_of_getElem? hx) (Me.ex e3 ru), fun hc => he x u H'' ((e1.trans e2).trans e3) (List.mem_of_getElem? hx) (Me.ex e3 ru) hc⟩
theorem el_lcL [Me R] [Mkt K R] [Me Ri] {xs : List β} {f : β → α} (h : Er (rL K Ri) tl σ H xs) (hb : xs.length < 1000000) (hw : ∀ x, wipe ((wipe σ vs).set j (some x)) vs = wipe σ vs)
    (he : ∀ x v H1, Ex H H1 → x ∈ xs → Ri H1 x v → Er R te ((wipe σ vs).set j (some v)) H1 (f x)) : El R (tLc (iList K tl) (gName j) tYes te vs) σ H (xs.map f) := by
  have z := el_lcLc (K := K) (c := fun _ => true) (f := f) h hb hw (fun _ _ _ _ _ _ => et_yes) fun x v H1 e hx r _ => he x v H1 e hx r
  rw [List.filter_eq_self.mpr fun _ _ => rfl] at z
  exact z
theorem el_lcTc [Me R] [Mkt K R] [Me Ri] {xs : List β} {c : β → Bool} {f : β → α} (h : Er (rT K Ri) tl σ H xs) (hb : xs.length < 1000000) (hw : ∀ x, wipe ((wipe σ vs).set j (some x)) vs = wipe σ vs)
    (ht : ∀ x v H1, Ex H H1 → x ∈ xs → Ri H1 x v → Et tt ((wipe σ vs).set j (some v)) H1 (c x)) (he : ∀ x v H1, Ex H H1 → x ∈ xs → Ri H1 x v → c x = true → Er R te ((wipe σ vs).set j (some v)) H1 (f x)) :
    El R (tLc (iTup K tl) (gName j) tt te vs) σ H ((xs.filter c).map f) := fun H1 e1 Q q =>
  h H1 e1 _ fun v H2 e2 r => by
    obtain ⟨a, us, rfl, hs, hp⟩ := r
    have hl := paired_len hp
    refine ⟨a, rfl, ⟨us, hs⟩, el_core (K := K) (R := R) (J := Itt K a) (xs := xs) c f hb (fun i H' e3 h => ⟨us, us[i]'(by omega), ex_t e3 hs, List.getElem?_eq_getElem _⟩) (fun H' e3 => ⟨us, ex_t e3 hs, by omega⟩) (fun i x u H' H'' C hx e3 y k => ?_) Q fun p H3 n3 e3 l3 => q p H3 (fresh_back e2 n3) (e2.trans e3) l3⟩
    obtain ⟨rfl, y⟩ := y
    obtain ⟨u', hu, ru⟩ := paired_get hp hx
    have eu := y us (ex_t e3 hs)
    rw [hu] at eu
    cases eu
    exact k _ H'' (Ex.refl H'') ⟨hw _, ht x u H'' ((e1.trans e2).trans e3) (List.mem_of_getElem? hx) (Me.ex e3 ru), fun hc => he x u H'' ((e1.trans e2).trans e3) (List.mem_of_getElem? hx) (Me.ex e3 ru) hc⟩
theorem el_lcT [Me R] [Mkt K R] [Me Ri] {xs : List β} {f : β → α} (h : Er (rT K Ri) tl σ H xs) (hb : xs.length < 1000000) (hw : ∀ x, wipe ((wipe σ vs).set j (some x)) vs = wipe σ vs)
    (he : ∀ x v H1, Ex H H1 → x ∈ xs → Ri H1 x v → Er R te ((wipe σ vs).set j (some v)) H1 (f x)) : El R (tLc (iTup K tl) (gName j) tYes te vs) σ H (xs.map f) := by
  have z := el_lcTc (K := K) (c := fun _ => true) (f := f) h hb hw (fun _ _ _ _ _ _ => et_yes) fun x v H1 e hx r _ => he x v H1 e hx r
  rw [List.filter_eq_self.mpr fun _ _ => rfl] at z
  exact z
/-- the items ints -/
theorem el_lcLI [Me R] [Mkt K R] {xs : List Int} {f : Int → α} (h : Er (rL K rI) tl σ H xs) (hb : xs.length < 1000000) (hw : ∀ x, wipe ((wipe σ vs).set j (some x)) vs = wipe σ vs)
    (he : ∀ x H1, Ex H H1 → x ∈ xs → Er R te ((wipe σ vs).set j (some (.int x))) H1 (f x)) : El R (tLc (iList K tl) (gName j) tYes te vs) σ H (xs.map f) :=
  el_lcL h hb hw fun x v H1 e hx r => by cases r; exact he x H1 e hx
theorem el_lcTI [Me R] [Mkt K R] {xs : List Int} {f : Int → α} (h : Er (rT K rI) tl σ H xs) (hb : xs.length < 1000000) (hw : ∀ x, wipe ((wipe σ vs).set j (some x)) vs = wipe σ vs)
    (he : ∀ x H1, Ex H H1 → x ∈ xs → Er R te ((wipe σ vs).set j (some (.int x))) H1 (f x)) : El R (tLc (iTup K tl) (gName j) tYes te vs) σ H (xs.map f) :=
  el_lcT h hb hw fun x v H1 e hx r => by cases r; exact he x H1 e hx
theorem el_lcLIc [Me R] [Mkt K R] {xs : List Int} {c : Int → Bool} {f : Int → α} (h : Er (rL K rI) tl σ H xs) (hb : xs.length < 1000000) (hw : ∀ x, wipe ((wipe σ vs).set j (some x)) vs = wipe σ vs)
    (ht : ∀ x H1, Ex H H1 → x ∈ xs → Et tt ((wipe σ vs).set j (some (.int x))) H1 (c x)) (he : ∀ x H1, Ex H H1 → x ∈ xs → c x = true → Er R te ((wipe σ vs).set j (some (.int x))) H1 (f x)) : El R (tLc (iList K tl) (gName j) tt te vs) σ H ((xs.filter c).map f) :=
  el_lcLc h hb hw (fun x v H1 e hx r => by cases r; exact ht x H1 e hx) fun x v H1 e hx r hc => by cases r; exact he x H1 e hx hc
theorem el_lcTIc [Me R] [Mkt K R] {xs : List Int} {c : Int → Bool} {f : Int → α} (h : Er (rT K rI) tl σ H xs) (hb : xs.length < 1000000) (hw : ∀ x, wipe ((wipe σ vs).set j (some x)) vs = wipe σ vs)
    (ht : ∀ x H1, Ex H H1 → x ∈ xs → Et tt ((wipe σ vs).set j (some (.int x))) H1 (c x)) (he : ∀ x H1, Ex H H1 → x ∈ xs → c x = true → Er R te ((wipe σ vs).set j (some (.int x))) H1 (f x)) : El R (tLc (iTup K tl) (gName j) tt te vs) σ H ((xs.filter c).map f) :=
  el_lcTc h hb hw (fun x v H1 e hx r => by cases r; exact ht x H1 e hx) fun x v H1 e hx r hc => by cases r; exact he x H1 e hx hc
end
/-! ### the rules, the written part named -/
section
variable {X : Cx}
theorem ix_listK (K : PySem.W.Frag) (h : X.K = K := by rfl) : IxR X (rIxL K) := by subst h; exact ix_list
theorem ix_tupK (K : PySem.W.Frag) (h : X.K = K := by rfl) : IxR X (rIxT K) := by subst h; exact ix_tup
theorem sl_listK (K : PySem.W.Frag) (h : X.K = K := by rfl) : SlR X (rSlL K) := by subst h; exact sl_list
theorem sl_tupAK (K : PySem.W.Frag) (h : X.K = K := by rfl) : SlR X (rSlA K) := by subst h; exact sl_tupA
theorem op_catAK (K : PySem.W.Frag) (h : X.K = K := by rfl) : OpR X (binaryOp .Add) (rCatA K) := by subst h; exact op_catA
theorem op_in_seqK (K : PySem.W.Frag) (h : X.K = K := by rfl) : OpR X (compareOp .In) (rIn K false) := by subst h; exact op_in_seq
theorem op_notIn_seqK (K : PySem.W.Frag) (h : X.K = K := by rfl) : OpR X (compareOp .NotIn) (rIn K true) := by subst h; exact op_notIn_seq
theorem call_len_seqK (K : PySem.W.Frag) (h : X.K = K := by rfl) : CallR X (.builtin "len") (rLenQ K) := by subst h; exact call_len_seq
theorem call_list_ofK (K : PySem.W.Frag) (h : X.K = K := by rfl) : CallR X (.type "list") (rListQ K) := by subst h; exact call_list_of
theorem call_tuple_ofK (K : PySem.W.Frag) (h : X.K = K := by rfl) : CallR X (.type "tuple") (rTupQ K) := by subst h; exact call_tuple_of
theorem call_isiK' (K : PySem.W.Frag) (h : X.K = K := by rfl) : CallR X (.builtin "isinstance") (rIsi K) := by subst h; exact call_isi
theorem cr_sumK (K : PySem.W.Frag) (hc : X.calm = true) (h : X.K = K := by rfl) : CallR X (.builtin "sum") (rSum K) := by subst h; exact cr_sum hc
variable {tg l e : Expr} {tl : TE} {ta : TA} {p pos apos cpos : Pos} {t : TGs} {es : List Expr} {k n : Nat}
theorem pi_listK (K : PySem.W.Frag) (hl : PE X l tl) (h : X.K = K := by rfl) : PI X tg l (iList K tl) := by subst h; exact pi_list hl
theorem pi_tupK (K : PySem.W.Frag) (hl : PE X l tl) (h : X.K = K := by rfl) : PI X tg l (iTup K tl) := by subst h; exact pi_tup hl
theorem pi_enumK (K : PySem.W.Frag) {tpos : Pos} {elts : List Expr} {kk : Nat} (hg : Gl X "enumerate") (hm : X.mg "enumerate" = none) (ha : PA X [e] ta) (h : X.K = K := by rfl) (hs : starEach [e] X.env = [(false, eval e X.env)] := by rfl) :
    PI X (.Tuple elts kk tpos) (.Call (.Name "enumerate" p) [e] [] pos) (iEnum K ta) := by subst h; exact pi_enum hg hm ha hs
theorem pg_tupK (K : PySem.W.Frag) (n : Nat) (hc : X.calm = true) (h : PGs X es t) (hK : X.K = K := by rfl)
    (hn : (assignEach es X.env).length = n := by rfl) (hst : (assignEach es X.env).findIdx? (·.1) = none := by rfl) : PG X (.Tuple es k pos) (gTup K n t) := by subst hK; exact pg_tup hc h hn hst
end
/-! ### a def as it stands; a thing; primes -/
structure Df (P : Program) (w : World) (K : PySem.W.Frag) (mg : Str → Option Value) (base : Heap) (CX : CXT) (k : Nat) (x : Str) (ps : List Str) (sp : Sp) : Type where
  f : Addr
  fd : FuncData
  ok : FnOk P w K mg base CX k f fd ps sp
  g : mg x = some (.ref f)
  kp : PySem.W.keepIn K (.ref f) = true
  b : Binds K fd ps []
/-- a written tuple by its name -/
structure Cn (K : PySem.W.Frag) (mg : Str → Option Value) (x : Str) (xs : List V) : Type where
  a : Addr
  g : mg x = some (.ref a)
  s : ∀ H, SqT K H a xs
inductive Th (K : PySem.W.Frag) (H : Hp) : V → Prop where
  | non : Th K H .non
  | bl (b : Bool) : Th K H (.bl b)
  | int (i : Int) : Th K H (.int i)
  | str (s : Str) : Th K H (.str s)
  | tup {a : Addr} {xs : List V} (h : SqT K H a xs) : Th K H (.ref a)
theorem sqT_ty {K : PySem.W.Frag} {H : Hp} {a : Addr} {xs : List V} (h : SqT K H a xs) : TyX K H (.ref a) (.type "tuple") := by
  rcases h with (h | ⟨o, h⟩) | ⟨o, its, n, h, c, _⟩
  · exact .base (.tup h)
  · exact .fTuple h
  · exact .kTuple h c
def isW : V → Bool
  | .int _ => true
  | _ => false
def Pr (p : Int) : Prop := p = 2 ∨ p = 3 ∨ p = 5
instance (p : Int) : Decidable (Pr p) := inferInstanceAs (Decidable (_ ∨ _ ∨ _))
def isPr : V → Bool
  | .int p => decide (Pr p)
  | _ => false
theorem Pr.is {p : Int} (h : Pr p) : isPr (.int p) = true := decide_eq_true h
theorem isPr_int {x : V} (h : isPr x = true) : ∃ p, x = .int p ∧ Pr p := by
  cases x <;> first | exact ⟨_, rfl, of_decide_eq_true h⟩ | cases h
theorem isPr_W {x : V} (h : isW x = false) : isPr x = false := by
  cases x <;> first | rfl | cases h
theorem Th.kt {K : PySem.W.Frag} {H H' : Hp} {x : V} (e : Kt K H H') (h : Th K H x) : Th K H' x := by
  cases h with
  | non => exact .non
  | bl b => exact .bl b
  | int i => exact .int i
  | str s => exact .str s
  | tup h => exact .tup (e _ _ h)
theorem Th.mono {K : PySem.W.Frag} {H H' : Hp} {x : V} (e : Ex H H') (h : Th K H x) : Th K H' x := h.kt (Kt.ex e)
/-- what is no prime -/
def rBad (K : PySem.W.Frag) : Rp Unit := fun H _ v => Th K H v ∧ isPr v = false
instance {K : PySem.W.Frag} : Me (rBad K) := ⟨fun e h => ⟨h.1.mono e, h.2⟩⟩
instance {K : PySem.W.Frag} : Mkt K (rBad K) := ⟨fun e h => ⟨h.1.kt e, h.2⟩⟩
theorem er_bad {K : PySem.W.Frag} {α : Type} {R : Rp α} {t : TE} {σ : L2.St} {H : Hp} {x : α} (h : Er R t σ H x) (k : ∀ v H1, R H1 x v → Th K H1 v ∧ isPr v = false) : Er (rBad K) t σ H () := fun H1 e Q q => h H1 e Q fun v H2 e2 r => q v H2 e2 (k v H2 r)
theorem er_badI {K : PySem.W.Frag} {t : TE} {σ : L2.St} {H : Hp} {x : Int} (h : Er rI t σ H x) (k : isPr (.int x) = false := by decide) : Er (rBad K) t σ H () := er_bad h fun v H1 r => by cases r; exact ⟨.int x, k⟩
theorem er_badB {K : PySem.W.Frag} {t : TE} {σ : L2.St} {H : Hp} {x : Bool} (h : Er rB t σ H x) : Er (rBad K) t σ H () := er_bad h fun v H1 r => by cases r; exact ⟨.bl x, rfl⟩
theorem er_badN {K : PySem.W.Frag} {t : TE} {σ : L2.St} {H : Hp} (h : Er rN t σ H ()) : Er (rBad K) t σ H () := er_bad h fun v H1 r => by cases r; exact ⟨.non, rfl⟩
theorem er_badS {K : PySem.W.Frag} {t : TE} {σ : L2.St} {H : Hp} {x : Str} (h : Er rS t σ H x) : Er (rBad K) t σ H () := er_bad h fun v H1 r => by cases r; exact ⟨.str x, rfl⟩
theorem er_badT {K : PySem.W.Frag} {α : Type} {R : Rp α} {t : TE} {σ : L2.St} {H : Hp} {x : List α} (h : Er (rT K R) t σ H x) : Er (rBad K) t σ H () := er_bad h fun v H1 r => by
  obtain ⟨a, vs, rfl, h2, _⟩ := r
  exact ⟨.tup h2, rfl⟩
/-- a thing's kind among built-in classes -/
def isIB : V → Bool
  | .int _ => true
  | .bl _ => true
  | _ => false
def isB : V → Bool
  | .bl _ => true
  | _ => false
theorem isW_eq (x : V) : isW x = (isIB x && !isB x) := by cases x <;> rfl
theorem Th.ty {K : PySem.W.Frag} {H : Hp} {x : V} (h : Th K H x) : ∃ t : String, TyX K H x (.type t) ∧ kitB t "int" = some (isIB x) ∧ kitB t "bool" = some (isB x) := by
  cases h with
  | non => exact ⟨_, .base .non, (show kitB _ "int" = some false by decide +kernel), (show kitB _ "bool" = some false by decide +kernel)⟩
  | bl b => exact ⟨_, .base (.bl b), (show kitB _ "int" = some true by decide +kernel), (show kitB _ "bool" = some true by decide +kernel)⟩
  | int i => exact ⟨_, .base (.int i), (show kitB _ "int" = some true by decide +kernel), (show kitB _ "bool" = some false by decide +kernel)⟩
  | str s => exact ⟨_, .base (.str s), (show kitB _ "int" = some false by decide +kernel), (show kitB _ "bool" = some false by decide +kernel)⟩
  | tup h => exact ⟨_, sqT_ty h, (show kitB _ "int" = some false by decide +kernel), (show kitB _ "bool" = some false by decide +kernel)⟩

/-! ### the bag of a law: four numbers (three) -/
def Bag (H : Hp) (b : Addr) : Prop := ∃ b0 b1 pr c : Int, Lt rI H b [b0, b1, pr, c] ∧ 0 ≤ b0 ∧ 0 ≤ b1 ∧ b1 < 4294967296 ∧ 0 < pr ∧ pr < 4294967296
theorem Bag.ex {H H' : Hp} {b : Addr} (h : Bag H b) (e : Ex H H') : Bag H' b := let ⟨a, c, d, f, l, r⟩ := h; ⟨a, c, d, f, l.ex e, r⟩
theorem Bag.kt {K : PySem.W.Frag} {H H' : Hp} {b : Addr} (h : Bag H b) (c : C1 b H H') : Kt K H H' := let ⟨_, _, _, _, l, _⟩ := h; l.kt c
theorem Bag.keep {H H' : Hp} {b p : Addr} (h : Bag H b) (c : C1 p H H') (n : b ≠ p) : Bag H' b := let ⟨a, d, e, f, ⟨vs, h1, h2⟩, r⟩ := h; ⟨a, d, e, f, ⟨vs, c _ _ n h1, h2⟩, r⟩
theorem Bag.there {H : Hp} {b : Addr} (h : Bag H b) : ∃ xs, H b = some (.lst xs) := let ⟨_, _, _, _, ⟨vs, h1, _⟩, _⟩ := h; ⟨vs, h1⟩
theorem Bag.ne {H : Hp} {b q : Addr} (h : Bag H b) (hq : H q = none) : b ≠ q := let ⟨_, h1⟩ := h.there; ne_of_none h1 hq
/-- what was fresh -/
theorem fb {H H' : Hp} {b p : Addr} (c : C1 b H H') (h : Bag H' b) (hp : H' p = none) : H p = none := by
  by_cases z : p = b
  · obtain ⟨xs, q⟩ := h.there
    rw [z, q] at hp
    cases hp
  · cases q : H p with
    | none => rfl
    | some o =>
      rw [c p o z q] at hp
      cases hp
/-- a list that is read by whoever holds it -/
theorem rl_of {K : PySem.W.Frag} {H : Hp} {a : Addr} {ns : List Int} (h : SqL K H a (ns.map V.int)) : rL K rI H ns (.ref a) := ⟨a, _, rfl, h, pI' ns⟩

/-! ### steps one by one -/
section
variable {α : Type} {K : PySem.W.Frag} {H : Hp} {σ : L2.St} {ta tb te : TE} {t u : TT} {R : Rp α} {x : α} {D : Ends} {tu tw tz : TS} {j : Nat}
theorem q_asg0 (h : te σ H fun x H1 => tz D (σ.set j (some x)) H1) : tSeq (tAsg te (gName j)) tz D σ H := h
theorem s_asg0 (h : te σ H fun x H1 => D.nx (σ.set j (some x)) H1) : tAsg te (gName j) D σ H := h
theorem q_if0 (h : t σ H fun b H1 => if b = true then tu { D with nx := tz D } σ H1 else tw { D with nx := tz D } σ H1) : tSeq (tIfS t tu tw) tz D σ H := h
theorem q_when0 (h : t σ H fun b H1 => if b = true then tu { D with nx := tz D } σ H1 else tz D σ H1) : tSeq (tIfS t tu tNext) tz D σ H := h
theorem s_when0 (h : t σ H fun b H1 => if b = true then tu D σ H1 else D.nx σ H1) : tIfS t tu tNext D σ H := h
theorem q_for0 {wi : TI} {g : TG} (h : wi σ H fun J H1 => Fl J g tu { D with nx := tz D } σ H1) : tSeq (tFor wi g tu) tz D σ H := h
theorem s_for0 {wi : TI} {g : TG} (h : wi σ H fun J H1 => Fl J g tu D σ H1) : tFor wi g tu D σ H := h
theorem q_drop0 (h : te σ H fun _ H1 => tz D σ H1) : tSeq (tDrop te) tz D σ H := h
theorem go_call1 {sp : Sp} {E : XK} {Q : VK} (h : ta σ H fun x H1 => sp [x] H1 Q E) : tCall sp [] E (tCons ta tNil) σ H Q := h
theorem go_call2 {sp : Sp} {E : XK} {Q : VK} (h : ta σ H fun x H1 => tb σ H1 fun y H2 => sp [x, y] H2 Q E) : tCall sp [] E (tCons ta (tCons tb tNil)) σ H Q := h
theorem go_call3 {sp : Sp} {E : XK} {Q : VK} {tc : TE} (h : ta σ H fun x H1 => tb σ H1 fun y H2 => tc σ H2 fun z H3 => sp [x, y, z] H3 Q E) : tCall sp [] E (tCons ta (tCons tb (tCons tc tNil))) σ H Q := h
theorem go_not {Q : Bool → Hp → Prop} (h : t σ H fun b H1 => Q (!b) H1) : tNot t σ H Q := h
theorem go_tB {Q : Bool → Hp → Prop} (h : te σ H fun x H1 => ∃ c, x = .bl c ∧ Q c H1) : tB te σ H Q := h
theorem go_tT {Q : Bool → Hp → Prop} (h : te σ H fun x H1 => ∃ c, x = .bl c ∧ Q c H1) : tTest te σ H Q := h
theorem go_var {Q : VK} {i : Nat} {v : V} (h : σ[i]? = some (some v)) (k : Q v H) : tVar i σ H Q := ⟨v, h, k⟩
theorem go_op {r : R2} {Q : VK} (h : ta σ H fun x H1 => tb σ H1 fun y H2 => r x y H2 Q) : tOp r ta tb σ H Q := h
theorem go_ixL [Me R] {Q : VK} {p : Addr} {xs : List α} {i : Int} (l : Lt R H p xs) (h1 : -(xs.length : Int) ≤ i) (h2 : i < xs.length) (d : α) (k : ∀ v, R H (gt0 d xs i) v → Q v H) : rIxL K (.ref p) (.int i) H Q := by
  obtain ⟨vs, e1, e2⟩ := l
  obtain ⟨u, hu, ru⟩ := paired_get e2 (gt0_some (d := d) h1 h2)
  have hl := paired_len e2
  rw [hl] at h1 h2 hu
  exact ⟨p, vs, i, u, rfl, rfl, SqL.of e1, atI_ixs h1 h2 hu, k u ru⟩
theorem er_isI {i : Int} (h : Er rI ta σ H i) : Er rB (tCB (rIsi K) (tCons ta (tCons (tC (.ty "int")) tNil))) σ H true := fun H1 e Q q =>
  h H1 e _ fun v H2 e2 r => by
    cases r
    exact ⟨_, _, _, _, true, rfl, .ty "int", .base (.int i), kit_ty (show kitB "int" "int" = some true by decide +kernel), q _ H2 e2 rfl⟩
theorem er_isIb {i : Int} (h : Er rI ta σ H i) : Er rB (tCB (rIsi K) (tCons ta (tCons (tC (.ty "bool")) tNil))) σ H false := fun H1 e Q q =>
  h H1 e _ fun v H2 e2 r => by
    cases r
    exact ⟨_, _, _, _, false, rfl, .ty "bool", .base (.int i), kit_ty (show kitB "int" "bool" = some false by decide +kernel), q _ H2 e2 rfl⟩
theorem er_chain {g g' : Int → Int → Bool} {a b c : Int} {tc : TE} (ha : Er rI ta σ H a) (hb : Er rI tb σ H b) (hc : Er rI tc σ H c) : Er rB (tChain (rI0 fun i j => V.bl (g i j)) (rI0 fun i j => V.bl (g' i j)) ta tb tc) σ H (g a b && g' b c) := fun H1 e Q q =>
  ha H1 e _ fun v H2 e2 r1 => hb H2 (e.trans e2) _ fun u H3 e3 r2 => by
    cases r1
    cases r2
    refine ⟨a, b, rfl, rfl, g a b, rfl, ?_⟩
    cases hg : g a b with
    | true => exact hc H3 ((e.trans e2).trans e3) _ fun w H4 e4 r3 => ⟨b, c, rfl, r3, q _ H4 ((e2.trans e3).trans e4) (by rw [hg]; rfl)⟩
    | false => exact q _ H3 (e2.trans e3) (by rw [hg]; rfl)
/-- a way that can't be -/
theorem q_not {b : Bool} (h : Et t σ H b) (hb : b = false) (k : ∀ H1, Ex H H1 → tz D σ H1) : tSeq (tIfS t tu tNext) tz D σ H := q_when h (fun z => by rw [hb] at z; cases z) fun _ H1 e => k H1 e
theorem s_not {b : Bool} (h : Et t σ H b) (hb : b = false) (k : ∀ H1, Ex H H1 → D.nx σ H1) : tIfS t tu tNext D σ H := s_when h (fun z => by rw [hb] at z; cases z) fun _ H1 e => k H1 e
/-- a reading of which something is known -/
theorem pss_ex {X : Cx} {st : List Stmt} {ι : Type} {P : ι → Prop} {t : ι → TS} (h : ∀ z, P z → PSs X st (t z)) : PSs X st (fun D σ H => ∃ z, P z ∧ t z D σ H) :=
  ⟨fun pins s σ H D I ⟨z, hz, q⟩ => (h z hz).run pins s σ H D I q⟩
end

/-! ### kinds of errors -/
theorem kit_self {K : PySem.W.Frag} {C : Addr} : PySem.W.kitOne K (.ref C) (.ref C) = some true := by
  unfold PySem.W.kitOne
  rw [if_pos (by simp)]
theorem kit_base {K : PySem.W.Frag} {C : Addr} {T : String} {b : Bool} (h : PySem.W.subIn K (.ref C) (.type T) = some b) (hm : PySem.W.kitMeta T = true) : PySem.W.kitOne K (.ref C) (.type T) = some b := by
  unfold PySem.W.kitOne
  rw [if_neg (by intro z; cases (eq_of_beq z))]
  show (if PySem.W.kitMeta T = true then PySem.W.subIn K (.ref C) (.type T) else none) = some b
  rw [if_pos hm, h]
theorem kit_own {K : PySem.W.Frag} {C D : Addr} {b : Bool} (hne : C ≠ D) (h1 : PySem.W.isClsIn K D = true) (h2 : PySem.W.typeIn K (.ref D) = some (.type "type")) (h : PySem.W.subIn K (.ref C) (.ref D) = some b) : PySem.W.kitOne K (.ref C) (.ref D) = some b := by
  unfold PySem.W.kitOne
  rw [if_neg (by intro z; exact hne (Value.ref.inj (eq_of_beq z)))]
  show (if ((PySem.W.clsIn K D).isSome && PySem.W.typeIn K (.ref D) == some (.type "type")) = true then PySem.W.subIn K (.ref C) (.ref D) else none) = some b
  have e : (PySem.W.clsIn K D).isSome = true := h1
  rw [e, h2, h]
  rfl
end Dg

set_option maxRecDepth 100000
set_option maxHeartbeats 4000000
namespace PySem
set_option maxRecDepth 100000
set_option maxHeartbeats 1000000 in
theorem meets_enumerate_newB1 {v : Value} {o : Obj} {H : Heap → Prop} (B : Begins v o H) :
    Meets (Builtin.«enumerate.__new__» ⟨[.type "enumerate", v], []⟩) (fun _ R s => H s.heap ∧
      R (.ok (.ret (.ref (s.heap.push o).objs.size))) { s with heap := (s.heap.push o).push { cls := .type "enumerate", data := .fields #[.none, .bool false, .ref s.heap.objs.size, rawInt 0, .none, .none] } }) :=
  .of_wp fun prog w A R s h => by
    obtain ⟨hp, g, d, tk, os⟩ := s; obtain ⟨h1, h⟩ := h
    have hsub := sub_enumerate
    have q1 : ∀ {A' : Around} {E : Value → Shared → Prop} {Q : Value → Shared → Prop}, Q (.ref hp.objs.size) ⟨hp.push o, g, d, tk, os⟩ → wpAny (model prog w) A' (pyIter v) Q E ⟨hp, g, d, tk, os⟩ :=
      fun q => B.iter prog w _ _ ⟨hp, g, d, tk, os⟩ _ h1 q
    wp_walk using q1
    refine wpAny_stack_any fun st => wpAny_pure ?_
    split
    · rename_i c _ _ _ _ _
      cases (c == Value.type "enumerate")
      · wp_walk using q1
        exact ⟨_, rfl, h⟩
      · wp_walk using q1
        exact ⟨_, rfl, h⟩
    · wp_walk using q1
      exact ⟨_, rfl, h⟩
theorem enum_begins1 {prog : Program} {w : World} {A : Around} {E : Value → Shared → Prop} {s : Shared} {v : Value} {o : Obj} {H : Heap → Prop} {Q : Value → Shared → Prop} (B : Begins v o H) (h1 : H s.heap)
    (h : ∀ h', IsEnum h' (s.heap.objs.size + 1) s.heap.objs.size 0 .none → h'.get? s.heap.objs.size = some o → h'.objs.size = s.heap.objs.size + 2 →
      (∀ b o, s.heap.get? b = some o → h'.get? b = some o) → Q (.ref (s.heap.objs.size + 1)) { s with heap := h' }) :
    wpAny (model prog w) A (call (.type "enumerate") [v]) Q E s := by
  refine callType_new F.called_enumerate (by decide) (F.typeCall_enumerate_1 _) (F.newCall_enumerate_1 _) (fun obj => F.args_object_init_2 obj _) F.entry_enumerate_new
    (meets_enumerate_newB1 B) ⟨h1, ?_⟩
  have hz : (s.heap.push o).objs.size = s.heap.objs.size + 1 := Heap.size_push ..
  show _ ∧ _
  rw [hz]
  have he : IsEnum ((s.heap.push o).push { cls := .type "enumerate", data := .fields #[.none, .bool false, .ref s.heap.objs.size, rawInt 0, .none, .none] }) (s.heap.objs.size + 1) s.heap.objs.size 0 .none := by
    have := Heap.get?_push_size (s.heap.push o) (o := { cls := .type "enumerate", data := .fields #[.none, .bool false, .ref s.heap.objs.size, rawInt 0, .none, .none] }) rfl
    rw [hz] at this; exact this
  refine ⟨⟨_, he, rfl⟩, h _ he (Heap.get?_push_of_some _ (Heap.get?_push_size _ B.free)) (by rw [Heap.size_push, hz]) fun b o x => Heap.get?_push_of_some _ (Heap.get?_push_of_some _ x)⟩
end PySem
namespace Dg
open PySem PySem.Spec PyProof.Rows L2 Evl
/-! ### enumerate(tuple) -/
def IteT (K : PySem.W.Frag) (a : Addr) : It :=
  ⟨fun i H => ∃ (xs : List V) (x : V), SqT K H a xs ∧ xs[i]? = some x, fun i H v H' => ∃ T x, v = .ref T ∧ H T = none ∧ H' = upd H T (.tup [.int (i : Nat), x]) ∧ ∀ xs, SqT K H a xs → xs[i]? = some x, fun i H => ∃ xs : List V, SqT K H a xs ∧ xs.length ≤ i⟩
theorem tup_ne_iter {h : Heap} {a it : Addr} {i : Nat} {its : Array Value} (p : IsTup h a its) (q : h.IsTupleIter it a i) : a ≠ it := by
  rintro rfl
  obtain ⟨o, ho, hc, _⟩ := q
  obtain ⟨o', ho', hc', _⟩ := p
  rw [ho] at ho'
  cases ho'
  rw [hc] at hc'
  exact absurd (Value.type.inj hc') (by decide)
theorem enum_ne_tup {h : Heap} {a e it : Addr} {i : Int} {old : Value} {its : Array Value} (p : IsTup h a its) (q : IsEnum h e it i old) : e ≠ a := by
  rintro rfl
  obtain ⟨o', ho', hc', _⟩ := p
  have q' : h.get? e = some _ := q
  rw [q'] at ho'
  cases ho'
  exact absurd (Value.type.inj hc') (by decide)
theorem turn_enumT {P : Program} {w : World} {K : PySem.W.Frag} {elts : List Expr} {kk : Nat} {tpos : Pos} (a e it : Addr) :
    Turn P w K (.Tuple elts kk tpos) (IteT K a) [e, it] e (fun i h => (∃ old, IsEnum h e it ((i : Nat) : Int) old) ∧ h.IsTupleIter it a i ∧ e ≠ it) where
  mem := by simp
  obj := fun i h st b hb => by
    obtain ⟨⟨old, he⟩, ⟨o, ho, hc, hd⟩, _⟩ := st
    have e' : b = e ∨ b = it := by simpa using hb
    rcases e' with z | z
    · rw [z]; exact ⟨_, he, fun v q => nomatch q⟩
    · rw [z]; exact ⟨o, ho, fun v q => by rw [hd] at q; cases q⟩
  keep := fun i h h' st k => let ⟨⟨old, he⟩, hi, hne⟩ := st; ⟨⟨old, k e (by simp) _ he⟩, hi.at fun o q => k it (by simp) o q, hne⟩
  item := by
    intro X hP hw hK hc i pins s σ H E I hf st hg
    subst hP hw hK
    obtain ⟨⟨old, he⟩, hit, hne⟩ := st
    obtain ⟨xs, x, hq, hx⟩ := hg
    obtain ⟨its, rv, p, hz⟩ := I.tuple hq
    obtain ⟨u, hu, ru⟩ := rv.get hx
    have hel : e < s.heap.objs.size := Heap.lt_size he
    have hil : it < s.heap.objs.size := by obtain ⟨_, q, _⟩ := hit; exact Heap.lt_size q
    have hai := tup_ne_iter p hit
    have hea := enum_ne_tup p he
    have hlt : i < its.toArray.size := by
      have := List.getElem?_eq_some_iff.mp hu
      simpa using this.1
    refine wpAny_pyNext_enum_itemD (Draws.tuple (A := X.A.in1) (I.ok.hd hc) it a hai its.toArray) he ⟨hit, p⟩ hlt hne (by simp; exact ⟨hne, hea⟩) fun x' h' tk hx' ho hit' hT hsz hk => ?_
    have ex : x' = u := by
      have hx2 : its.toArray[i]? = some x' := hx'
      have hu2 : its.toArray[i]? = some u := by simpa using hu
      rw [hu2] at hx2
      exact (Option.some.inj hx2).symm
    subst ex
    refine ⟨_, rfl, wpAny_letOwnedTupleGo_enum (s := { s with heap := h', toks := tk + 1 }) ho fun h'' he' sb => ?_⟩
    have hT2 : h''.get? s.heap.objs.size = some { cls := .type "tuple", data := .seq #[.int i tk, x'] } := (sb.2 _ (Nat.ne_of_gt hel)).trans hT
    have new : ObjOk X.prog X.w (upd H s.heap.objs.size (.tup [.int (i : Nat), x])) h'' s.heap.objs.size (.tup [.int (i : Nat), x]) :=
      ⟨by show 2 ≤ sizeLine; decide, [.int i tk, x'], .cons ⟨_, rfl⟩ (.cons ru .nil), ⟨_, hT2, rfl, _, rfl⟩⟩
    have I1 : Inv X pins σ (upd H s.heap.objs.size (.tup [.int (i : Nat), x])) { s with heap := h'', toks := tk + 1 } :=
      I.turnedNew (ch := [e, it]) (fun b ob hb q => (sb.2 b (fun z => hb (by simp [z]))).trans (hk b ob (fun z => hb (by simp [z])) (fun z => hb (by simp [z])) q)) hf (Nat.le_refl _) new
    refine ⟨.ref s.heap.objs.size, _, I1, rfl, ⟨_, x, rfl, I.hok.fresh (Nat.le_refl _), rfl, fun ys hy => by rw [I.tuple_inj hy hq]; exact hx⟩, ⟨⟨x', ?_⟩, hit'.1.at fun o q => (sb.2 it (Ne.symm hne)).trans q, hne⟩, fun b hb => ?_⟩
    · have e1 : ((i + 1 : Nat) : Int) = (i : Int) + 1 := by omega
      rw [e1]; exact he'
    · have hb' : b < s.heap.objs.size := by
        have e' : b = e ∨ b = it := by simpa using hb
        rcases e' with z | z
        · rw [z]; exact hel
        · rw [z]; exact hil
      rw [upd_ne (Nat.ne_of_lt hb')]
      exact (hf b hb).1
  done := by
    intro X hP hw hK hc i pins s σ H E I hf st hg
    subst hP hw hK
    obtain ⟨⟨old, he⟩, hit, hne⟩ := st
    obtain ⟨xs, hq, hx⟩ := hg
    obtain ⟨its, rv, p, hz⟩ := I.tuple hq
    obtain ⟨f0, f1, f2, f3, f4, f5⟩ := hf it (by simp)
    have hl := rv.length
    have hT : s.TypeIs (.ref e) "enumerate" := ⟨_, he, rfl⟩
    unfold pyNext
    refine wpAny_bind (wpAny_attempt (wpAny_callSpecial?_slot (name := Str.ofString "__next__") hT F.slot_enumerate_next
      (wpAny_call_entry F.slot_enumerate_next hT F.entry_enumerate_next ?_ (F.args_enumerate_next_1 _))))
    show wpAny _ _ (field (.ref e) 2 >>= _) _ _ _
    refine wpAny_bind (wpAny_field he rfl (x := .ref it) rfl ?_)
    refine wpAny_bind (wpAny_nextOf_tuple_end (A := X.A.in1) (I.ok.hd hc) hit p (by simp; omega) fun h' x he' hx' => ?_)
    obtain ⟨o, ho, hcl⟩ := hx'
    refine wpAny_bind (wpAny_isInstance (T := "StopIteration") (b := true) ⟨o, ho, hcl⟩ isSubtype_stop ?_)
    exact wpAny_pure ⟨rfl, I.turned (t' := s.toks) (fun b o hb q => he' b o hb q) f0 f1 f3 f4 f5⟩
  self := fun A i s Q E st h => let ⟨⟨_, he⟩, _⟩ := st; wpAny_pyIter_enum he h
def iEnumT (K : PySem.W.Frag) (ta : TA) : TI := fun σ H R => ta σ H fun vs H1 => ∃ a xs, vs = [.ref a] ∧ SqT K H1 a xs ∧ R (IteT K a) H1
theorem pi_enumT {X : Cx} {e : Expr} {ta : TA} {p pos tpos : Pos} {elts : List Expr} {kk : Nat} (hg : Gl X "enumerate") (hm : X.mg "enumerate" = none) (ha : PA X [e] ta) (hs : starEach [e] X.env = [(false, eval e X.env)] := by rfl) :
    PI X (.Tuple elts kk tpos) (.Call (.Name "enumerate" p) [e] [] pos) (iEnumT X.K ta) := by
  refine ⟨fun pins s σ H R I h => ?_⟩
  refine Call_ (ld_blt I hg hm boot_enumerate (PyProof.Rows.callWith_type1 (thn (ha.run pos pins s σ H _ I h) fun us s1 ⟨vs, H1, I1, r1, q1⟩ => ?_) hs rfl))
  obtain ⟨a, xs, ex, hq, q⟩ := q1
  subst ex
  cases r1 with
  | cons r rr =>
    cases rr
    cases r
    obtain ⟨its, rv, p', hz⟩ := I1.tuple hq
    refine enum_begins1 (begins_tuple a its.toArray) p' fun h' he hit hsz hk => wpAny_pyIter_enum he ?_
    have I2 : Inv X pins σ H1 { s1 with heap := h' } := I1.kept (t' := s1.toks) hk
    refine ⟨s1.heap.objs.size + 1, [s1.heap.objs.size + 1, s1.heap.objs.size], _, _, H1, rfl, I2, turn_enumT a (s1.heap.objs.size + 1) s1.heap.objs.size, ⟨⟨.none, he⟩, ⟨_, hit, rfl, rfl⟩, Nat.succ_ne_self _⟩, fun b hb => ?_, q⟩
    have e' : b = s1.heap.objs.size + 1 ∨ b = s1.heap.objs.size := by simpa using hb
    have hle : s1.heap.objs.size ≤ b := by
      rcases e' with z | z
      · rw [z]; exact Nat.le_add_right _ _
      · rw [z]; exact Nat.le_refl _
    exact I1.fpOk hle (I1.hok.fresh hle)
theorem pi_enumTK {X : Cx} {e : Expr} {ta : TA} {p pos : Pos} (K : PySem.W.Frag) {tpos : Pos} {elts : List Expr} {kk : Nat} (hg : Gl X "enumerate") (hm : X.mg "enumerate" = none) (ha : PA X [e] ta) (h : X.K = K := by rfl) (hs : starEach [e] X.env = [(false, eval e X.env)] := by rfl) :
    PI X (.Tuple elts kk tpos) (.Call (.Name "enumerate" p) [e] [] pos) (iEnumT K ta) := by subst h; exact pi_enumT hg hm ha hs

/-! ### tuple * int -/
end Dg
namespace PySem
set_option maxRecDepth 100000
set_option maxHeartbeats 1000000
theorem tuple_mulS (l : Addr) (items : Array Value) (n : Nat) (dd : Option Addr) (sl : Array (Option Value)) (x : Int) (u : Tok) (c0 : (decide (x < -(2 ^ 63)) || decide (x ≥ 2 ^ 63)) = false) (c1 : (items.isEmpty || x == 1) = true) :
    Meets (Builtin.«tuple.__mul__» ⟨[.ref l, .int x u], []⟩) (fun _ R s => s.heap.get? l = some { cls := .type "tuple", dict := dd, data := .seq items n, slots := sl } ∧ R (.ok (.ret (Value.ref l))) s) :=
  .of_wp fun prog w A R s h => by
    obtain ⟨hp, g, d, tk, os⟩ := s
    obtain ⟨hl, h⟩ := h
    have f1 := AutoSeq1.idx_int
    wp_walk using AutoSeq1.wpAny_loadPart' hl
    repeat (first
      | (refine wpAny_ite_false (decide_eq_false (by rw [c0]; exact Bool.false_ne_true)) ?_; wp_walk using AutoSeq1.wpAny_loadPart' hl)
      | (refine wpAny_ite_true (decide_eq_true (by exact c1)) ?_; wp_walk using AutoSeq1.wpAny_loadPart' hl))
    exact ⟨_, rfl, h⟩
theorem tuple_mul0 (l : Addr) (items : Array Value) (n : Nat) (dd : Option Addr) (sl : Array (Option Value)) (x : Int) (u : Tok) (c0 : (decide (x < -(2 ^ 63)) || decide (x ≥ 2 ^ 63)) = false) (c1 : (items.isEmpty || x == 1) = false) (c2 : (decide (x ≤ 0) || items.isEmpty) = true) :
    Meets (Builtin.«tuple.__mul__» ⟨[.ref l, .int x u], []⟩) (fun _ R s => s.heap.get? l = some { cls := .type "tuple", dict := dd, data := .seq items n, slots := sl } ∧
      R (.ok (.ret (Value.ref s.heap.objs.size))) { s with heap := s.heap.push { cls := Value.type "tuple", data := Data.seq #[] }, toks := s.toks }) :=
  .of_wp fun prog w A R s h => by
    obtain ⟨hp, g, d, tk, os⟩ := s
    obtain ⟨hl, h⟩ := h
    have f1 := AutoSeq1.idx_int
    wp_walk using AutoSeq1.wpAny_loadPart' hl
    repeat (first
      | (refine wpAny_ite_false (decide_eq_false (by rw [c0]; exact Bool.false_ne_true)) ?_; wp_walk using AutoSeq1.wpAny_loadPart' hl)
      | (refine wpAny_ite_false (decide_eq_false (by rw [c1]; exact Bool.false_ne_true)) ?_; wp_walk using AutoSeq1.wpAny_loadPart' hl)
      | (refine wpAny_ite_true (decide_eq_true (by exact c2)) ?_; wp_walk using AutoSeq1.wpAny_loadPart' hl))
    exact ⟨_, rfl, h⟩
end PySem
namespace Dg
open PySem PySem.Spec PyProof.Rows L2 Evl
section
variable {X : Cx}
def rRepTA (K : PySem.W.Frag) : R2 := fun x y H Q => ∃ l k xs, x = .ref l ∧ y = .int k ∧ SqT K H l xs ∧ -1000000 ≤ k ∧ k ≤ 1000 ∧ xs.length ≤ 1000 ∧
  (xs = [] ∨ k = 1 → Q (.ref l) H) ∧ (xs ≠ [] → k ≠ 1 → ∀ p, H p = none → Q (.ref p) (upd H p (.tup (List.replicate k.toNat xs).flatten)))
theorem op_repTA : OpR X (binaryOp .Mult) (rRepTA X.K) := by
  intro pins s σ H x y v u Q I rx ry h
  obtain ⟨l, k, xs, rfl, rfl, hT, h0, h1, hz, q1, q2⟩ := h
  by_cases hs : xs = [] ∨ k = 1
  · cases rx
    obtain ⟨t, rfl⟩ := ry
    obtain ⟨its, r, ⟨⟨cls, dd, data, sl⟩, ho, hc, n, hd⟩, hz'⟩ := I.tuple hT
    simp only at hc hd
    subst hc hd
    have c0 : (decide (k < -(2 ^ 63)) || decide (k ≥ 2 ^ 63)) = false := by
      rw [decide_eq_false (by omega), decide_eq_false (by omega)] <;> rfl
    have c1 : (its.toArray.isEmpty || k == 1) = true := by
      rcases hs with hs | hs
      · subst hs
        cases r
        rfl
      · rw [hs, Bool.or_eq_true]
        exact .inr rfl
    exact wpAny_binaryOp_repeat_ref (T := "tuple") (U := "int") (by decide) ⟨_, ho, rfl⟩ (fun s' => typeIs_int s' k t) noFill_tuple_mul F.fills_int_mul F.slot_int_rmul repeat_tuple F.slot_int_index.lookup
      (call_meets F.slot_int_rmul (typeIs_int s k t) F.entry_int_rmul (F.args_int_rmul_2 _ _) (int_rmul_tuple k t l its.toArray n dd sl)
        ⟨ho, rfl, ⟨_, ho, rfl⟩, call_meets F.slot_tuple_mul ⟨_, ho, rfl⟩ F.entry_tuple_mul (F.args_tuple_mul_2 _ _) (tuple_mulS l its.toArray n dd sl k t c0 c1) ⟨ho, ⟨.ref l, H, I, rfl, q1 hs⟩⟩⟩)
  · have hne : xs ≠ [] := fun z => hs (.inl z)
    have hk1 : k ≠ 1 := fun z => hs (.inr z)
    by_cases h2 : 2 ≤ k
    · exact op_repT pins s σ H _ _ v u Q I rx ry ⟨l, k, xs, rfl, rfl, hT, hne, h2, h1, hz, q2 hne hk1⟩
    · cases rx
      obtain ⟨t, rfl⟩ := ry
      obtain ⟨its, r, ⟨⟨cls, dd, data, sl⟩, ho, hc, n, hd⟩, hz'⟩ := I.tuple hT
      simp only at hc hd
      subst hc hd
      have c0 : (decide (k < -(2 ^ 63)) || decide (k ≥ 2 ^ 63)) = false := by
        rw [decide_eq_false (by omega), decide_eq_false (by omega)] <;> rfl
      have hi : its.toArray.isEmpty = false := by
        cases its with
        | nil => cases r; exact absurd rfl hne
        | cons a b => rfl
      have c1 : (its.toArray.isEmpty || k == 1) = false := by
        rw [hi, Bool.false_or]
        exact beq_eq_false_iff_ne.mpr hk1
      have c2 : (decide (k ≤ 0) || its.toArray.isEmpty) = true := by
        rw [decide_eq_true (show k ≤ 0 by omega)] <;> rfl
      refine wpAny_binaryOp_repeat_ref (T := "tuple") (U := "int") (by decide) ⟨_, ho, rfl⟩ (fun s' => typeIs_int s' k t) noFill_tuple_mul F.fills_int_mul F.slot_int_rmul repeat_tuple F.slot_int_index.lookup
        (call_meets F.slot_int_rmul (typeIs_int s k t) F.entry_int_rmul (F.args_int_rmul_2 _ _) (int_rmul_tuple k t l its.toArray n dd sl)
          ⟨ho, rfl, ⟨_, ho, rfl⟩, call_meets F.slot_tuple_mul ⟨_, ho, rfl⟩ F.entry_tuple_mul (F.args_tuple_mul_2 _ _) (tuple_mul0 l its.toArray n dd sl k t c0 c1 c2) ⟨ho, ?_⟩⟩)
      have ek : k.toNat = 0 := by omega
      have q3 := q2 hne hk1 _ (I.hok.fresh (Nat.le_refl _))
      rw [ek] at q3
      refine ⟨.ref s.heap.objs.size, _, I.laid (t' := s.toks) (o := .tup []) (fun b ob q => Heap.get?_push_of_some _ q) (Nat.le_refl _) ⟨Nat.zero_le _, [], .nil, IsTup.new _ _⟩, rfl, q3⟩
theorem op_repTAK (K : PySem.W.Frag) (h : X.K = K := by rfl) : OpR X (binaryOp .Mult) (rRepTA K) := by subst h; exact op_repTA
end
section
variable {α : Type} {K : PySem.W.Frag} {H : Hp} {σ : L2.St} {ta tb te tl : TE} {R : Rp α}
theorem repL_one (x : α) (k : Int) : repL [x] k = List.replicate k.toNat x := by
  unfold repL
  induction k.toNat with
  | zero => rfl
  | succ n ih => rw [List.replicate_succ, List.flatten_cons, ih, List.replicate_succ]; rfl
theorem er_repT [Me R] {xs : List α} {k : Int} (ha : Er (rT K R) ta σ H xs) (hb : Er rI tb σ H k) (h0 : -1000000 ≤ k ∧ k ≤ 1000) (hl : xs.length ≤ 1000) : Er (rT K R) (tOp (rRepTA K) ta tb) σ H (repL xs k) := fun H1 e Q q =>
  ha H1 e _ fun v H2 e2 r1 => hb H2 (e.trans e2) _ fun w H3 e3 r2 => by
    cases r2
    obtain ⟨a, vs, rfl, h1, h2⟩ := r1
    refine ⟨a, k, vs, rfl, rfl, ex_t e3 h1, h0.1, h0.2, by rw [← paired_len h2]; exact hl, fun z => ?_, fun _ _ p np => ?_⟩
    · refine q _ H3 (e2.trans e3) ⟨a, vs, rfl, ex_t e3 h1, ?_⟩
      rcases z with z | z
      · subst z
        cases h2
        unfold repL
        simp
        exact .nil
      · subst z
        unfold repL
        simp
        exact pm h2 fun _ _ z => Me.ex e3 z
    · exact q _ _ ((e2.trans e3).trans (Ex.new np)) ⟨p, _, rfl, SqT.of upd_same, paired_flat (pm h2 fun _ _ z => Me.ex (e3.trans (Ex.new np)) z) k.toNat⟩
end
/-! ### max with a default -/
theorem holdI {h : Heap} : ∀ {us : List Value} {ns : List Int}, IntsAre us ns → ReadsAll h us (ns.map PySem.W.Datum.toD) ((ns.map fun _ => []).flatten)
  | [], [], .nil => ReadsAll.nil
  | _ :: _, n :: ns, .cons _ k r => by
    show ReadsAll h _ _ ([] ++ (ns.map fun _ => []).flatten)
    exact ReadsAll.cons (Reads.int n k) (holdI r)
def mxI (x : Int) (xs : List Int) : Int := xs.foldl (fun a b => if a < b then b else a) x
def mxD (d : Int) : List Int → Int
  | [] => d
  | x :: xs => mxI x xs
theorem mxI_eq (x : Int) (xs : List Int) : PySem.W.maxOf x xs = mxI x xs := by
  unfold PySem.W.maxOf mxI
  congr 1
  funext a y
  show (if PySem.W.DatumOrd.lt a y = true then y else a) = _
  show (if decide (a < y) = true then y else a) = _
  simp only [decide_eq_true_eq]
theorem mxI_le : ∀ (xs : List Int) (x : Int), x ≤ mxI x xs ∧ ∀ y ∈ xs, y ≤ mxI x xs
  | [], x => ⟨Int.le_refl _, fun _ h => nomatch h⟩
  | z :: xs, x => by
    have h := mxI_le xs (if x < z then z else x)
    have e : mxI x (z :: xs) = mxI (if x < z then z else x) xs := rfl
    rw [e]
    refine ⟨?_, fun y hy => ?_⟩
    · have := h.1
      split at this <;> split <;> omega
    · rcases List.mem_cons.mp hy with hy | hy
      · subst hy
        have := h.1
        split at this <;> split <;> omega
      · exact h.2 y hy
theorem mxI_mem : ∀ (xs : List Int) (x : Int), mxI x xs = x ∨ mxI x xs ∈ xs
  | [], x => .inl rfl
  | z :: xs, x => by
    have e : mxI x (z :: xs) = mxI (if x < z then z else x) xs := rfl
    rw [e]
    rcases mxI_mem xs (if x < z then z else x) with h | h
    · rw [h]
      split
      · exact .inr (List.mem_cons_self ..)
      · exact .inl rfl
    · exact .inr (List.mem_cons_of_mem _ h)
section
variable {X : Cx} {e d : Expr} {te td : TE} {x : Str} {p pos kpos : Pos}
def tMaxd (K : PySem.W.Frag) (ta tk : TA) : TE := fun σ H Q => ta σ H fun vs H1 => tk σ H1 fun ws H2 => ∃ (a : Addr) (ns : List Int) (k : Int), vs = [.ref a] ∧ ws = [.int k] ∧ SqL K H2 a (ns.map V.int) ∧ Q (.int (mxD k ns)) H2
theorem pe_maxd (hg : Gl X "max") (hm : X.mg "max" = none) (hb : bootBuiltins "max" = some (.builtin "max")) (hu : X.A.units + 64 < cLine) (hc : X.calm = true) (he : PE X e te) (hd : PE X d td)
    (hs : starEach [e] X.env = (false, eval e X.env) :: starEach [] X.env := by rfl) : PE X (.Call (.Name "max" p) [e] [⟨some "default", d, kpos⟩] pos) (tMaxd X.K (tCons te tNil) (tCons td tNil)) := by
  refine ⟨fun pins s σ H Q I h => ?_⟩
  refine wpAny_Call_Name_kw (ld_blt I hg hm hb ?_)
  refine PyProof.Rows.callWith_kw ?_ (by rw [hs]; rfl) (by rw [hs]; rfl)
  refine thn ((pa_cons he pa_nil hs).run pos pins s σ H _ I h) fun us s1 ⟨vs, H1, I1, r1, q1⟩ => ?_
  refine thn ((pk_cons (nm := some "default") (kpos := kpos) hd pk_nil).run pos pins s1 σ H1 _ I1 q1) fun ws s2 ⟨zs, H2, I2, rz, a, ns, k, e1, e2, hL, q2⟩ => ?_
  subst e1 e2
  obtain ⟨its, rv, hl, _⟩ := I2.list hL
  rw [Vals.ref1 r1]
  cases rz with
  | cons r rr =>
    cases rr
    obtain ⟨t, rfl⟩ := r
    refine PySem.W.max_list_datum_default (xs := ns) (I2.ok.hd hc) hl.isList ⟨_, holdI rv.ints⟩ (by show X.A.units + 1 + 0 < cLine; omega) (fun e h' tk hk => ?_) fun y ys i v h' tk e hi hv hk => ?_
    · subst e
      exact ⟨.int k, H2, I2.kept hk, ⟨_, rfl⟩, q2⟩
    · subst e
      obtain ⟨as, rd⟩ := hv
      rw [mxI_eq] at rd
      cases rd
      exact ⟨.int _, H2, I2.kept hk, ⟨_, rfl⟩, q2⟩
theorem pe_maxdK (K : PySem.W.Frag) (hg : Gl X "max") (hm : X.mg "max" = none) (hb : bootBuiltins "max" = some (.builtin "max")) (hu : X.A.units + 64 < cLine) (hc : X.calm = true) (he : PE X e te) (hd : PE X d td) (h : X.K = K := by rfl)
    (hs : starEach [e] X.env = (false, eval e X.env) :: starEach [] X.env := by rfl) : PE X (.Call (.Name "max" p) [e] [⟨some "default", d, kpos⟩] pos) (tMaxd K (tCons te tNil) (tCons td tNil)) := by subst h; exact pe_maxd hg hm hb hu hc he hd hs
end
section
variable {K : PySem.W.Frag} {H : Hp} {σ : L2.St} {ta tb te tl : TE}
theorem er_maxd {xs : List Int} {k : Int} (ha : Er (rL K rI) ta σ H xs) (hb : Er rI tb σ H k) : Er rI (tMaxd K (tCons ta tNil) (tCons tb tNil)) σ H (mxD k xs) := fun H1 e Q q =>
  ha H1 e _ fun v H2 e2 r1 => hb H2 (e.trans e2) _ fun w H3 e3 r2 => by
    cases r2
    obtain ⟨a, vs, rfl, h1, h2⟩ := r1
    have e4 := pI h2
    subst e4
    exact ⟨a, xs, k, rfl, rfl, ex_l e3 h1, q _ H3 (e2.trans e3) rfl⟩
end
/-! ### data compared -/
class Rd {α : Type} (K : PySem.W.Frag) (R : Rp α) where
  to : α → PyData
  dep : Nat
  dp : ∀ {H : Hp} {x : α} {v : V}, R H x v → Dp K H v (to x)
  lay : ∀ x, (to x).canLay0 = true
  dle : ∀ x, (to x).depth ≤ dep
  eqv : ∀ x y, (PyData.eqv (to x) (to y) = true) ↔ x = y
section
variable {α β : Type} {K : PySem.W.Frag}
instance : Rd K rI where
  to := .int
  dep := 0
  dp h := by cases h; exact .int _
  lay _ := by simp only [PyData.canLay0]
  dle _ := by simp only [PyData.depth]; exact Nat.le_refl _
  eqv x y := by simp only [PyData.eqv, beq_iff_eq]
instance : Rd K rB where
  to := .bool
  dep := 0
  dp h := by cases h; exact .bl _
  lay _ := by simp only [PyData.canLay0]
  dle _ := by simp only [PyData.depth]; exact Nat.le_refl _
  eqv x y := by simp only [PyData.eqv, beq_iff_eq]
instance : Rd K rN where
  to _ := .none
  dep := 0
  dp h := by cases h; exact .non
  lay _ := by simp only [PyData.canLay0]
  dle _ := by simp only [PyData.depth]; exact Nat.le_refl _
  eqv x y := by simp only [PyData.eqv]
theorem dpAll_of {R : Rp α} (f : α → PyData) {H : Hp} (h : ∀ {x v}, R H x v → Dp K H v (f x)) : ∀ {xs : List α} {vs : List V}, Paired (R H) xs vs → DpAll K H vs (xs.map f)
  | _, _, .nil => .nil
  | _, _, .cons r t => .cons (h r) (dpAll_of f h t)
theorem layAll_of (f : α → PyData) (h : ∀ x, (f x).canLay0 = true) : ∀ xs : List α, PyData.canLayAll0 (xs.map f) = true
  | [] => by simp only [List.map_nil, PyData.canLayAll0]
  | x :: xs => by simp only [List.map_cons, PyData.canLayAll0, h x, layAll_of f h xs, Bool.and_self]
theorem depAll_of (f : α → PyData) {n : Nat} (h : ∀ x, (f x).depth ≤ n) : ∀ xs : List α, PyData.depthAll (xs.map f) ≤ n
  | [] => by simp only [List.map_nil, PyData.depthAll]; omega
  | x :: xs => by
    have h1 := h x
    have h2 := depAll_of f h xs
    simp only [List.map_cons, PyData.depthAll]
    omega
theorem eqvAll_of (f : α → PyData) (h : ∀ x y, (PyData.eqv (f x) (f y) = true) ↔ x = y) : ∀ xs ys : List α, (PyData.eqvAll (xs.map f) (ys.map f) = true) ↔ xs = ys
  | [], [] => by simp [PyData.eqvAll]
  | [], _ :: _ => by simp [PyData.eqvAll]
  | _ :: _, [] => by simp [PyData.eqvAll]
  | x :: xs, y :: ys => by simp only [List.map_cons, PyData.eqvAll, Bool.and_eq_true, h x y, eqvAll_of f h xs ys, List.cons.injEq]
instance {R : Rp α} [r : Rd K R] : Rd K (rT K R) where
  to xs := .tuple (xs.map r.to)
  dep := r.dep + 1
  dp h := by obtain ⟨a, vs, rfl, h1, h2⟩ := h; exact .tup h1 (dpAll_of r.to (fun q => r.dp q) h2)
  lay xs := by simp only [PyData.canLay0]; exact layAll_of _ r.lay xs
  dle xs := by simp only [PyData.depth]; exact Nat.succ_le_succ (depAll_of _ r.dle xs)
  eqv xs ys := by simp only [PyData.eqv]; exact eqvAll_of _ r.eqv xs ys
instance {R : Rp α} [r : Rd K R] : Rd K (rL K R) where
  to xs := .list (xs.map r.to)
  dep := r.dep + 1
  dp h := by obtain ⟨a, vs, rfl, h1, h2⟩ := h; exact .lst h1 (dpAll_of r.to (fun q => r.dp q) h2)
  lay xs := by simp only [PyData.canLay0]; exact layAll_of _ r.lay xs
  dle xs := by simp only [PyData.depth]; exact Nat.succ_le_succ (depAll_of _ r.dle xs)
  eqv xs ys := by simp only [PyData.eqv]; exact eqvAll_of _ r.eqv xs ys
instance {R : Rp α} {S : Rp β} [r : Rd K R] [s : Rd K S] : Rd K (r2 K R S) where
  to x := .tuple [r.to x.1, s.to x.2]
  dep := max r.dep s.dep + 1
  dp h := by obtain ⟨a, u, w, rfl, h1, h2, h3⟩ := h; exact .tup h1 (.cons (r.dp h2) (.cons (s.dp h3) .nil))
  lay x := by simp only [PyData.canLay0, PyData.canLayAll0, r.lay, s.lay, Bool.and_self]
  dle x := by
    have h1 := r.dle x.1
    have h2 := s.dle x.2
    simp only [PyData.depth, PyData.depthAll]
    omega
  eqv x y := by
    simp only [PyData.eqv, PyData.eqvAll, Bool.and_eq_true, r.eqv, s.eqv, and_true]
    exact ⟨fun h => Prod.ext h.1 h.2, fun h => by rw [h]; exact ⟨rfl, rfl⟩⟩
variable {R : Rp α} {H : Hp} {σ : L2.St} {ta tb : TE} {x y : α}
theorem Rd.shaped [r : Rd K R] (h : r.dep ≤ 64 := by exact Nat.le_of_ble_eq_true rfl) (x : α) : SeqAt.shaped (r.to x) = true := by
  unfold SeqAt.shaped
  rw [r.lay x, Bool.true_and]
  exact decide_eq_true (Nat.le_trans (r.dle x) h)
theorem er_eqD [DecidableEq α] [Me R] [r : Rd K R] (ha : Er R ta σ H x) (hb : Er R tb σ H y) (h : r.dep ≤ 64 := by exact Nat.le_of_ble_eq_true rfl) : Er rB (tOp (rEqD K) ta tb) σ H (decide (x = y)) := fun H1 e Q q =>
  ha H1 e _ fun v H2 e2 r1 => hb H2 (e.trans e2) _ fun w H3 e3 r2 => ⟨r.to x, r.to y, r.dp (Me.ex e3 r1), r.dp r2, Rd.shaped h x, Rd.shaped h y, by
    rw [show PyData.eqv (r.to x) (r.to y) = decide (x = y) by rw [Bool.eq_iff_iff, decide_eq_true_eq]; exact r.eqv x y]
    exact q _ H3 (e2.trans e3) rfl⟩
theorem er_neD [DecidableEq α] [Me R] [r : Rd K R] (ha : Er R ta σ H x) (hb : Er R tb σ H y) (h : r.dep ≤ 64 := by exact Nat.le_of_ble_eq_true rfl) : Er rB (tOp (rNeD K) ta tb) σ H (!decide (x = y)) := fun H1 e Q q =>
  ha H1 e _ fun v H2 e2 r1 => hb H2 (e.trans e2) _ fun w H3 e3 r2 => ⟨r.to x, r.to y, r.dp (Me.ex e3 r1), r.dp r2, Rd.shaped h x, Rd.shaped h y, by
    rw [show PyData.eqv (r.to x) (r.to y) = decide (x = y) by rw [Bool.eq_iff_iff, decide_eq_true_eq]; exact r.eqv x y]
    exact q _ H3 (e2.trans e3) rfl⟩
end
section
variable {X : Cx}
theorem op_eqDK (K : PySem.W.Frag) (hu : X.A.units + 64 < cLine) (h : X.K = K := by rfl) : OpR X (compareOp .Eq) (rEqD K) := by subst h; exact op_eqD hu
theorem op_neDK (K : PySem.W.Frag) (hu : X.A.units + 64 < cLine) (h : X.K = K := by rfl) : OpR X (compareOp .NotEq) (rNeD K) := by subst h; exact op_neD hu
end
section
variable {α : Type} {K : PySem.W.Frag} {H : Hp} {σ : L2.St} {R : Rp α} {D : Ends} {tu tz : TS} {j : Nat}
theorem s_forET {ta : TE} {g : TG} {xs : List α} (h : Er (rT K R) ta σ H xs) (k : ∀ v H1, Ex H H1 → rT K R H1 xs v → ∀ a, v = .ref a → Fl (IteT K a) g tu D σ H1) : tFor (iEnumT K (tCons ta tNil)) g tu D σ H :=
  h H (Ex.refl H) _ fun v H1 e r => by
    obtain ⟨a, vs, h1, h2, h3⟩ := id r
    exact ⟨a, vs, by rw [h1], h2, k v H1 e r a h1⟩
theorem fl_ET {i0 : Nat} {xs : List α} {v : V} (r : rT K R H xs v) (Pv : Nat → L2.St → Hp → Prop) (h0 : Pv 0 σ H) (hG : ∀ i σ H', i ≤ xs.length → Pv i σ H' → rT K R H' xs v)
    (hs : ∀ i x u σ H' H'', i < (enm xs).length → (enm xs)[i]? = some x → Pv i σ H' → Ex H' H'' → R H' x.2 u → tu { D with nx := Pv (i + 1), ct := Pv (i + 1), bk := D.nx } ((σ.set i0 (some (.int x.1))).set j (some u)) H'') (hd : ∀ σ H', Pv (enm xs).length σ H' → D.nx σ H') :
    ∀ a, v = .ref a → Fl (IteT K a) (g2 K i0 j) tu D σ H := by
  rintro a rfl
  have hle := enm_len xs
  refine fl_core (n := xs.length) Pv h0 (fun i σ H' hi p => ?_) (fun σ H' p => ?_) (fun i x σ H' H'' hi p y => ?_) (fun σ H' p => hd σ H' (by rw [hle]; exact p))
  · obtain ⟨_, vs, h1, h2, h3⟩ := hG i σ H' (by omega) p
    cases h1
    have hl := paired_len h3
    exact ⟨vs, vs[i]'(by omega), h2, List.getElem?_eq_getElem _⟩
  · obtain ⟨_, vs, h1, h2, h3⟩ := hG _ σ H' (Nat.le_refl _) p
    cases h1
    exact ⟨vs, h2, by rw [paired_len h3]; exact Nat.le_refl _⟩
  · obtain ⟨_, vs, h1, h2, h3⟩ := hG i σ H' (by omega) p
    cases h1
    obtain ⟨T, u, rfl, nT, rfl, y⟩ := y
    have hx := y vs h2
    obtain ⟨z, hz, rz⟩ := paired_get' h3 hx
    exact ⟨T, [.int (i : Nat), u], rfl, SqT.of upd_same, rfl, _, _, rfl, _, _, rfl, rfl, hs i ((i : Int), z) u σ H' _ (by omega) (enm_get hz) p (Ex.new nT) rz⟩
theorem fl_ETI {i0 : Nat} {xs : List Int} {v : V} (r : rT K rI H xs v) (Pv : Nat → L2.St → Hp → Prop) (h0 : Pv 0 σ H) (hG : ∀ i σ H', i ≤ xs.length → Pv i σ H' → rT K rI H' xs v)
    (hs : ∀ i x σ H' H'', i < (enm xs).length → (enm xs)[i]? = some x → Pv i σ H' → Ex H' H'' → tu { D with nx := Pv (i + 1), ct := Pv (i + 1), bk := D.nx } ((σ.set i0 (some (.int x.1))).set j (some (.int x.2))) H'') (hd : ∀ σ H', Pv (enm xs).length σ H' → D.nx σ H') :
    ∀ a, v = .ref a → Fl (IteT K a) (g2 K i0 j) tu D σ H := fl_ET r Pv h0 hG (fun i x u σ H' H'' hi hx p e r => by cases r; exact hs i x σ H' H'' hi hx p e) hd

theorem q_forET {ta : TE} {g : TG} {xs : List α} (h : Er (rT K R) ta σ H xs) (k : ∀ v H1, Ex H H1 → rT K R H1 xs v → ∀ a, v = .ref a → Fl (IteT K a) g tu { D with nx := tz D } σ H1) : tSeq (tFor (iEnumT K (tCons ta tNil)) g tu) tz D σ H := s_forET (D := { D with nx := tz D }) h k
theorem fq_ET {i0 : Nat} {xs : List α} {v : V} (r : rT K R H xs v) (Pv : Nat → L2.St → Hp → Prop) (h0 : Pv 0 σ H) (hG : ∀ i σ H', i ≤ xs.length → Pv i σ H' → rT K R H' xs v)
    (hs : ∀ i x u σ H' H'', i < (enm xs).length → (enm xs)[i]? = some x → Pv i σ H' → Ex H' H'' → R H' x.2 u → tu { nx := Pv (i + 1), rt := D.rt, bk := tz D, ct := Pv (i + 1) } ((σ.set i0 (some (.int x.1))).set j (some u)) H'') (hd : ∀ σ H', Pv (enm xs).length σ H' → tz D σ H') :
    ∀ a, v = .ref a → Fl (IteT K a) (g2 K i0 j) tu { D with nx := tz D } σ H := fl_ET (D := { D with nx := tz D }) r Pv h0 hG hs hd
theorem fq_ETI {i0 : Nat} {xs : List Int} {v : V} (r : rT K rI H xs v) (Pv : Nat → L2.St → Hp → Prop) (h0 : Pv 0 σ H) (hG : ∀ i σ H', i ≤ xs.length → Pv i σ H' → rT K rI H' xs v)
    (hs : ∀ i x σ H' H'', i < (enm xs).length → (enm xs)[i]? = some x → Pv i σ H' → Ex H' H'' → tu { nx := Pv (i + 1), rt := D.rt, bk := tz D, ct := Pv (i + 1) } ((σ.set i0 (some (.int x.1))).set j (some (.int x.2))) H'') (hd : ∀ σ H', Pv (enm xs).length σ H' → tz D σ H') :
    ∀ a, v = .ref a → Fl (IteT K a) (g2 K i0 j) tu { D with nx := tz D } σ H := fl_ETI (D := { D with nx := tz D }) r Pv h0 hG hs hd
end
section
variable {α β ι : Type} {K : PySem.W.Frag} {H : Hp} {σ : L2.St} {ta tb te tl : TE} {tt : TT} {R : Rp α} {Ri : Rp β} {vs : List Nat} {j : Nat}
theorem el_lcELc [Me R] [Mkt K R] [Me Ri] {i0 : Nat} {xs : List β} {c : Int × β → Bool} {f : Int × β → α} (h : Er (rL K Ri) tl σ H xs) (hb : xs.length < 1000000) (hw : ∀ x y, wipe (((wipe σ vs).set i0 (some x)).set j (some y)) vs = wipe σ vs)
    (ht : ∀ x v H1, Ex H H1 → x ∈ enm xs → Ri H1 x.2 v → Et tt (((wipe σ vs).set i0 (some (.int x.1))).set j (some v)) H1 (c x)) (he : ∀ x v H1, Ex H H1 → x ∈ enm xs → Ri H1 x.2 v → c x = true → Er R te (((wipe σ vs).set i0 (some (.int x.1))).set j (some v)) H1 (f x)) :
    El R (tLc (iEnum K (tCons tl tNil)) (g2 K i0 j) tt te vs) σ H (((enm xs).filter c).map f) := fun H1 e1 Q q =>
  h H1 e1 _ fun v H2 e2 r => by
    obtain ⟨a, us, rfl, hs, hp⟩ := r
    have hl := paired_len hp
    have hle := enm_len xs
    refine ⟨a, us, rfl, hs, el_core (K := K) (R := R) (J := Ite K a) (xs := enm xs) c f (by omega) (fun i H' e3 h => ⟨us, us[i]'(by omega), ex_l e3 hs, List.getElem?_eq_getElem _⟩) (fun H' e3 => ⟨us, ex_l e3 hs, by omega⟩) (fun i x u H' H'' C hx e3 y k => ?_) Q fun p H3 n3 e3 l3 => q p H3 (fresh_back e2 n3) (e2.trans e3) l3⟩
    obtain ⟨T, u', rfl, nT, rfl, y⟩ := y
    obtain ⟨n0, z0⟩ := x
    have ea := enm_at hx
    obtain rfl : n0 = (i : Int) := ea.1
    obtain ⟨u2, hu, ru⟩ := paired_get hp ea.2
    have eu := y us (ex_l e3 hs)
    rw [hu] at eu
    cases eu
    have eN := Ex.new (o := .tup [.int (i : Nat), u']) nT
    have e9 := ((e1.trans e2).trans e3).trans eN
    have hm := List.mem_of_getElem? hx
    refine ⟨T, [.int (i : Nat), u'], rfl, SqT.of upd_same, rfl, _, _, rfl, _, _, rfl, rfl, k _ _ eN ⟨hw _ _, ?_, fun hc => ?_⟩⟩
    · exact ht ((i : Int), z0) u' _ e9 hm (Me.ex (e3.trans eN) ru)
    · exact he ((i : Int), z0) u' _ e9 hm (Me.ex (e3.trans eN) ru) hc
theorem el_lcEL [Me R] [Mkt K R] [Me Ri] {i0 : Nat} {xs : List β} {f : Int × β → α} (h : Er (rL K Ri) tl σ H xs) (hb : xs.length < 1000000) (hw : ∀ x y, wipe (((wipe σ vs).set i0 (some x)).set j (some y)) vs = wipe σ vs)
    (he : ∀ x v H1, Ex H H1 → x ∈ enm xs → Ri H1 x.2 v → Er R te (((wipe σ vs).set i0 (some (.int x.1))).set j (some v)) H1 (f x)) :
    El R (tLc (iEnum K (tCons tl tNil)) (g2 K i0 j) tYes te vs) σ H ((enm xs).map f) := by
  have z := el_lcELc (K := K) (c := fun _ => true) (f := f) h hb hw (fun _ _ _ _ _ _ => et_yes) fun x v H1 e hx r _ => he x v H1 e hx r
  rw [List.filter_eq_self.mpr fun _ _ => rfl] at z
  exact z
theorem el_lcELIc [Me R] [Mkt K R] {i0 : Nat} {xs : List Int} {c : Int × Int → Bool} {f : Int × Int → α} (h : Er (rL K rI) tl σ H xs) (hb : xs.length < 1000000) (hw : ∀ x y, wipe (((wipe σ vs).set i0 (some x)).set j (some y)) vs = wipe σ vs)
    (ht : ∀ x H1, Ex H H1 → x ∈ enm xs → Et tt (((wipe σ vs).set i0 (some (.int x.1))).set j (some (.int x.2))) H1 (c x)) (he : ∀ x H1, Ex H H1 → x ∈ enm xs → c x = true → Er R te (((wipe σ vs).set i0 (some (.int x.1))).set j (some (.int x.2))) H1 (f x)) :
    El R (tLc (iEnum K (tCons tl tNil)) (g2 K i0 j) tt te vs) σ H (((enm xs).filter c).map f) :=
  el_lcELc h hb hw (fun x v H1 e hx r => by cases r; exact ht x H1 e hx) fun x v H1 e hx r hc => by cases r; exact he x H1 e hx hc
theorem el_lcELI [Me R] [Mkt K R] {i0 : Nat} {xs : List Int} {f : Int × Int → α} (h : Er (rL K rI) tl σ H xs) (hb : xs.length < 1000000) (hw : ∀ x y, wipe (((wipe σ vs).set i0 (some x)).set j (some y)) vs = wipe σ vs)
    (he : ∀ x H1, Ex H H1 → x ∈ enm xs → Er R te (((wipe σ vs).set i0 (some (.int x.1))).set j (some (.int x.2))) H1 (f x)) :
    El R (tLc (iEnum K (tCons tl tNil)) (g2 K i0 j) tYes te vs) σ H ((enm xs).map f) :=
  el_lcEL h hb hw fun x v H1 e hx r => by cases r; exact he x H1 e hx
theorem el_lcETc [Me R] [Mkt K R] [Me Ri] {i0 : Nat} {xs : List β} {c : Int × β → Bool} {f : Int × β → α} (h : Er (rT K Ri) tl σ H xs) (hb : xs.length < 1000000) (hw : ∀ x y, wipe (((wipe σ vs).set i0 (some x)).set j (some y)) vs = wipe σ vs)
    (ht : ∀ x v H1, Ex H H1 → x ∈ enm xs → Ri H1 x.2 v → Et tt (((wipe σ vs).set i0 (some (.int x.1))).set j (some v)) H1 (c x)) (he : ∀ x v H1, Ex H H1 → x ∈ enm xs → Ri H1 x.2 v → c x = true → Er R te (((wipe σ vs).set i0 (some (.int x.1))).set j (some v)) H1 (f x)) :
    El R (tLc (iEnumT K (tCons tl tNil)) (g2 K i0 j) tt te vs) σ H (((enm xs).filter c).map f) := fun H1 e1 Q q =>
  h H1 e1 _ fun v H2 e2 r => by
    obtain ⟨a, us, rfl, hs, hp⟩ := r
    have hl := paired_len hp
    have hle := enm_len xs
    refine ⟨a, us, rfl, hs, el_core (K := K) (R := R) (J := IteT K a) (xs := enm xs) c f (by omega) (fun i H' e3 h => ⟨us, us[i]'(by omega), ex_t e3 hs, List.getElem?_eq_getElem _⟩) (fun H' e3 => ⟨us, ex_t e3 hs, by omega⟩) (fun i x u H' H'' C hx e3 y k => ?_) Q fun p H3 n3 e3 l3 => q p H3 (fresh_back e2 n3) (e2.trans e3) l3⟩
    obtain ⟨T, u', rfl, nT, rfl, y⟩ := y
    obtain ⟨n0, z0⟩ := x
    have ea := enm_at hx
    obtain rfl : n0 = (i : Int) := ea.1
    obtain ⟨u2, hu, ru⟩ := paired_get hp ea.2
    have eu := y us (ex_t e3 hs)
    rw [hu] at eu
    cases eu
    have eN := Ex.new (o := .tup [.int (i : Nat), u']) nT
    have e9 := ((e1.trans e2).trans e3).trans eN
    have hm := List.mem_of_getElem? hx
    refine ⟨T, [.int (i : Nat), u'], rfl, SqT.of upd_same, rfl, _, _, rfl, _, _, rfl, rfl, k _ _ eN ⟨hw _ _, ?_, fun hc => ?_⟩⟩
    · exact ht ((i : Int), z0) u' _ e9 hm (Me.ex (e3.trans eN) ru)
    · exact he ((i : Int), z0) u' _ e9 hm (Me.ex (e3.trans eN) ru) hc
theorem el_lcET [Me R] [Mkt K R] [Me Ri] {i0 : Nat} {xs : List β} {f : Int × β → α} (h : Er (rT K Ri) tl σ H xs) (hb : xs.length < 1000000) (hw : ∀ x y, wipe (((wipe σ vs).set i0 (some x)).set j (some y)) vs = wipe σ vs)
    (he : ∀ x v H1, Ex H H1 → x ∈ enm xs → Ri H1 x.2 v → Er R te (((wipe σ vs).set i0 (some (.int x.1))).set j (some v)) H1 (f x)) :
    El R (tLc (iEnumT K (tCons tl tNil)) (g2 K i0 j) tYes te vs) σ H ((enm xs).map f) := by
  have z := el_lcETc (K := K) (c := fun _ => true) (f := f) h hb hw (fun _ _ _ _ _ _ => et_yes) fun x v H1 e hx r _ => he x v H1 e hx r
  rw [List.filter_eq_self.mpr fun _ _ => rfl] at z
  exact z
theorem el_lcETIc [Me R] [Mkt K R] {i0 : Nat} {xs : List Int} {c : Int × Int → Bool} {f : Int × Int → α} (h : Er (rT K rI) tl σ H xs) (hb : xs.length < 1000000) (hw : ∀ x y, wipe (((wipe σ vs).set i0 (some x)).set j (some y)) vs = wipe σ vs)
    (ht : ∀ x H1, Ex H H1 → x ∈ enm xs → Et tt (((wipe σ vs).set i0 (some (.int x.1))).set j (some (.int x.2))) H1 (c x)) (he : ∀ x H1, Ex H H1 → x ∈ enm xs → c x = true → Er R te (((wipe σ vs).set i0 (some (.int x.1))).set j (some (.int x.2))) H1 (f x)) :
    El R (tLc (iEnumT K (tCons tl tNil)) (g2 K i0 j) tt te vs) σ H (((enm xs).filter c).map f) :=
  el_lcETc h hb hw (fun x v H1 e hx r => by cases r; exact ht x H1 e hx) fun x v H1 e hx r hc => by cases r; exact he x H1 e hx hc
theorem el_lcETI [Me R] [Mkt K R] {i0 : Nat} {xs : List Int} {f : Int × Int → α} (h : Er (rT K rI) tl σ H xs) (hb : xs.length < 1000000) (hw : ∀ x y, wipe (((wipe σ vs).set i0 (some x)).set j (some y)) vs = wipe σ vs)
    (he : ∀ x H1, Ex H H1 → x ∈ enm xs → Er R te (((wipe σ vs).set i0 (some (.int x.1))).set j (some (.int x.2))) H1 (f x)) :
    El R (tLc (iEnumT K (tCons tl tNil)) (g2 K i0 j) tYes te vs) σ H ((enm xs).map f) :=
  el_lcET h hb hw fun x v H1 e hx r => by cases r; exact he x H1 e hx
end
/-! ### steps by values at hand -/
def tK (v : V) : TE := fun _ H Q => Q v H
def tKs (vs : List V) : TA := fun _ H Q => Q vs H
section
variable {α : Type} {K : PySem.W.Frag} {H : Hp} {σ : L2.St} {ta tb te : TE} {t : TA} {R : Rp α} {x : α} {Q : VK}
theorem er_K [Me R] {v : V} (r : R H x v) : Er R (tK v) σ H x := fun H1 e _ q => q v H1 (Ex.refl H1) (Me.ex e r)
theorem er_iK {i : Int} : Er rI (tK (.int i)) σ H i := fun H1 _ _ q => q _ H1 (Ex.refl H1) rfl
theorem er_bK {i : Bool} : Er rB (tK (.bl i)) σ H i := fun H1 _ _ q => q _ H1 (Ex.refl H1) rfl
theorem er_sK {i : Str} : Er rS (tK (.str i)) σ H i := fun H1 _ _ q => q _ H1 (Ex.refl H1) rfl
theorem er_nK : Er rN (tK .non) σ H () := fun H1 _ _ q => q _ H1 (Ex.refl H1) rfl
theorem go_opK {r : R2} (h : ta σ H fun x H1 => tb σ H1 fun y H2 => tOp r (tK x) (tK y) [] H2 Q) : tOp r ta tb σ H Q := h
theorem go_unK {r : V → Hp → VK → Prop} (h : ta σ H fun x H1 => tUn r (tK x) [] H1 Q) : tUn r ta σ H Q := h
theorem go_callA {sp : Sp} {E : XK} (h : t σ H fun vs H1 => sp vs H1 Q E) : tCall sp [] E t σ H Q := by
  show t σ H fun vs H1 => sp (vs ++ []) H1 Q E
  simp only [List.append_nil]
  exact h
theorem go_cbA {r : List V → Hp → VK → Prop} (h : t σ H fun vs H1 => tCB r (tKs vs) [] H1 Q) : tCB r t σ H Q := h
theorem go_lstA (h : t σ H fun vs H1 => tLst (tKs vs) [] H1 Q) : tLst t σ H Q := h
theorem go_tupA (h : t σ H fun vs H1 => tTup (tKs vs) [] H1 Q) : tTup t σ H Q := h
theorem go_cons {Q' : List V → Hp → Prop} (h : ta σ H fun x H1 => t σ H1 fun xs H2 => Q' (x :: xs) H2) : tCons ta t σ H Q' := h
theorem go_nil {Q' : List V → Hp → Prop} (h : Q' [] H) : tNil σ H Q' := h
theorem ea_K [Me R] {xs : List α} {vs : List V} (h : Paired (R H) xs vs) : Ea (tKs vs) σ H (As R xs) := fun H1 e Q q => q vs H1 (Ex.refl H1) (pm h fun _ _ z => Me.ex e z)
theorem go_B {i : Bool} (h : Er rB te σ H i) (k : ∀ H1, Ex H H1 → Q (.bl i) H1) : te σ H Q := h H (Ex.refl H) _ fun v H1 e r => by cases r; exact k H1 e
theorem go_S {i : Str} (h : Er rS te σ H i) (k : ∀ H1, Ex H H1 → Q (.str i) H1) : te σ H Q := h H (Ex.refl H) _ fun v H1 e r => by cases r; exact k H1 e
theorem go_N {u : Unit} (h : Er rN te σ H u) (k : ∀ H1, Ex H H1 → Q .non H1) : te σ H Q := h H (Ex.refl H) _ fun v H1 e r => by cases r; exact k H1 e
theorem go_tV {Q : Bool → Hp → Prop} (h : te σ H fun x H1 => ∃ c, x = .bl c ∧ Q c H1) : tTest te σ H Q := h
theorem s_ret0 {D : Ends} (h : te σ H D.rt) : tRet te D σ H := h
theorem s_drop0 {D : Ends} (h : te σ H fun _ H1 => D.nx σ H1) : tDrop te D σ H := h
theorem s_if0 {D : Ends} {t : TT} {tu tw : TS} (h : t σ H fun b H1 => if b = true then tu D σ H1 else tw D σ H1) : tIfS t tu tw D σ H := h
end
theorem ite_no {b : Bool} {X Y : Prop} (h : b = false) (k : Y) : if b = true then X else Y := by rw [h]; exact k
theorem ite_ok {b : Bool} {X Y : Prop} (h : b = true) (k : X) : if b = true then X else Y := by rw [if_pos h]; exact k
section
variable {α : Type} {K : PySem.W.Frag} {H : Hp} {σ : L2.St} {ta te : TE} {R : Rp α} {vs : List Nat} {j : Nat} {b : Addr} {Q : VK}
/-! ### a new list of drawn things -/
def LcGo (j : Nat) (te : TE) (vs : List Nat) (σ : L2.St) (H : Hp) (hi : Int) (Q : VK) : Prop := ∀ D, H D = none → ∃ W : Nat → Nat → Hp → Prop, (∃ m, W 0 m (upd H D (.lst []))) ∧ ∀ i m H, W i m H →
      ((Itr 0 hi.toNat).stop i H ∧ Q (.ref D) H) ∨ ((Itr 0 hi.toNat).go i H ∧ ∃ Nx : Hp → Prop, (∀ H', Nx H' → ∃ m', m' < m ∧ W (i + 1) m' H') ∧ ∀ x H', (Itr 0 hi.toNat).yld i H x H' → gName j x (wipe σ vs) H' fun σ2 H2 => wipe σ2 vs = wipe σ vs ∧ tYes σ2 H2 fun b H3 =>
        if b = true then te σ2 H3 fun y H4 => ∃ acc, H4 D = some (.lst acc) ∧ acc.length < sizeLine ∧ Nx (upd H4 D (.lst (acc ++ [y]))) else Nx H3)
theorem lc_open (h : ta σ H fun v H1 => ∃ hi : Int, [v] = [V.int hi] ∧ -(2 ^ 62) ≤ hi ∧ hi < 2 ^ 62 ∧ LcGo j te vs σ H1 hi Q) : tLc (iRng1 (tCons ta tNil)) (gName j) tYes te vs σ H Q := h
/-- the body of a comprehension over a range, its items drawn from the bag -/
theorem lcR1B [Me R] [Mkt K R] (Py : α → Prop) (hB : Bag H b) {hi : Int} (hh : hi < 1000000) (hw : ∀ x, wipe ((wipe σ vs).set j (some x)) vs = wipe σ vs)
    (he : ∀ x H1 (C : VK), C1 b H H1 → Bag H1 b → (0 ≤ x ∧ x < hi) → (∀ v H2 y, C1 b H1 H2 → Bag H2 b → R H2 y v → Py y → C v H2) → te ((wipe σ vs).set j (some (.int x))) H1 C)
    (q : ∀ p H2 (ys : List α), H p = none → C1 b H H2 → Bag H2 b → ys.length = hi.toNat → (∀ y ∈ ys, Py y) → Lt R H2 p ys → Q (.ref p) H2) :
    LcGo j te vs σ H hi Q := by
  intro D hD
  have hbD : b ≠ D := hB.ne hD
  refine ⟨fun i m H' => m = hi.toNat - i ∧ i ≤ hi.toNat ∧ C1 b H H' ∧ Bag H' b ∧ ∃ ys : List α, ys.length = i ∧ (∀ y ∈ ys, Py y) ∧ Lt R H' D ys, ⟨hi.toNat, rfl, Nat.zero_le _, C1.ex (Ex.new hD), hB.ex (Ex.new hD), [], rfl, (fun _ h => by cases h), ⟨[], upd_same, .nil⟩⟩, ?_⟩
  rintro i m H1 ⟨rfl, hi1, c1, B1, ys, hl, hy, l1⟩
  by_cases hlt : i < hi.toNat
  · refine .inr ⟨hlt, fun H' => C1 b H H' ∧ Bag H' b ∧ ∃ ys : List α, ys.length = i + 1 ∧ (∀ y ∈ ys, Py y) ∧ Lt R H' D ys, fun H' h => ⟨hi.toNat - (i + 1), by omega, rfl, hlt, h⟩, ?_⟩
    rintro u H2 ⟨rfl, rfl⟩
    refine ⟨hw _, ?_⟩
    show te _ H2 _
    refine he _ H2 _ c1 B1 (by omega) fun v H3 y c3 B3 r3 py => ?_
    obtain ⟨acc, a1, a2⟩ := l1.keep (B1.kt (K := K) c3) c3 (Ne.symm hbD)
    have la : acc.length = i := by rw [← paired_len a2, hl]
    have kt1 : Kt K H3 (upd H3 D (.lst (acc ++ [v]))) := Kt.c1 a1 (C1.up (C1.refl D H3))
    refine ⟨acc, a1, sz0 (by omega), fun a o n h => ?_, B3.keep (C1.up (C1.refl D H3)) hbD, ys ++ [y], by simp [hl], fun z hz => ?_, ⟨acc ++ [v], upd_same, paired_append (pm a2 fun _ _ z => Mkt.kt kt1 z) (.cons (Mkt.kt kt1 r3) .nil)⟩⟩
    · rw [upd_ne (ne_of_none h hD)]
      exact c3 _ _ n (c1 _ _ n h)
    · rcases List.mem_append.mp hz with hz | hz
      · exact hy z hz
      · rw [List.mem_singleton.mp hz]; exact py
  · have e : i = hi.toNat := by omega
    exact .inl ⟨Nat.le_of_not_lt hlt, q D H1 ys hD c1 B1 (hl.trans e) hy l1⟩
theorem go_lcR1B [Me R] [Mkt K R] (Py : α → Prop) (hB : Bag H b) {hi : Int} (h : Er rI ta σ H hi) (hh : -(2 ^ 62) ≤ hi ∧ hi < 1000000) (hw : ∀ x, wipe ((wipe σ vs).set j (some x)) vs = wipe σ vs)
    (he : ∀ x H1 (C : VK), C1 b H H1 → Bag H1 b → (0 ≤ x ∧ x < hi) → (∀ v H2 y, C1 b H1 H2 → Bag H2 b → R H2 y v → Py y → C v H2) → te ((wipe σ vs).set j (some (.int x))) H1 C)
    (q : ∀ p H2 (ys : List α), H p = none → C1 b H H2 → Bag H2 b → ys.length = hi.toNat → (∀ y ∈ ys, Py y) → Lt R H2 p ys → Q (.ref p) H2) : tLc (iRng1 (tCons ta tNil)) (gName j) tYes te vs σ H Q := by
  refine h H (Ex.refl H) _ fun v H1 e r => ?_
  cases r
  refine ⟨hi, rfl, hh.1, by omega, lcR1B (K := K) Py (hB.ex e) hh.2 hw (fun x H2 C c => he x H2 C ((C1.ex e).trans c)) fun p H2 ys n c => q p H2 ys (fresh_back e n) ((C1.ex e).trans c)⟩
/-- tuple(l) of a list of one's own -/
theorem rtup_own {l : Addr} {xs : List α} [Me R] (l1 : Lt R H l xs) (k : ∀ v H1, Ex H H1 → rT K R H1 xs v → Q v H1) : rTupQ K [.ref l] H Q := by
  obtain ⟨us, h1, h2⟩ := l1
  exact ⟨l, us, rfl, .inl ⟨SqL.of h1, fun p np => k _ _ (Ex.new np) ⟨p, us, rfl, SqT.of upd_same, pm h2 fun _ _ z => Me.ex (Ex.new np) z⟩⟩⟩
end
section
variable {α : Type} {K : PySem.W.Frag} {H : Hp} {σ : L2.St} {ta tb te : TE} {R : Rp α}
/-! ### own lists put together -/
def Ew (R : Rp α) (t : TE) (σ : L2.St) (H : Hp) (xs : List α) : Prop := ∀ H1, Ex H H1 → ∀ Q : VK, (∀ p H2, Ex H1 H2 → Lt R H2 p xs → Q (.ref p) H2) → t σ H1 Q
theorem El.ew {xs : List α} (h : El R te σ H xs) : Ew R te σ H xs := fun H1 e Q q => h H1 e Q fun p H2 _ e2 l => q p H2 e2 l
theorem ew_var [Me R] {i : Nat} {p : Addr} {xs : List α} (h : σ[i]? = some (some (.ref p))) (l : Lt R H p xs) : Ew R (tVar i) σ H xs := fun H1 e Q q => ⟨_, h, q p H1 (Ex.refl H1) (l.ex e)⟩
theorem ew_K [Me R] {p : Addr} {xs : List α} (l : Lt R H p xs) : Ew R (tK (.ref p)) σ H xs := fun H1 e Q q => q p H1 (Ex.refl H1) (l.ex e)
theorem el_catW [Me R] {xs ys : List α} (ha : Ew R ta σ H xs) (hb : Ew R tb σ H ys) (hl : xs.length + ys.length ≤ 1000000) : El R (tOp rCat ta tb) σ H (xs ++ ys) := fun H1 e Q q =>
  ha H1 e _ fun p H2 e2 l2 => hb H2 (e.trans e2) _ fun p' H3 e3 l3 => by
    obtain ⟨vs, h1, h2⟩ := l2
    obtain ⟨ws, h3, h4⟩ := l3
    refine ⟨p, p', vs, ws, rfl, rfl, e3 _ _ h1, h3, by rw [← paired_len h2, ← paired_len h4]; exact sz1 hl, fun a na => ?_⟩
    exact q a _ (fresh_back (e2.trans e3) na) ((e2.trans e3).trans (Ex.new na)) ⟨_, upd_same, paired_append (pm h2 fun _ _ z => Me.ex (e3.trans (Ex.new na)) z) (pm h4 fun _ _ z => Me.ex (Ex.new na) z)⟩
theorem s_forLw {D : Ends} {tu : TS} {g : TG} {xs : List α} (h : Ew R te σ H xs) (k : ∀ p H1, Ex H H1 → Lt R H1 p xs → Fl (Itl K p) g tu D σ H1) : tFor (iList K te) g tu D σ H :=
  h H (Ex.refl H) _ fun p H1 e l => by
    obtain ⟨vs, h1, h2⟩ := id l
    exact ⟨p, rfl, ⟨vs, SqL.of h1⟩, k p H1 e l⟩
theorem q_forLw {D : Ends} {tu tz : TS} {g : TG} {xs : List α} (h : Ew R te σ H xs) (k : ∀ p H1, Ex H H1 → Lt R H1 p xs → Fl (Itl K p) g tu { D with nx := tz D } σ H1) : tSeq (tFor (iList K te) g tu) tz D σ H := s_forLw (D := { D with nx := tz D }) h k
theorem s_forELw {D : Ends} {tu : TS} {g : TG} {xs : List α} (h : Ew R te σ H xs) (k : ∀ p H1, Ex H H1 → Lt R H1 p xs → Fl (Ite K p) g tu D σ H1) : tFor (iEnum K (tCons te tNil)) g tu D σ H :=
  h H (Ex.refl H) _ fun p H1 e l => by
    obtain ⟨vs, h1, h2⟩ := id l
    exact ⟨p, vs, rfl, SqL.of h1, k p H1 e l⟩
theorem q_forELw {D : Ends} {tu tz : TS} {g : TG} {xs : List α} (h : Ew R te σ H xs) (k : ∀ p H1, Ex H H1 → Lt R H1 p xs → Fl (Ite K p) g tu { D with nx := tz D } σ H1) : tSeq (tFor (iEnum K (tCons te tNil)) g tu) tz D σ H := s_forELw (D := { D with nx := tz D }) h k
theorem s_forLn {D : Ends} {tu : TS} {g : TG} {xs : List α} (h : El R te σ H xs) (k : ∀ p H1, H p = none → Ex H H1 → Lt R H1 p xs → Fl (Itl K p) g tu D σ H1) : tFor (iList K te) g tu D σ H :=
  h H (Ex.refl H) _ fun p H1 n e l => by
    obtain ⟨vs, h1, h2⟩ := id l
    exact ⟨p, rfl, ⟨vs, SqL.of h1⟩, k p H1 n e l⟩
theorem q_forLn {D : Ends} {tu tz : TS} {g : TG} {xs : List α} (h : El R te σ H xs) (k : ∀ p H1, H p = none → Ex H H1 → Lt R H1 p xs → Fl (Itl K p) g tu { D with nx := tz D } σ H1) : tSeq (tFor (iList K te) g tu) tz D σ H := s_forLn (D := { D with nx := tz D }) h k
theorem s_forELn {D : Ends} {tu : TS} {g : TG} {xs : List α} (h : El R te σ H xs) (k : ∀ p H1, H p = none → Ex H H1 → Lt R H1 p xs → Fl (Ite K p) g tu D σ H1) : tFor (iEnum K (tCons te tNil)) g tu D σ H :=
  h H (Ex.refl H) _ fun p H1 n e l => by
    obtain ⟨vs, h1, h2⟩ := id l
    exact ⟨p, vs, rfl, SqL.of h1, k p H1 n e l⟩
theorem q_forELn {D : Ends} {tu tz : TS} {g : TG} {xs : List α} (h : El R te σ H xs) (k : ∀ p H1, H p = none → Ex H H1 → Lt R H1 p xs → Fl (Ite K p) g tu { D with nx := tz D } σ H1) : tSeq (tFor (iEnum K (tCons te tNil)) g tu) tz D σ H := s_forELn (D := { D with nx := tz D }) h k
theorem s_forLv {D : Ends} {tu : TS} {g : TG} {xs : List α} {i : Nat} {p : Addr} (h : σ[i]? = some (some (.ref p))) (l : Lt R H p xs) (k : Fl (Itl K p) g tu D σ H) : tFor (iList K (tVar i)) g tu D σ H := by
  obtain ⟨vs, h1, h2⟩ := l
  exact ⟨_, h, p, rfl, ⟨vs, SqL.of h1⟩, k⟩
theorem q_forLv {D : Ends} {tu tz : TS} {g : TG} {xs : List α} {i : Nat} {p : Addr} (h : σ[i]? = some (some (.ref p))) (l : Lt R H p xs) (k : Fl (Itl K p) g tu { D with nx := tz D } σ H) : tSeq (tFor (iList K (tVar i)) g tu) tz D σ H := s_forLv (D := { D with nx := tz D }) h l k
theorem s_forELv {D : Ends} {tu : TS} {g : TG} {xs : List α} {i : Nat} {p : Addr} (h : σ[i]? = some (some (.ref p))) (l : Lt R H p xs) (k : Fl (Ite K p) g tu D σ H) : tFor (iEnum K (tCons (tVar i) tNil)) g tu D σ H := by
  obtain ⟨vs, h1, h2⟩ := l
  exact ⟨_, h, p, vs, rfl, SqL.of h1, k⟩
theorem q_forELv {D : Ends} {tu tz : TS} {g : TG} {xs : List α} {i : Nat} {p : Addr} (h : σ[i]? = some (some (.ref p))) (l : Lt R H p xs) (k : Fl (Ite K p) g tu { D with nx := tz D } σ H) : tSeq (tFor (iEnum K (tCons (tVar i) tNil)) g tu) tz D σ H := s_forELv (D := { D with nx := tz D }) h l k
end
/-! ### a sequence read: a tuple or a list -/
def rQ {α : Type} (K : PySem.W.Frag) (R : Rp α) : Rp (List α) := fun H xs v => rT K R H xs v ∨ rL K R H xs v
instance {α : Type} {K : PySem.W.Frag} {R : Rp α} [Me R] : Me (rQ K R) := ⟨fun e h => h.elim (fun h => .inl (Me.ex e h)) fun h => .inr (Me.ex e h)⟩
theorem el_listQ {α : Type} {K : PySem.W.Frag} {R : Rp α} [Me R] {ta : TE} {σ : L2.St} {H : Hp} {xs : List α} (ha : Er (rQ K R) ta σ H xs) : El R (tCB (rListQ K) (tCons ta tNil)) σ H xs := fun H1 e Q q =>
  ha H1 e _ fun v H2 e2 h => by
    rcases h with ⟨a, vs, h1, hs, hp⟩ | ⟨a, vs, h1, hs, hp⟩
    · exact ⟨a, vs, by rw [h1], .inr hs, fun l nl => q l _ (fresh_back e2 nl) (e2.trans (Ex.new nl)) ⟨_, upd_same, pm hp fun _ _ z => Me.ex (Ex.new nl) z⟩⟩
    · exact ⟨a, vs, by rw [h1], .inl hs, fun l nl => q l _ (fresh_back e2 nl) (e2.trans (Ex.new nl)) ⟨_, upd_same, pm hp fun _ _ z => Me.ex (Ex.new nl) z⟩⟩
theorem er_QT {α : Type} {K : PySem.W.Frag} {R : Rp α} {ta : TE} {σ : L2.St} {H : Hp} {xs : List α} (ha : Er (rT K R) ta σ H xs) : Er (rQ K R) ta σ H xs := fun H1 e Q q => ha H1 e Q fun v H2 e2 r => q v H2 e2 (.inl r)
theorem er_QL {α : Type} {K : PySem.W.Frag} {R : Rp α} {ta : TE} {σ : L2.St} {H : Hp} {xs : List α} (ha : Er (rL K R) ta σ H xs) : Er (rQ K R) ta σ H xs := fun H1 e Q q => ha H1 e Q fun v H2 e2 r => q v H2 e2 (.inr r)
/-! ### loops over pairs -/
section
variable {α β : Type} {K : PySem.W.Frag} {H : Hp} {σ : L2.St} {R : Rp α} {S : Rp β} {D : Ends} {tu tz : TS} {j : Nat}
theorem fl_LP {i0 : Nat} {xs : List (α × β)} {v : V} (r : rL K (r2 K R S) H xs v) (Pv : Nat → L2.St → Hp → Prop) (h0 : Pv 0 σ H) (hG : ∀ i σ H', i ≤ xs.length → Pv i σ H' → rL K (r2 K R S) H' xs v)
    (hs : ∀ i x u w σ H', i < xs.length → xs[i]? = some x → Pv i σ H' → R H' x.1 u → S H' x.2 w → tu { D with nx := Pv (i + 1), ct := Pv (i + 1), bk := D.nx } ((σ.set i0 (some u)).set j (some w)) H') (hd : ∀ σ H', Pv xs.length σ H' → D.nx σ H') :
    ∀ a, v = .ref a → Fl (Itl K a) (g2 K i0 j) tu D σ H := by
  rintro a rfl
  refine fl_core Pv h0 (fun i σ H' hi p => ?_) (fun σ H' p => ?_) (fun i x σ H' H'' hi p y => ?_) hd
  · obtain ⟨_, vs, h1, h2, h3⟩ := hG i σ H' (by omega) p
    cases h1
    have hl := paired_len h3
    exact ⟨vs, vs[i]'(by omega), h2, List.getElem?_eq_getElem _⟩
  · obtain ⟨_, vs, h1, h2, h3⟩ := hG _ σ H' (Nat.le_refl _) p
    cases h1
    exact ⟨vs, h2, by rw [paired_len h3]; exact Nat.le_refl _⟩
  · obtain ⟨_, vs, h1, h2, h3⟩ := hG i σ H' (by omega) p
    cases h1
    obtain ⟨rfl, y⟩ := y
    have hx := y vs h2
    obtain ⟨z, hz, T, u, w, rfl, hT, ru, rw'⟩ := paired_get' h3 hx
    exact ⟨T, [u, w], rfl, hT, rfl, _, _, rfl, _, _, rfl, rfl, hs i z u w σ H'' hi hz p ru rw'⟩
theorem fq_LP {i0 : Nat} {xs : List (α × β)} {v : V} (r : rL K (r2 K R S) H xs v) (Pv : Nat → L2.St → Hp → Prop) (h0 : Pv 0 σ H) (hG : ∀ i σ H', i ≤ xs.length → Pv i σ H' → rL K (r2 K R S) H' xs v)
    (hs : ∀ i x u w σ H', i < xs.length → xs[i]? = some x → Pv i σ H' → R H' x.1 u → S H' x.2 w → tu { nx := Pv (i + 1), rt := D.rt, bk := tz D, ct := Pv (i + 1) } ((σ.set i0 (some u)).set j (some w)) H') (hd : ∀ σ H', Pv xs.length σ H' → tz D σ H') :
    ∀ a, v = .ref a → Fl (Itl K a) (g2 K i0 j) tu { D with nx := tz D } σ H := fl_LP (D := { D with nx := tz D }) r Pv h0 hG hs hd
theorem fl_TP {i0 : Nat} {xs : List (α × β)} {v : V} (r : rT K (r2 K R S) H xs v) (Pv : Nat → L2.St → Hp → Prop) (h0 : Pv 0 σ H) (hG : ∀ i σ H', i ≤ xs.length → Pv i σ H' → rT K (r2 K R S) H' xs v)
    (hs : ∀ i x u w σ H', i < xs.length → xs[i]? = some x → Pv i σ H' → R H' x.1 u → S H' x.2 w → tu { D with nx := Pv (i + 1), ct := Pv (i + 1), bk := D.nx } ((σ.set i0 (some u)).set j (some w)) H') (hd : ∀ σ H', Pv xs.length σ H' → D.nx σ H') :
    ∀ a, v = .ref a → Fl (Itt K a) (g2 K i0 j) tu D σ H := by
  rintro a rfl
  refine fl_core Pv h0 (fun i σ H' hi p => ?_) (fun σ H' p => ?_) (fun i x σ H' H'' hi p y => ?_) hd
  · obtain ⟨_, vs, h1, h2, h3⟩ := hG i σ H' (by omega) p
    cases h1
    have hl := paired_len h3
    exact ⟨vs, vs[i]'(by omega), h2, List.getElem?_eq_getElem _⟩
  · obtain ⟨_, vs, h1, h2, h3⟩ := hG _ σ H' (Nat.le_refl _) p
    cases h1
    exact ⟨vs, h2, by rw [paired_len h3]; exact Nat.le_refl _⟩
  · obtain ⟨_, vs, h1, h2, h3⟩ := hG i σ H' (by omega) p
    cases h1
    obtain ⟨rfl, y⟩ := y
    have hx := y vs h2
    obtain ⟨z, hz, T, u, w, rfl, hT, ru, rw'⟩ := paired_get' h3 hx
    exact ⟨T, [u, w], rfl, hT, rfl, _, _, rfl, _, _, rfl, rfl, hs i z u w σ H'' hi hz p ru rw'⟩
theorem fq_TP {i0 : Nat} {xs : List (α × β)} {v : V} (r : rT K (r2 K R S) H xs v) (Pv : Nat → L2.St → Hp → Prop) (h0 : Pv 0 σ H) (hG : ∀ i σ H', i ≤ xs.length → Pv i σ H' → rT K (r2 K R S) H' xs v)
    (hs : ∀ i x u w σ H', i < xs.length → xs[i]? = some x → Pv i σ H' → R H' x.1 u → S H' x.2 w → tu { nx := Pv (i + 1), rt := D.rt, bk := tz D, ct := Pv (i + 1) } ((σ.set i0 (some u)).set j (some w)) H') (hd : ∀ σ H', Pv xs.length σ H' → tz D σ H') :
    ∀ a, v = .ref a → Fl (Itt K a) (g2 K i0 j) tu { D with nx := tz D } σ H := fl_TP (D := { D with nx := tz D }) r Pv h0 hG hs hd
theorem er_pr [Me R] [Me S] {ta tb : TE} {x : α} {y : β} (ha : Er R ta σ H x) (hb : Er S tb σ H y) : Er (r2 K R S) (tTup (tCons ta (tCons tb tNil))) σ H (x, y) := fun H1 e Q q =>
  ha H1 e _ fun u H2 e2 r1 => hb H2 (e.trans e2) _ fun w H3 e3 r2' => ⟨by show 2 ≤ sizeLine; decide, fun a na => q _ _ ((e2.trans e3).trans (Ex.new na)) ⟨a, u, w, rfl, SqT.of upd_same, Me.ex (e3.trans (Ex.new na)) r1, Me.ex (Ex.new na) r2'⟩⟩
end
/-- any value -/
def rV0 : Rp Unit := fun _ _ _ => True
instance : Me rV0 := ⟨fun _ h => h⟩
instance {K : PySem.W.Frag} : Mkt K rV0 := ⟨fun _ h => h⟩
theorem er_v0 {α : Type} {R : Rp α} {t : TE} {σ : L2.St} {H : Hp} {x : α} (h : Er R t σ H x) : Er rV0 t σ H () := fun H1 e Q q => h H1 e Q fun v H2 e2 _ => q v H2 e2 trivial
/-! ### what kind an error is -/
theorem er_isEc {K : PySem.W.Frag} {σ : L2.St} {H : Hp} {i : Nat} {a D C : Addr} {b : Bool} (h : σ[i]? = some (some (.ref a))) (hk : PySem.W.kitOne K (.ref D) (.ref C) = some b) : Er rB (tCB (rIsE K D a) (tCons (tVar i) (tCons (tC (.ref C)) tNil))) σ H b := fun H1 _ Q q => ⟨_, h, .ref C, .ref C, b, rfl, fun u r => r, hk, q _ H1 (Ex.refl H1) rfl⟩
theorem er_isEv {K : PySem.W.Frag} {σ : L2.St} {H : Hp} {i : Nat} {a D : Addr} {b : Bool} (h : σ[i]? = some (some (.ref a))) (hk : PySem.W.kitOne K (.ref D) (.type "ValueError") = some b) : Er rB (tCB (rIsE K D a) (tCons (tVar i) (tCons (tC (.ty "ValueError")) tNil))) σ H b := fun H1 _ Q q => ⟨_, h, .ty "ValueError", .type "ValueError", b, rfl, fun u r => r, hk, q _ H1 (Ex.refl H1) rfl⟩
end Dg

set_option maxRecDepth 100000
set_option maxHeartbeats 4000000
/-! Texts by their signs. -/
namespace Dg
open PySem PySem.Spec PyProof.Rows L2 Evl
open SX (S)
def rX : Rp (List Nat) := fun _ s v => v = .str (S s)
section
variable {α : Type} {K : PySem.W.Frag} {H : Hp} {σ : L2.St} {ta tb te : TE} {R : Rp α} {a b c : List Nat}
instance : Me rX := ⟨fun _ h => h⟩
instance : Mkt K rX := ⟨fun _ h => h⟩
theorem er_xv {i : Nat} (h : σ[i]? = some (some (.str (S a))) := by rfl) : Er rX (tVar i) σ H a := fun H1 _ _ q => ⟨_, h, q _ H1 (Ex.refl H1) rfl⟩
theorem er_xK : Er rX (tK (.str (S a))) σ H a := fun H1 _ _ q => q _ H1 (Ex.refl H1) rfl
theorem er_xc {k : Str} (a : List Nat) (h : k = S a := by decide) : Er rX (tC (.str k)) σ H a := fun H1 _ _ q => q _ H1 (Ex.refl H1) (by rw [h]; rfl)
theorem er_xs {k : Str} (h : Er rX te σ H a) (e : S a = k) : Er rS te σ H k := fun H1 e1 Q q => h H1 e1 Q fun v H2 e2 r => q v H2 e2 (by rw [← e]; exact r)
abbrev rCatS : R2 := fun x y H Q => ∃ i j, x = .str i ∧ y = .str j ∧ i.length + j.length ≤ sizeLine ∧ Q (.str (i ++ j)) H
theorem er_xadd (ha : Er rX ta σ H a) (hb : Er rX tb σ H b) (hl : a.length + b.length ≤ 1000000) : Er rX (tOp rCatS ta tb) σ H (a ++ b) := fun H1 e Q q =>
  ha H1 e _ fun v H2 e2 r1 => hb H2 (e.trans e2) _ fun w H3 e3 r2 => ⟨S a, S b, r1, r2, by rw [SX.S_len, SX.S_len]; exact sz1 hl, q _ H3 (e2.trans e3) (by rw [SX.S_cat]; rfl)⟩
/-- text * int -/
def rRepS : R2 := fun x y H Q => ∃ i k, x = .str i ∧ y = .int k ∧ -1000000 ≤ k ∧ k ≤ 1000 ∧ i.length ≤ 1000 ∧ Q (.str (S (repL i.cps.toList k))) H
end
theorem foldl_cat : ∀ (n : Nat) (x : Array Nat) (acc : Array Nat), (List.foldl (fun a b => a ++ b) acc (List.replicate n x)).toList = acc.toList ++ (List.replicate n x.toList).flatten
  | 0, x, acc => by simp
  | n + 1, x, acc => by
    rw [List.replicate_succ, List.foldl_cons, foldl_cat n x (acc ++ x), List.replicate_succ, List.flatten_cons, Array.toList_append, List.append_assoc]
theorem op_repS {X : Cx} : OpR X (binaryOp .Mult) rRepS := by
  intro pins s σ H x y v u Q I rx ry h
  obtain ⟨i, k, rfl, rfl, h0, h1, hz, q⟩ := h
  obtain ⟨t, rfl⟩ := rx
  obtain ⟨t', rfl⟩ := ry
  have hl : i.length = i.cps.toList.length := by simp [Str.length]
  refine PySem.P.mul_str ?_ (fun _ _ => ?_) (fun _ _ => ?_) ?_
  · rw [decide_eq_false (by omega), decide_eq_false (by omega)] <;> rfl
  · have : (1000 : Int) ≤ (2 ^ 63 - 1) / k := Int.le_ediv_of_mul_le (by omega) (by omega)
    omega
  · unfold Builtin.Str.tooLong
    refine decide_eq_false ?_
    have : i.length * k.toNat ≤ 1000 * 1000 := Nat.mul_le_mul hz (by omega)
    have e := sizeLine_eq
    omega
  · split
    · refine ⟨by decide, ⟨.str _, H, I.tok _, ⟨_, rfl⟩, ?_⟩⟩
      have : k.toNat = 0 := by omega
      unfold repL at q
      rw [this] at q
      exact q
    · split
      · rename_i hc
        rw [Bool.or_eq_true, beq_iff_eq, beq_iff_eq] at hc
        refine ⟨.str _, H, I, ⟨_, rfl⟩, ?_⟩
        have e : S (repL i.cps.toList k) = i := by
          refine TL.ext_tl ?_
          show repL i.cps.toList k = i.cps.toList
          unfold repL
          rcases hc with hc | hc
          · subst hc; simp
          · have : i.cps.toList = [] := List.eq_nil_of_length_eq_zero (by omega)
            rw [this]; simp
        rw [e] at q
        exact q
      · have e : (⟨(List.replicate k.toNat i.cps).foldl (· ++ ·) #[]⟩ : Str) = S (repL i.cps.toList k) := by
          refine TL.ext_tl ?_
          show (List.foldl (fun a b => a ++ b) #[] (List.replicate k.toNat i.cps)).toList = repL i.cps.toList k
          rw [foldl_cat]
          rfl
        rw [e]
        refine ⟨?_, ⟨.str _, H, I.tok _, ⟨_, rfl⟩, q⟩⟩
        rw [SX.S_len, repL_len]
        have : k.toNat * i.cps.toList.length ≤ 1000 * 1000 := Nat.mul_le_mul (by omega) (by omega)
        have e := sizeLine_eq
        omega
section
variable {α : Type} {K : PySem.W.Frag} {H : Hp} {σ : L2.St} {ta tb te : TE} {R : Rp α} {a b c : List Nat}
theorem er_xrep {k : Int} (ha : Er rX ta σ H a) (hb : Er rI tb σ H k) (h : -1000000 ≤ k ∧ k ≤ 1000) (hl : a.length ≤ 1000) : Er rX (tOp rRepS ta tb) σ H (repL a k) := fun H1 e Q q =>
  ha H1 e _ fun v H2 e2 r1 => hb H2 (e.trans e2) _ fun w H3 e3 r2 => ⟨S a, k, r1, r2, h.1, h.2, by rw [SX.S_len]; exact hl, q _ H3 (e2.trans e3) rfl⟩
theorem dec_S : decide (V.str (S a) = V.str (S b)) = decide (a = b) := decide_eq_decide.mpr ⟨fun z => SX.S_inj (V.str.inj z), fun z => by rw [z]⟩
theorem er_xeq (ha : Er rX ta σ H a) (hb : Er rX tb σ H b) : Er rB (tOp rEq ta tb) σ H (decide (a = b)) := fun H1 e Q q =>
  ha H1 e _ fun v H2 e2 r1 => hb H2 (e.trans e2) _ fun w H3 e3 r2 => by
    cases r1; cases r2
    exact ⟨rfl, q _ H3 (e2.trans e3) (by show V.bl _ = V.bl _; rw [dec_S])⟩
theorem er_xne (ha : Er rX ta σ H a) (hb : Er rX tb σ H b) : Er rB (tOp rNe ta tb) σ H (!decide (a = b)) := fun H1 e Q q =>
  ha H1 e _ fun v H2 e2 r1 => hb H2 (e.trans e2) _ fun w H3 e3 r2 => by
    cases r1; cases r2
    exact ⟨rfl, q _ H3 (e2.trans e3) (by show V.bl _ = V.bl _; rw [dec_S])⟩
abbrev rLenS : List V → Hp → VK → Prop := fun xs H Q => ∃ z, xs = [.str z] ∧ z.length ≤ sizeLine ∧ Q (.int z.length) H
theorem er_xlen (ha : Er rX ta σ H a) (hz : a.length ≤ 1000000) : Er rI (tCB rLenS (tCons ta tNil)) σ H (a.length : Int) := fun H1 e Q q =>
  ha H1 e _ fun v H2 e2 h => ⟨S a, by rw [h], by rw [SX.S_len]; exact sz1 hz, q _ H2 e2 (by rw [SX.S_len]; rfl)⟩
theorem er_xix {i : Int} {d : Nat} (ha : Er rX ta σ H a) (hb : Er rI tb σ H i) (h1 : -(a.length : Int) ≤ i) (h2 : i < a.length) (hz : a.length ≤ 1000000) (hd : a[ixs a.length i]? = some d) : Er rX (tOp rIxS ta tb) σ H [d] := fun H1 e Q q =>
  ha H1 e _ fun v H2 e2 r1 => hb H2 (e.trans e2) _ fun w H3 e3 r2 => by
    cases r1; cases r2
    refine ⟨S a, i, d, rfl, rfl, by rw [SX.S_len]; exact sz1 hz, ?_, q _ H3 (e2.trans e3) rfl⟩
    unfold atI
    show (ixN a.length i).bind _ = _
    rw [(ixN_ixs h1 h2).1]
    exact hd
theorem cutS_S (a : List Nat) (lo hi : Option Int) : cutS (S a) lo hi = S (cutL a lo hi) := rfl
theorem er_xsl {tl th : TO} {lo hi : Option Int} (h : Er rX te σ H a) (h1 : Eo tl σ H lo) (h2 : Eo th σ H hi) (hz : a.length ≤ 1000000) : Er rX (tSl rSlS te tl th) σ H (cutL a lo hi) := fun H1 e Q q =>
  h H1 e _ fun v H2 e2 r => h1 H2 (e.trans e2) _ fun H3 e3 => h2 H3 ((e.trans e2).trans e3) _ fun H4 e4 => ⟨S a, r, by rw [SX.S_len]; exact sz1 hz, q _ H4 ((e2.trans e3).trans e4) (by rw [cutS_S]; rfl)⟩
/-- part of a text -/
def subX (a b : List Nat) : Bool := !(Builtin.Str.occurrences (S b) (S a) 0 (S b).length 1).isEmpty
theorem subX_one (b : List Nat) (c : Nat) : subX [c] b = decide (c ∈ b) := SX.in_one b c
abbrev rInS : R2 := fun x y H Q => ∃ i j, x = .str i ∧ y = .str j ∧ Q (.bl (!(Builtin.Str.occurrences j i 0 j.length 1).isEmpty)) H
theorem er_xin (ha : Er rX ta σ H a) (hb : Er rX tb σ H b) : Er rB (tOp rInS ta tb) σ H (subX a b) := fun H1 e Q q =>
  ha H1 e _ fun v H2 e2 r1 => hb H2 (e.trans e2) _ fun w H3 e3 r2 => ⟨S a, S b, r1, r2, q _ H3 (e2.trans e3) rfl⟩
theorem pX : ∀ {xs : List (List Nat)} {vs : List V}, Paired (rX H) xs vs → vs = (xs.map S).map V.str
  | [], _, .nil => rfl
  | x :: xs, _, .cons r t => by
    have e : _ = V.str (S x) := r
    rw [e, pX t]
    rfl
theorem pX' : ∀ (xs : List (List Nat)), Paired (rX H) xs ((xs.map S).map V.str)
  | [] => .nil
  | _ :: xs => .cons rfl (pX' xs)
abbrev rJoinS (K : PySem.W.Frag) : V → List V → Hp → VK → Prop := fun x xs H Q => ∃ a p, ∃ ys : List Str, x = .str a ∧ xs = [.ref p] ∧ (SqL K H p (ys.map V.str) ∨ SqT K H p (ys.map V.str)) ∧
      (ys.map (·.length)).sum + ys.length * a.length ≤ 16777216 ∧ Q (.str (Txt.join a ys)) H
theorem lensS (ys : List (List Nat)) : ((ys.map S).map (·.length)).sum = (ys.map List.length).sum := by
  rw [List.map_map]
  congr 1
theorem er_xjoin {ys : List (List Nat)} (ha : Er rX ta σ H a) (hb : Er (rL K rX) tb σ H ys) (hz : (ys.map List.length).sum + ys.length * a.length ≤ 1000000) : Er rX (tM1 (rJoinS K) ta tb) σ H (TL.joinL a ys) := fun H1 e Q q =>
  ha H1 e _ fun v H2 e2 r1 => ⟨⟨_, r1⟩, hb H2 (e.trans e2) _ fun w H3 e3 ⟨p, vs, r2, h1, h2⟩ => by
    have e4 := pX h2
    subst e4
    exact ⟨S a, p, ys.map S, r1, by rw [r2], .inl h1, by rw [lensS, List.length_map, SX.S_len]; omega, q _ H3 (e2.trans e3) (by rw [SX.join_S]; rfl)⟩⟩
abbrev rSplitS : V → List V → Hp → VK → Prop := fun x xs H Q => ∃ a b, x = .str a ∧ xs = [.str b] ∧ (b.length == 0) = false ∧ a.length + 2 ≤ sizeLine ∧ rNewStrs (Txt.split a b) H Q
theorem el_xsplit (ha : Er rX ta σ H a) (hb : Er rX tb σ H b) (hz : a.length ≤ 999990) (hn : b ≠ []) (hk : b.all (· < 256) = true) : El rX (tM1 rSplitS ta tb) σ H (TL.spl b 0 [] a) := fun H1 e Q q =>
  ha H1 e _ fun v H2 e2 r1 => ⟨⟨_, r1⟩, hb H2 (e.trans e2) _ fun w H3 e3 r2 => by
    refine ⟨S a, S b, r1, by rw [show w = _ from r2], ?_, ?_, ?_⟩
    · rw [SX.S_len]
      cases b with
      | nil => exact absurd rfl hn
      | cons x r => rfl
    · rw [SX.S_len]
      exact sz1 (by omega)
    · rw [SX.split_S hn hk]
      exact fun p np => q p _ (fresh_back (e2.trans e3) np) ((e2.trans e3).trans (Ex.new np)) ⟨_, upd_same, pX' _⟩⟩
abbrev rIntS : List V → Hp → VK → Prop := fun xs H Q => ∃ a n, xs = [.str a] ∧ PySem.intText? a = some n ∧ a.length ≤ 640 ∧ Q (.int n) H
theorem er_xint {n : Int} (ha : Er rX ta σ H a) (h : PySem.intText? (S a) = some n) (hl : a.length ≤ 640) : Er rI (tCB rIntS (tCons ta tNil)) σ H n := fun H1 e Q q =>
  ha H1 e _ fun v H2 e2 r => ⟨S a, n, by rw [show v = _ from r], h, by rw [SX.S_len]; exact hl, q _ H2 e2 rfl⟩
abbrev rStrI : List V → Hp → VK → Prop := fun xs H Q => ∃ i : Int, xs = [.int i] ∧ i.natAbs.log2 < 1920 ∧ Q (.str (toString i)) H
theorem er_xstr {i : Int} (ha : Er rI ta σ H i) (h : 0 ≤ i ∧ i < 1000000) : Er rX (tCB rStrI (tCons ta tNil)) σ H (TL.numL i.toNat) := fun H1 e Q q =>
  ha H1 e _ fun v H2 e2 r => ⟨i, by rw [show v = _ from r], by
    have h1 : i.natAbs.log2 ≤ i.natAbs := Nat.log2_le_self _
    have h2 : i.natAbs < 2 ^ 20 := by omega
    have h3 : i.natAbs.log2 < 20 := by
      by_cases z : i.natAbs = 0
      · rw [z]; decide
      · exact (Nat.log2_lt z).mpr h2
    omega, q _ H2 e2 (by
    obtain ⟨n, rfl⟩ : ∃ n : Nat, i = n := ⟨i.toNat, by omega⟩
    show V.str _ = V.str (S (TL.numL n))
    rw [← SX.num_S])⟩
variable {Q : VK} {D : Ends} {tz : TS} {j : Nat}
def gtX (a : List Nat) (i : Int) : Nat := (a[ixs a.length i]?).getD 0
theorem er_xix0 {i : Int} (ha : Er rX ta σ H a) (hb : Er rI tb σ H i) (h1 : -(a.length : Int) ≤ i) (h2 : i < a.length) (hz : a.length ≤ 1000000) : Er rX (tOp rIxS ta tb) σ H [gtX a i] :=
  er_xix ha hb h1 h2 hz (by unfold gtX; rw [List.getElem?_eq_getElem (ixN_ixs h1 h2).2]; rfl)
theorem go_X (h : Er rX te σ H a) (k : ∀ H1, Ex H H1 → Q (.str (S a)) H1) : te σ H Q := h H (Ex.refl H) _ fun v H1 e r => by cases r; exact k H1 e
theorem s_asgX (h : Er rX te σ H a) (k : ∀ H1, Ex H H1 → D.nx (σ.set j (some (.str (S a)))) H1) : tAsg te (gName j) D σ H := h H (Ex.refl H) _ fun v H1 e r => by cases r; exact k H1 e
theorem q_asgX (h : Er rX te σ H a) (k : ∀ H1, Ex H H1 → tz D (σ.set j (some (.str (S a)))) H1) : tSeq (tAsg te (gName j)) tz D σ H := s_asgX (D := { D with nx := tz D }) h k
theorem er_isX (h : Er rX te σ H a) : Er rB (tCB (rIsi K) (tCons te (tCons (tC (.ty "str")) tNil))) σ H true := fun H1 e Q q =>
  h H1 e _ fun v H2 e2 r => by
    cases r
    exact ⟨_, _, _, _, true, rfl, .ty "str", .base (.str _), kit_ty (show kitB "str" "str" = some true by decide +kernel), q _ H2 e2 rfl⟩
end
/-! ### written things by their names -/
def Cg (mg : Str → Option Value) (x : Str) (v : V) : Prop := ∃ u, mg x = some u ∧ RelV v u
theorem er_cn {K : PySem.W.Frag} {mg : Str → Option Value} {x : Str} {xs : List Int} {σ : L2.St} {H : Hp} (c : Cn K mg x (xs.map V.int)) : Er (rT K rI) (tC (.ref c.a)) σ H xs := fun H1 _ _ q => q _ H1 (Ex.refl H1) ⟨c.a, _, rfl, c.s H1, pI' xs⟩
section
variable {α β ι : Type} {K : PySem.W.Frag} {H : Hp} {σ : L2.St} {ta tb te tl : TE} {tt : TT} {R : Rp α} {Ri : Rp β} {vs : List Nat} {j : Nat} {D : Ends} {tu tz : TS}
theorem el_lcLX [Me R] [Mkt K R] {xs : List (List Nat)} {f : List Nat → α} (h : Er (rL K rX) tl σ H xs) (hb : xs.length < 1000000) (hw : ∀ x, wipe ((wipe σ vs).set j (some x)) vs = wipe σ vs)
    (he : ∀ x H1, Ex H H1 → x ∈ xs → Er R te ((wipe σ vs).set j (some (.str (S x)))) H1 (f x)) : El R (tLc (iList K tl) (gName j) tYes te vs) σ H (xs.map f) :=
  el_lcL h hb hw fun x v H1 e hx r => by cases r; exact he x H1 e hx
theorem el_lcTX [Me R] [Mkt K R] {xs : List (List Nat)} {f : List Nat → α} (h : Er (rT K rX) tl σ H xs) (hb : xs.length < 1000000) (hw : ∀ x, wipe ((wipe σ vs).set j (some x)) vs = wipe σ vs)
    (he : ∀ x H1, Ex H H1 → x ∈ xs → Er R te ((wipe σ vs).set j (some (.str (S x)))) H1 (f x)) : El R (tLc (iTup K tl) (gName j) tYes te vs) σ H (xs.map f) :=
  el_lcT h hb hw fun x v H1 e hx r => by cases r; exact he x H1 e hx
theorem el_lcLXc [Me R] [Mkt K R] {xs : List (List Nat)} {c : List Nat → Bool} {f : List Nat → α} (h : Er (rL K rX) tl σ H xs) (hb : xs.length < 1000000) (hw : ∀ x, wipe ((wipe σ vs).set j (some x)) vs = wipe σ vs)
    (ht : ∀ x H1, Ex H H1 → x ∈ xs → Et tt ((wipe σ vs).set j (some (.str (S x)))) H1 (c x)) (he : ∀ x H1, Ex H H1 → x ∈ xs → c x = true → Er R te ((wipe σ vs).set j (some (.str (S x)))) H1 (f x)) : El R (tLc (iList K tl) (gName j) tt te vs) σ H ((xs.filter c).map f) :=
  el_lcLc h hb hw (fun x v H1 e hx r => by cases r; exact ht x H1 e hx) fun x v H1 e hx r hc => by cases r; exact he x H1 e hx hc
theorem el_lcTXc [Me R] [Mkt K R] {xs : List (List Nat)} {c : List Nat → Bool} {f : List Nat → α} (h : Er (rT K rX) tl σ H xs) (hb : xs.length < 1000000) (hw : ∀ x, wipe ((wipe σ vs).set j (some x)) vs = wipe σ vs)
    (ht : ∀ x H1, Ex H H1 → x ∈ xs → Et tt ((wipe σ vs).set j (some (.str (S x)))) H1 (c x)) (he : ∀ x H1, Ex H H1 → x ∈ xs → c x = true → Er R te ((wipe σ vs).set j (some (.str (S x)))) H1 (f x)) : El R (tLc (iTup K tl) (gName j) tt te vs) σ H ((xs.filter c).map f) :=
  el_lcTc h hb hw (fun x v H1 e hx r => by cases r; exact ht x H1 e hx) fun x v H1 e hx r hc => by cases r; exact he x H1 e hx hc
theorem fl_TX {xs : List (List Nat)} {v : V} (r : rT K rX H xs v) (Pv : Nat → L2.St → Hp → Prop) (h0 : Pv 0 σ H) (hG : ∀ i σ H', i ≤ xs.length → Pv i σ H' → rT K rX H' xs v)
    (hs : ∀ i x σ H', i < xs.length → xs[i]? = some x → Pv i σ H' → tu { D with nx := Pv (i + 1), ct := Pv (i + 1), bk := D.nx } (σ.set j (some (.str (S x)))) H') (hd : ∀ σ H', Pv xs.length σ H' → D.nx σ H') :
    ∀ a, v = .ref a → Fl (Itt K a) (gName j) tu D σ H := fl_T r Pv h0 hG (fun i x u σ H' hi hx p r => by cases r; exact hs i x σ H' hi hx p) hd
theorem fl_LX {xs : List (List Nat)} {v : V} (r : rL K rX H xs v) (Pv : Nat → L2.St → Hp → Prop) (h0 : Pv 0 σ H) (hG : ∀ i σ H', i ≤ xs.length → Pv i σ H' → rL K rX H' xs v)
    (hs : ∀ i x σ H', i < xs.length → xs[i]? = some x → Pv i σ H' → tu { D with nx := Pv (i + 1), ct := Pv (i + 1), bk := D.nx } (σ.set j (some (.str (S x)))) H') (hd : ∀ σ H', Pv xs.length σ H' → D.nx σ H') :
    ∀ a, v = .ref a → Fl (Itl K a) (gName j) tu D σ H := fl_L r Pv h0 hG (fun i x u σ H' hi hx p r => by cases r; exact hs i x σ H' hi hx p) hd
theorem fq_TX {xs : List (List Nat)} {v : V} (r : rT K rX H xs v) (Pv : Nat → L2.St → Hp → Prop) (h0 : Pv 0 σ H) (hG : ∀ i σ H', i ≤ xs.length → Pv i σ H' → rT K rX H' xs v)
    (hs : ∀ i x σ H', i < xs.length → xs[i]? = some x → Pv i σ H' → tu { nx := Pv (i + 1), rt := D.rt, bk := tz D, ct := Pv (i + 1) } (σ.set j (some (.str (S x)))) H') (hd : ∀ σ H', Pv xs.length σ H' → tz D σ H') :
    ∀ a, v = .ref a → Fl (Itt K a) (gName j) tu { D with nx := tz D } σ H := fl_TX (D := { D with nx := tz D }) r Pv h0 hG hs hd
theorem fq_LX {xs : List (List Nat)} {v : V} (r : rL K rX H xs v) (Pv : Nat → L2.St → Hp → Prop) (h0 : Pv 0 σ H) (hG : ∀ i σ H', i ≤ xs.length → Pv i σ H' → rL K rX H' xs v)
    (hs : ∀ i x σ H', i < xs.length → xs[i]? = some x → Pv i σ H' → tu { nx := Pv (i + 1), rt := D.rt, bk := tz D, ct := Pv (i + 1) } (σ.set j (some (.str (S x)))) H') (hd : ∀ σ H', Pv xs.length σ H' → tz D σ H') :
    ∀ a, v = .ref a → Fl (Itl K a) (gName j) tu { D with nx := tz D } σ H := fl_LX (D := { D with nx := tz D }) r Pv h0 hG hs hd
end
section
variable {K : PySem.W.Frag} {H : Hp} {σ : L2.St} {ta tb te : TE}
theorem pB : ∀ {xs : List Bool} {vs : List V}, Paired (rB H) xs vs → vs = xs.map V.bl
  | [], _, .nil => rfl
  | x :: xs, _, .cons r t => by
    have e : _ = V.bl x := r
    rw [e, pB t]
    rfl
theorem er_any {xs : List Bool} (ha : Er (rL K rB) ta σ H xs) : Er rB (tCB (rAny K) (tCons ta tNil)) σ H (xs.any id) := fun H1 e Q q =>
  ha H1 e _ fun v H2 e2 ⟨a, vs, h1, hs, hp⟩ => by
    have e4 := pB hp
    subst e4
    exact ⟨a, xs, by rw [h1], hs, q _ H2 e2 rfl⟩
theorem er_all {xs : List Bool} (ha : Er (rL K rB) ta σ H xs) : Er rB (tCB (rAll K) (tCons ta tNil)) σ H (xs.all id) := fun H1 e Q q =>
  ha H1 e _ fun v H2 e2 ⟨a, vs, h1, hs, hp⟩ => by
    have e4 := pB hp
    subst e4
    exact ⟨a, xs, by rw [h1], hs, q _ H2 e2 rfl⟩
theorem er_sum {xs : List Int} (ha : Er (rL K rI) ta σ H xs) : Er rI (tCB (rSum K) (tCons ta tNil)) σ H xs.sum := fun H1 e Q q =>
  ha H1 e _ fun v H2 e2 ⟨a, vs, h1, hs, hp⟩ => by
    have e4 := pI hp
    subst e4
    exact ⟨a, xs, by rw [h1], hs, q _ H2 e2 rfl⟩
end
section
variable {X : Cx}
theorem cr_anyK (K : PySem.W.Frag) (hc : X.calm = true) (h : X.K = K := by rfl) : CallR X (.builtin "any") (rAny K) := by subst h; exact cr_any hc
theorem cr_allK (K : PySem.W.Frag) (hc : X.calm = true) (h : X.K = K := by rfl) : CallR X (.builtin "all") (rAll K) := by subst h; exact cr_all hc
end
end Dg

set_option maxRecDepth 100000
set_option maxHeartbeats 4000000
namespace Dg
open PySem PySem.Spec PyProof.Rows L2 Evl
open SX (S)
section
/-! ### t[a:b:c] of a tuple -/
open HT in
/-- the places that a slice with a step names -/
def stepA (n : Nat) (lo hi : Option Int) (c : Int) : Int × Nat := ((Builtin.Slice.sliceAdjust lo hi c (n : Int)).1, Builtin.Slice.slicePlaces (Builtin.Slice.sliceAdjust lo hi c (n : Int)).1 (Builtin.Slice.sliceAdjust lo hi c (n : Int)).2 c)
def stepL {α : Type} (xs : List α) (lo hi : Option Int) (c : Int) : List α := (List.range (stepA xs.length lo hi c).2).filterMap fun (m : Nat) => xs[((stepA xs.length lo hi c).1 + (m : Int) * c).toNat]?
section
variable {prog : Program} {w : World} {A : Around} {E : Value → Shared → Prop} {s : Shared}
theorem sliceApplied_step {sl : Addr} {vl vu vs : Value} {lo hi : Option Int} {c : Int} {n : Nat} {Q : Int × Int × Nat → Shared → Prop} (hs : s.heap.IsSliceOf sl vl vu vs) (pl : IsPart vl lo) (pu : IsPart vu hi) (ps : IsPart vs (some c)) (h0 : c ≠ 0)
    (h : Q ((stepA n lo hi c).1, c, (stepA n lo hi c).2) s) : wpAny (model prog w) A (Builtin.Slice.sliceApplied (.ref sl) (pure (n : Int))) Q E s := by
  obtain ⟨os, hos, hcs, hds⟩ := id hs
  unfold Builtin.Slice.sliceApplied Builtin.Slice.sliceFields
  refine wpAny_bind (wpAny_bind (wpAny_field hos hds (x := vl) rfl (wpAny_bind (wpAny_field hos hds (x := vu) rfl (wpAny_bind (wpAny_field hos hds (x := vs) rfl (wpAny_pure ?_)))))))
  refine wpAny_bind (HT.slicePart_ ps ?_)
  show wpAny _ _ (if (c == 0) = true then _ else _) _ _ s
  rw [if_neg (by simpa using h0)]
  refine wpAny_bind (HT.slicePart_ pl (wpAny_bind (HT.slicePart_ pu (wpAny_bind (wpAny_pure ?_)))))
  exact wpAny_pure h
theorem getItem_tuple_step {t sl : Addr} {items : Array Value} {vl vu vs : Value} {lo hi : Option Int} {c : Int} {Q : Value → Shared → Prop} (ht : IsTup s.heap t items) (hs : s.heap.IsSliceOf sl vl vu vs) (pl : IsPart vl lo) (pu : IsPart vu hi) (ps : IsPart vs (some c)) (h0 : c ≠ 0) (h1 : c ≠ 1)
    (h : Q (.ref s.heap.objs.size) { s with heap := s.heap.push { cls := .type "tuple", data := .seq (stepL items.toList lo hi c).toArray } })
    (hsz : (stepL items.toList lo hi c).length ≤ sizeLine) : wpAny (model prog w) A (getItem (.ref t) (.ref sl)) Q E s := by
  have htake : sizeOk (.seq (stepL items.toList lo hi c).toArray) := by
    show (stepL items.toList lo hi c).toArray.size ≤ sizeLine
    rw [List.size_toArray]; exact hsz
  obtain ⟨os, hos, hcs, hds⟩ := id hs
  have hTs : s.TypeIs (.ref sl) "slice" := ⟨os, hos, hcs⟩
  unfold getItem
  try with_reducible refine wpAny_holding ?_
  first | refine wpAny_bind (wpAny_pure ?_) | skip
  refine wpAny_bind (wpAny_sequenceKey ht.typeIs (by decide) ?_)
  refine wpAny_bind (wpAny_callSpecial?_slot (name := Str.ofString "__getitem__") ht.typeIs PyProof.Rows.slot_tuple_getitem
    (wpAny_call_entry PyProof.Rows.slot_tuple_getitem ht.typeIs entry_tuple_getitem ?_ (args_tuple_getitem _ _)))
  show wpAny _ _ (Builtin.Tuple.tupleItemsOf (.ref t) >>= _) _ _ s
  refine wpAny_bind (tupleItemsOf_ ht ?_)
  refine wpAny_bind (wpAny_typeOf hTs ?_)
  rw [if_pos (by decide)]
  refine wpAny_bind (sliceApplied_step hs pl pu ps h0 ?_)
  have hno : ¬ (((stepA items.size lo hi c).1 == 0 && c == 1 && (stepA items.size lo hi c).2 == items.size) = true) := by
    intro q
    rw [Bool.and_eq_true, Bool.and_eq_true] at q
    exact h1 (eq_of_beq q.1.2)
  show wpAny _ _ (if ((stepA items.size lo hi c).1 == 0 && c == 1 && (stepA items.size lo hi c).2 == items.size) = true then _ else _) _ _ s
  rw [if_neg hno]
  have e : ((List.range (stepA items.size lo hi c).2).filterMap fun (m : Nat) => items[((stepA items.size lo hi c).1 + (m : Int) * c).toNat]?).toArray = (stepL items.toList lo hi c).toArray := by
    unfold stepL
    rw [Array.length_toList]
    congr 1
    simp only [Array.getElem?_toList]
  rw [e]
  first
    | exact wpAny_bind (m := Builtin.Tuple.tupleExact _) (wpAny_newObj_type (wpAny_pure ⟨_, rfl, wpAny_pure h⟩) htake)
    | exact wpAny_bind (m := Builtin.Tuple.tupleExact _) (wpAny_newObj_type (wpAny_bind (wpAny_pure (wpAny_pure ⟨_, rfl, wpAny_pure h⟩))) htake)
    | exact wpAny_bind (wpAny_bind (m := Builtin.Tuple.tupleExact _) (wpAny_newObj_type (wpAny_pure (wpAny_pure ⟨_, rfl, wpAny_pure h⟩)) htake))
    | exact wpAny_bind (wpAny_bind (m := Builtin.Tuple.tupleExact _) (wpAny_newObj_type (wpAny_pure ⟨_, rfl, wpAny_pure h⟩) htake))
end
theorem stepL_len {α : Type} (xs : List α) (lo hi : Option Int) (c : Int) : (stepL xs lo hi c).length ≤ (stepA xs.length lo hi c).2 := by
  unfold stepL
  exact Nat.le_trans (List.length_filterMap_le _ _) (by rw [List.length_range]; exact Nat.le_refl _)
theorem stepL_paired {α β : Type} {F : α → β → Prop} {l : List α} {m : List β} (h : Paired F l m) (lo hi : Option Int) (c : Int) : Paired F (stepL l lo hi c) (stepL m lo hi c) := by
  unfold stepL
  rw [← paired_len h]
  generalize (stepA l.length lo hi c).1 = a
  generalize (stepA l.length lo hi c).2 = k
  generalize List.range k = ks
  induction ks with
  | nil => exact .nil
  | cons k ks ih =>
    rw [List.filterMap_cons, List.filterMap_cons]
    cases e : l[(a + (k : Int) * c).toNat]? with
    | none =>
      have : m[(a + (k : Int) * c).toNat]? = none := by
        cases e2 : m[(a + (k : Int) * c).toNat]? with
        | none => rfl
        | some y => obtain ⟨x, h1, _⟩ := paired_get' h e2; rw [e] at h1; cases h1
      rw [this]
      exact ih
    | some x =>
      obtain ⟨y, h1, h2⟩ := paired_get h e
      rw [h1]
      exact .cons h2 ih
def rSl3 (K : PySem.W.Frag) (x : V) (lo hi : Option Int) (c : Int) (H : Hp) (Q : VK) : Prop := ∃ a xs, x = .ref a ∧ SqT K H a xs ∧ c ≠ 0 ∧ c ≠ 1 ∧ (stepL xs lo hi c).length ≤ sizeLine ∧ ∀ p, H p = none → Q (.ref p) (upd H p (.tup (stepL xs lo hi c)))
def tSl3 (K : PySem.W.Frag) (te : TE) (tl th : TO) (ts : TE) : TE := fun σ H Q => te σ H fun x H1 => tl σ H1 fun l H2 => th σ H2 fun u H3 => ts σ H3 fun y H4 => ∃ c, y = .int c ∧ rSl3 K x l u c H4 Q
theorem pe_sl3 {X : Cx} {e f : Expr} {lo hi : Option Expr} {te ts : TE} {tl th : TO} {p3 pos : Pos} (K : PySem.W.Frag) (he : PE X e te) (hl : PO X lo tl) (hh : PO X hi th) (hs : PE X f ts) (hK : X.K = K := by rfl) : PE X (.Subscript e (.Slice lo hi (some f) p3) pos) (tSl3 K te tl th ts) := by
  subst hK
  refine ⟨fun pins s σ H Q I h => ?_⟩
  refine Subscript_ (thn (he.run pins s σ H _ I h) fun v s1 ⟨x, H1, I1, r1, q1⟩ => ?_)
  refine wpAny_Slice (thn (hl.run pins s1 σ H1 _ I1 q1) fun vl s2 ⟨l, H2, I2, pl, q2⟩ => ?_)
  refine thn (hh.run pins s2 σ H2 _ I2 q2) fun vu s3 ⟨u, H3, I3, pu, q3⟩ => ?_
  refine thn ((po_some hs).run pins s3 σ H3 (fun o H4 => ∃ c, o = some c ∧ rSl3 X.K x l u c H4 Q) I3 (by
    show ts σ H3 _
    refine (?_ : ts σ H3 _)
    have e : (fun y H4 => ∃ c, y = V.int c ∧ rSl3 X.K x l u c H4 Q) = fun y H4 => ∃ i, y = V.int i ∧ ∃ c, some i = some c ∧ rSl3 X.K x l u c H4 Q := by
      funext y H4
      exact propext ⟨fun ⟨c, h1, h2⟩ => ⟨c, h1, c, rfl, h2⟩, fun ⟨i, h1, c, h2, h3⟩ => ⟨c, by cases h2; exact h1, h3⟩⟩
    exact e ▸ q3)) fun vs s4 ⟨o, H4, I4, ps, q4⟩ => ?_
  obtain ⟨c, rfl, a, xs, rfl, hx, h0, h1, hz, q⟩ := q4
  cases r1
  have I5 : Inv X pins σ H4 { s4 with heap := s4.heap.push { cls := .type "slice", data := .fields #[vl, vu, vs] } } := I4.kept (t' := s4.toks) fun b ob q => Heap.get?_push_of_some _ q
  obtain ⟨its, r, ht, hz2⟩ := I5.tuple hx
  show wpAny (model X.prog X.w) X.A (subscriptTail e (.Slice lo hi (some f) p3) (.ref a) (.ref s4.heap.objs.size)) (EP X pins σ Q) X.xe { s4 with heap := s4.heap.push { cls := .type "slice", data := .fields #[vl, vu, vs] } }
  refine tail_any (ops := [.ref a, .ref s4.heap.objs.size]) ht.typeIs (PyProof.Rows.slot_tuple_getitem.lookup) ?_ (by with_unfolding_all rfl)
  have rr := stepL_paired r l u c
  have e2 : its.toArray.toList = its := rfl
  refine getItem_tuple_step ht (Heap.IsSliceOf.new _ vl vu vs) pl pu ps h0 h1 ?_ (by rw [e2, ← paired_len rr]; exact hz)
  rw [e2]
  refine ⟨.ref _, _, I5.laid (t' := s4.toks) (o := .tup (stepL xs l u c)) (fun b ob q => Heap.get?_push_of_some _ q) (Nat.le_refl _) ?_, rfl, q _ (I5.hok.fresh (Nat.le_refl _))⟩
  exact ⟨hz, _, rr, IsTup.new _ _⟩
theorem er_sl3 {α : Type} {K : PySem.W.Frag} {R : Rp α} [Me R] {σ : L2.St} {H : Hp} {te ts : TE} {tl th : TO} {xs : List α} {lo hi : Option Int} {c : Int} (h : Er (rT K R) te σ H xs) (h1 : Eo tl σ H lo) (h2 : Eo th σ H hi) (h3 : Er rI ts σ H c) (n0 : c ≠ 0) (n1 : c ≠ 1) (hz : (stepL xs lo hi c).length ≤ sizeLine) : Er (rT K R) (tSl3 K te tl th ts) σ H (stepL xs lo hi c) := fun H1 e Q q =>
  h H1 e _ fun v H2 e2 r => h1 H2 (e.trans e2) _ fun H3 e3 => h2 H3 ((e.trans e2).trans e3) _ fun H4 e4 => h3 H4 (((e.trans e2).trans e3).trans e4) _ fun y H5 e5 ry => by
    cases ry
    obtain ⟨a, vs, rfl, hs, hp⟩ := r
    have hs5 := ex_t e5 (ex_t e4 (ex_t e3 hs))
    have hp5 : Paired (R H5) xs vs := pm hp fun _ _ z => Me.ex ((e3.trans e4).trans e5) z
    have rr := stepL_paired hp5 lo hi c
    refine ⟨c, rfl, a, vs, rfl, hs5, n0, n1, by rw [← paired_len rr]; exact hz, fun p np => ?_⟩
    refine q _ _ (((e2.trans e3).trans (e4.trans e5)).trans (Ex.new np)) ⟨p, _, rfl, SqT.of upd_same, pm rr fun _ _ z => Me.ex (Ex.new np) z⟩
theorem stepA_rev (n : Nat) : stepA n none none (-1) = ((n : Int) - 1, n) := by
  unfold stepA Builtin.Slice.sliceAdjust Builtin.Slice.slicePlaces
  simp only [show (-1 : Int) < 0 by decide, if_true, show ¬ ((-1 : Int) > 0) by decide, if_false]
  congr 1
  rw [show -(-1 : Int) = 1 from rfl, Int.ediv_one]
  split <;> omega
theorem stepL_rev {α : Type} (xs : List α) : stepL xs none none (-1) = xs.reverse := by
  unfold stepL
  rw [stepA_rev]
  refine List.ext_getElem? fun i => ?_
  have e : ((List.range xs.length).filterMap fun (m : Nat) => xs[((xs.length : Int) - 1 + (m : Int) * -1).toNat]?) = (List.range xs.length).filterMap fun m => xs.reverse[m]? := by
    have : ∀ (l : List Nat), (∀ m ∈ l, m < xs.length) → (l.filterMap fun (m : Nat) => xs[((xs.length : Int) - 1 + (m : Int) * -1).toNat]?) = l.filterMap fun m => xs.reverse[m]? := by
      intro l
      induction l with
      | nil => intro _; rfl
      | cons m l ih =>
        intro h
        have hm := h m (List.mem_cons_self ..)
        rw [List.filterMap_cons, List.filterMap_cons, ih fun k hk => h k (List.mem_cons_of_mem _ hk), List.getElem?_reverse hm, show ((xs.length : Int) - 1 + (m : Int) * -1).toNat = xs.length - 1 - m by omega]
    exact this _ fun m hm => List.mem_range.mp hm
  show ((List.range xs.length).filterMap fun (m : Nat) => xs[((xs.length : Int) - 1 + (m : Int) * -1).toNat]?)[i]? = _
  rw [e]
  have : ∀ (ys : List α), (List.range ys.length).filterMap (fun m => ys[m]?) = ys := by
    intro ys
    induction ys with
    | nil => rfl
    | cons y ys ih =>
      rw [List.length_cons, List.range_succ_eq_map, List.filterMap_cons]
      show y :: _ = _
      rw [List.filterMap_map]
      show y :: (List.range ys.length).filterMap (fun m => ys[m]?) = _
      rw [ih]
  have e3 := this xs.reverse
  rw [List.length_reverse] at e3
  rw [e3]
theorem er_revT {α : Type} {K : PySem.W.Frag} {R : Rp α} [Me R] {σ : L2.St} {H : Hp} {te : TE} {xs : List α} (h : Er (rT K R) te σ H xs) (hz : xs.length ≤ sizeLine) : Er (rT K R) (tSl3 K te tNoPart tNoPart (tUn (rU fun i => .int (-i)) (tC (.int 1)))) σ H xs.reverse := by
  have := er_sl3 (c := -1) h eo0 eo0 (er_neg er_int) (by decide) (by decide) (by rw [stepL_rev, List.length_reverse]; exact hz)
  rw [stepL_rev] at this
  exact this
/-- every c-th from a on -/
def everyL {α : Type} (xs : List α) (a c : Int) : List α := stepL xs (some a) none c
theorem er_every {α : Type} {K : PySem.W.Frag} {R : Rp α} [Me R] {σ : L2.St} {H : Hp} {te ta ts : TE} {xs : List α} {a c : Int} (h : Er (rT K R) te σ H xs) (h1 : Er rI ta σ H a) (h3 : Er rI ts σ H c) (n1 : 2 ≤ c) (n0 : 0 ≤ a) (hz : xs.length ≤ sizeLine) : Er (rT K R) (tSl3 K te (tPart ta) tNoPart ts) σ H (everyL xs a c) := by
  refine er_sl3 h (eo1 h1) eo0 h3 (by omega) (by omega) (Nat.le_trans (stepL_len _ _ _ _) ?_)
  refine Nat.le_trans ?_ hz
  unfold stepA Builtin.Slice.sliceAdjust Builtin.Slice.slicePlaces
  simp only [show ¬ (c < 0) by omega, show c > 0 by omega, if_true, if_false, show ¬ (a < 0) by omega]
  split
  · have : ((xs.length : Int) - min a (xs.length : Int) - 1) / c ≤ (xs.length : Int) - min a (xs.length : Int) - 1 := Int.ediv_le_self _ (by omega)
    omega
  · omega
/-! ### xs[::-1] of a list -/
theorem pe_revLK {X : Cx} {e : Expr} {te : TE} {k : Nat} {p1 p2 p3 pos : Pos} (K : PySem.W.Frag) (he : PE X e te) (h : X.K = K := by rfl) : PE X (.Subscript e (.Slice none none (some (.UnaryOp .USub (.Constant (.int 1) k p1) p2)) p3) pos) (tRevL K te) := by subst h; exact pe_revL he
theorem el_revL {α : Type} {K : PySem.W.Frag} {R : Rp α} [Me R] {σ : L2.St} {H : Hp} {te : TE} {xs : List α} (h : Er (rL K R) te σ H xs) : El R (tRevL K te) σ H xs.reverse := fun H1 e Q q =>
  h H1 e _ fun v H2 e2 r => by
    obtain ⟨a, vs, rfl, hs, hp⟩ := r
    exact ⟨a, vs, rfl, hs, fun p np => q p _ (fresh_back e2 np) (e2.trans (Ex.new np)) ⟨_, upd_same, paired_reverse (pm hp fun _ _ z => Me.ex (Ex.new np) z)⟩⟩
end
section
/-! ### lists of own lists -/
variable {α : Type} {K : PySem.W.Frag} {R : Rp α}
def MtA (R : Rp α) (H : Hp) (p : Addr) (as : List Addr) (xss : List (List α)) : Prop := H p = some (.lst (as.map V.ref)) ∧ as.Nodup ∧ p ∉ as ∧ Paired (fun xs a => Lt R H a xs) xss as
theorem MtA.ex {H H' : Hp} {p : Addr} {as : List Addr} {xss : List (List α)} [Me R] (h : MtA R H p as xss) (e : Ex H H') : MtA R H' p as xss := ⟨e _ _ h.1, h.2.1, h.2.2.1, pm h.2.2.2 fun _ _ z => z.ex e⟩
theorem paired_pmem {α β : Type} {F G : α → β → Prop} : ∀ {l : List α} {m : List β}, Paired F l m → (∀ a b, b ∈ m → F a b → G a b) → Paired G l m
  | _, _, .nil, _ => .nil
  | _, _, .cons r t, f => .cons (f _ _ (List.mem_cons_self ..) r) (paired_pmem t fun a b hb => f a b (List.mem_cons_of_mem _ hb))
theorem MtA.keep {H H' : Hp} {p q : Addr} {as : List Addr} {xss : List (List α)} [Mkt K R] (h : MtA R H p as xss) (k : Kt K H H') (c : C1 q H H') (n1 : p ≠ q) (n2 : q ∉ as) : MtA R H' p as xss :=
  ⟨c _ _ n1 h.1, h.2.1, h.2.2.1, paired_pmem h.2.2.2 fun xs a ha z => z.keep k c (fun e => n2 (e ▸ ha))⟩
theorem MtA.ne {H : Hp} {p q : Addr} {as : List Addr} {xss : List (List α)} (h : MtA R H p as xss) (hq : H q = none) : p ≠ q := ne_of_none h.1 hq
theorem MtA.nin {H : Hp} {p q : Addr} {as : List Addr} {xss : List (List α)} (h : MtA R H p as xss) (hq : H q = none) : q ∉ as := fun hm => by
  obtain ⟨i, hi⟩ := List.getElem?_of_mem hm
  obtain ⟨xs, _, vs, h1, _⟩ := paired_get' h.2.2.2 hi
  rw [hq] at h1
  cases h1
theorem MtA.lt {H : Hp} {p : Addr} {as : List Addr} {xss : List (List α)} (h : MtA R H p as xss) : Lt (rL K R) H p xss := by
  refine ⟨as.map V.ref, h.1, ?_⟩
  have h4 := h.2.2.2
  clear h
  induction h4 with
  | nil => exact .nil
  | cons r _ ih => exact .cons r.rl ih
theorem MtA.row {H : Hp} {p : Addr} {as : List Addr} {xss : List (List α)} {i : Nat} {xs : List α} (h : MtA R H p as xss) (hx : xss[i]? = some xs) : ∃ a, as[i]? = some a ∧ a ∈ as ∧ Lt R H a xs := by
  obtain ⟨a, h1, h2⟩ := paired_get h.2.2.2 hx
  exact ⟨a, h1, List.mem_of_getElem? h1, h2⟩
theorem paired_upd {α β : Type} {F G : α → β → Prop} {x : α} : ∀ {l : List α} {m : List β} {i : Nat} {b : β}, m.Nodup → m[i]? = some b → Paired F l m → (∀ a c, c ≠ b → F a c → G a c) → G x b → Paired G (l.set i x) m
  | _, _, i, _, _, hi, .nil, _, _ => by simp at hi
  | _, _, 0, _, nd, hi, .cons r t, f, g => by
    simp only [List.getElem?_cons_zero, Option.some.injEq] at hi
    subst hi
    exact .cons g (paired_pmem t fun a c hc => f a c fun e => (List.nodup_cons.mp nd).1 (e ▸ hc))
  | _, _, i + 1, _, nd, hi, .cons r t, f, g => by
    simp only [List.getElem?_cons_succ] at hi
    refine .cons (f _ _ (fun e => (List.nodup_cons.mp nd).1 (e ▸ List.mem_of_getElem? hi)) r) (paired_upd (List.nodup_cons.mp nd).2 hi t f g)
theorem MtA.set {H H' : Hp} {p a : Addr} {as : List Addr} {xss : List (List α)} {i : Nat} {ys : List α} [Mkt K R] (h : MtA R H p as xss) (ha : as[i]? = some a) (k : Kt K H H') (c : C1 a H H') (l : Lt R H' a ys) : MtA R H' p as (xss.set i ys) :=
  ⟨c _ _ (fun e => h.2.2.1 (e ▸ List.mem_of_getElem? ha)) h.1, h.2.1, h.2.2.1, paired_upd h.2.1 ha h.2.2.2 (fun xs b n z => z.keep k c n) l⟩
/-- a new list of new lists -/
def Em (R : Rp α) (t : TE) (σ : L2.St) (H : Hp) (xss : List (List α)) : Prop := ∀ H1, Ex H H1 → ∀ Q : VK, (∀ p as H2, H1 p = none → (∀ a ∈ as, H1 a = none) → Ex H1 H2 → MtA R H2 p as xss → Q (.ref p) H2) → t σ H1 Q
section
variable {H : Hp} {σ : L2.St} {ta tb te tc : TE} {vs : List Nat} {j : Nat} {b : Addr} {Q : VK} {D : Ends} {tz : TS}
theorem nodup_snoc {as : List Addr} {a : Addr} (h : as.Nodup) (n : a ∉ as) : (as ++ [a]).Nodup := by
  rw [List.nodup_append]
  exact ⟨h, by simp, fun x hx y hy e => n (by rw [List.mem_singleton] at hy; exact hy ▸ e ▸ hx)⟩
theorem em_lcR1 [Me R] [Mkt K R] {hi : Int} {f : Int → List α} (h : Er rI ta σ H hi) (hb : -(2 ^ 62) ≤ hi ∧ hi < 1000000) (hw : ∀ x, wipe ((wipe σ vs).set j (some x)) vs = wipe σ vs)
    (he : ∀ x H1, Ex H H1 → (0 ≤ x ∧ x < hi) → El R te ((wipe σ vs).set j (some (.int x))) H1 (f x)) : Em R (tLc (iRng1 (tCons ta tNil)) (gName j) tYes te vs) σ H ((rng 0 hi).map f) := fun Ha e1 Q q => by
  refine h Ha e1 _ fun v H2 e2 r => ?_
  cases r
  have hln : (rng 0 hi).length = hi.toNat := by rw [rng_len, Int.sub_zero]
  refine ⟨hi, rfl, hb.1, by omega, fun D hD => ?_⟩
  refine ⟨fun i m H' => m = hi.toNat - i ∧ i ≤ hi.toNat ∧ Ex H2 H' ∧ ∃ as : List Addr, (∀ a ∈ as, H2 a = none) ∧ MtA R H' D as (((rng 0 hi).take i).map f), ⟨hi.toNat, rfl, Nat.zero_le _, Ex.new hD, [], (fun _ h => by cases h), upd_same, .nil, (by simp), .nil⟩, ?_⟩
  rintro i m H1 ⟨rfl, hi1, c1, as, hn, M1⟩
  by_cases hlt : i < hi.toNat
  · refine .inr ⟨hlt, fun H' => Ex H2 H' ∧ ∃ as : List Addr, (∀ a ∈ as, H2 a = none) ∧ MtA R H' D as (((rng 0 hi).take (i + 1)).map f), fun H' h => ⟨hi.toNat - (i + 1), by omega, rfl, hlt, h⟩, ?_⟩
    rintro u H3 ⟨rfl, rfl⟩
    refine ⟨hw _, ?_⟩
    show te _ H3 _
    refine he _ H3 ((e1.trans e2).trans c1) (by omega) H3 (Ex.refl H3) _ fun p H4 n4 e4 l4 => ?_
    have M4 := M1.ex e4
    have hl := paired_len M4.2.2.2
    have hpD : p ≠ D := Ne.symm (ne_of_none M1.1 n4)
    have hpa : p ∉ as := M1.nin n4
    have hx : (rng 0 hi)[i]? = some (0 + (i : Int)) := rng_get (by omega)
    have tk : (rng 0 hi).take (i + 1) = (rng 0 hi).take i ++ [0 + (i : Int)] := by rw [List.take_add_one, hx]; rfl
    have kt1 : Kt K H4 (upd H4 D (.lst (as.map V.ref ++ [.ref p]))) := Kt.c1 M4.1 (C1.up (C1.refl D H4))
    have cc : C1 D H4 (upd H4 D (.lst (as.map V.ref ++ [.ref p]))) := C1.up (C1.refl D H4)
    refine ⟨as.map V.ref, M4.1, sz0 (by rw [List.length_map, ← hl, List.length_map, List.length_take]; omega), fun a o ha => ?_, as ++ [p], fun a ha => ?_, ?_⟩
    · rw [upd_ne (ne_of_none ha hD)]
      exact e4 _ _ (c1 _ _ ha)
    · rcases List.mem_append.mp ha with ha | ha
      · exact hn a ha
      · rw [List.mem_singleton.mp ha]; exact fresh_back c1 n4
    · refine ⟨by rw [List.map_append]; exact upd_same, nodup_snoc M4.2.1 hpa, fun hm => ?_, ?_⟩
      · rcases List.mem_append.mp hm with hm | hm
        · exact M4.2.2.1 hm
        · exact hpD (List.mem_singleton.mp hm).symm
      · rw [tk, List.map_append]
        exact paired_append (paired_pmem M4.2.2.2 fun xs a ha z => z.keep kt1 cc fun e => M4.2.2.1 (e ▸ ha)) (.cons (l4.keep kt1 cc hpD) .nil)
  · have e : i = hi.toNat := by omega
    refine .inl ⟨Nat.le_of_not_lt hlt, ?_⟩
    rw [List.take_of_length_le (by omega)] at M1
    exact q D as H1 (fresh_back e2 hD) (fun a ha => fresh_back e2 (hn a ha)) (e2.trans c1) M1
/-- the body of a comprehension over a range, its items new lists drawn from the bag -/
theorem lcR1M [Me R] [Mkt K R] (Py : List α → Prop) (hB : Bag H b) {hi : Int} (hh : hi < 1000000) (hw : ∀ x, wipe ((wipe σ vs).set j (some x)) vs = wipe σ vs)
    (he : ∀ x H1 (C : VK), C1 b H H1 → Bag H1 b → (0 ≤ x ∧ x < hi) → (∀ p H2 y, H1 p = none → C1 b H1 H2 → Bag H2 b → Lt R H2 p y → Py y → C (.ref p) H2) → te ((wipe σ vs).set j (some (.int x))) H1 C)
    (q : ∀ p as H2 (ys : List (List α)), H p = none → (∀ a ∈ as, H a = none) → C1 b H H2 → Bag H2 b → ys.length = hi.toNat → (∀ y ∈ ys, Py y) → MtA R H2 p as ys → Q (.ref p) H2) :
    LcGo j te vs σ H hi Q := by
  intro D hD
  have hbD : b ≠ D := hB.ne hD
  refine ⟨fun i m H' => m = hi.toNat - i ∧ i ≤ hi.toNat ∧ C1 b H H' ∧ Bag H' b ∧ ∃ (as : List Addr) (ys : List (List α)), (∀ a ∈ as, H a = none) ∧ ys.length = i ∧ (∀ y ∈ ys, Py y) ∧ MtA R H' D as ys,
    ⟨hi.toNat, rfl, Nat.zero_le _, C1.ex (Ex.new hD), hB.ex (Ex.new hD), [], [], (fun _ h => by cases h), rfl, (fun _ h => by cases h), upd_same, .nil, (by simp), .nil⟩, ?_⟩
  rintro i m H1 ⟨rfl, hi1, c1, B1, as, ys, hn, hl, hy, M1⟩
  by_cases hlt : i < hi.toNat
  · refine .inr ⟨hlt, fun H' => C1 b H H' ∧ Bag H' b ∧ ∃ (as : List Addr) (ys : List (List α)), (∀ a ∈ as, H a = none) ∧ ys.length = i + 1 ∧ (∀ y ∈ ys, Py y) ∧ MtA R H' D as ys, fun H' h => ⟨hi.toNat - (i + 1), by omega, rfl, hlt, h⟩, ?_⟩
    rintro u H2 ⟨rfl, rfl⟩
    refine ⟨hw _, ?_⟩
    show te _ H2 _
    refine he _ H2 _ c1 B1 (by omega) fun p H3 y n3 c3 B3 r3 py => ?_
    have hba : b ∉ as := fun hm => by
      have := hn b hm
      obtain ⟨xs, hb⟩ := hB.there
      rw [this] at hb; cases hb
    have M3 := M1.keep (B1.kt (K := K) c3) c3 (Ne.symm hbD) hba
    have hl3 := paired_len M3.2.2.2
    have hpD : p ≠ D := Ne.symm (ne_of_none M1.1 n3)
    have hpa : p ∉ as := M1.nin n3
    have kt1 : Kt K H3 (upd H3 D (.lst (as.map V.ref ++ [.ref p]))) := Kt.c1 M3.1 (C1.up (C1.refl D H3))
    have cc : C1 D H3 (upd H3 D (.lst (as.map V.ref ++ [.ref p]))) := C1.up (C1.refl D H3)
    refine ⟨as.map V.ref, M3.1, sz0 (by rw [List.length_map]; omega), fun a o n h => ?_, B3.keep cc hbD, as ++ [p], ys ++ [y], fun a ha => ?_, by simp [hl], fun z hz => ?_, ?_⟩
    · rw [upd_ne (ne_of_none h hD)]
      exact c3 _ _ n (c1 _ _ n h)
    · rcases List.mem_append.mp ha with ha | ha
      · exact hn a ha
      · rw [List.mem_singleton.mp ha]; exact fb c1 B1 n3
    · rcases List.mem_append.mp hz with hz | hz
      · exact hy z hz
      · rw [List.mem_singleton.mp hz]; exact py
    · refine ⟨by rw [List.map_append]; exact upd_same, nodup_snoc M3.2.1 hpa, fun hm => ?_, ?_⟩
      · rcases List.mem_append.mp hm with hm | hm
        · exact M3.2.2.1 hm
        · exact hpD (List.mem_singleton.mp hm).symm
      · exact paired_append (paired_pmem M3.2.2.2 fun xs a ha z => z.keep kt1 cc fun e => M3.2.2.1 (e ▸ ha)) (.cons (r3.keep kt1 cc hpD) .nil)
  · have e : i = hi.toNat := by omega
    exact .inl ⟨Nat.le_of_not_lt hlt, q D as H1 ys hD hn c1 B1 (hl.trans e) hy M1⟩
theorem go_lcR1M [Me R] [Mkt K R] (Py : List α → Prop) (hB : Bag H b) {hi : Int} (h : Er rI ta σ H hi) (hh : -(2 ^ 62) ≤ hi ∧ hi < 1000000) (hw : ∀ x, wipe ((wipe σ vs).set j (some x)) vs = wipe σ vs)
    (he : ∀ x H1 (C : VK), C1 b H H1 → Bag H1 b → (0 ≤ x ∧ x < hi) → (∀ p H2 y, H1 p = none → C1 b H1 H2 → Bag H2 b → Lt R H2 p y → Py y → C (.ref p) H2) → te ((wipe σ vs).set j (some (.int x))) H1 C)
    (q : ∀ p as H2 (ys : List (List α)), H p = none → (∀ a ∈ as, H a = none) → C1 b H H2 → Bag H2 b → ys.length = hi.toNat → (∀ y ∈ ys, Py y) → MtA R H2 p as ys → Q (.ref p) H2) : tLc (iRng1 (tCons ta tNil)) (gName j) tYes te vs σ H Q := by
  refine h H (Ex.refl H) _ fun v H1 e r => ?_
  cases r
  refine ⟨hi, rfl, hh.1, by omega, lcR1M (K := K) Py (hB.ex e) hh.2 hw (fun x H2 C c => he x H2 C ((C1.ex e).trans c)) fun p as H2 ys n n' c => q p as H2 ys (fresh_back e n) (fun a ha => fresh_back e (n' a ha)) ((C1.ex e).trans c)⟩
/-- xss[i][k] = e -/
theorem s_set2 [Mkt K R] [Me R] {p : Addr} {as : List Addr} {xss : List (List α)} {i k : Int} {x : α} (l : MtA R H p as xss) (hj : σ[j]? = some (some (.ref p))) (h : Er R te σ H x) (hi : Er rI tb σ H i) (hk : Er rI tc σ H k) (h1 : -(xss.length : Int) ≤ i) (h2 : i < xss.length)
    (h3 : -((gt0 [] xss i).length : Int) ≤ k) (h4 : k < (gt0 [] xss i).length)
    (kont : ∀ a H1, a ∈ as → C1 a H H1 → Kt K H H1 → MtA R H1 p as (xss.set (ixs xss.length i) ((gt0 [] xss i).set (ixs (gt0 [] xss i).length k) x)) → D.nx σ H1) : tAsg te (gSub (tOp (rIxL K) (tVar j) tb) tc rSetL) D σ H := by
  refine h H (Ex.refl H) _ fun v H1 ex1 r => ⟨_, hj, ?_⟩
  refine hi H1 ex1 _ fun u H2 ex2 ri => ?_
  cases ri
  have hx := gt0_some (d := ([] : List α)) h1 h2
  obtain ⟨a, ha, ham, la⟩ := (l.ex (ex1.trans ex2)).row hx
  have hll := paired_len l.2.2.2
  refine ⟨p, as.map V.ref, i, .ref a, rfl, rfl, SqL.of (l.ex (ex1.trans ex2)).1, ?_, ?_⟩
  · refine atI_ixs (by rw [List.length_map, ← hll]; exact h1) (by rw [List.length_map, ← hll]; exact h2) ?_
    rw [List.length_map, ← hll, List.getElem?_map, ha]; rfl
  refine hk H2 (ex1.trans ex2) _ fun u H3 ex3 rk => ?_
  cases rk
  have M3 := l.ex ((ex1.trans ex2).trans ex3)
  obtain ⟨vs, e1, e2⟩ := la.ex ex3
  have hl := paired_len e2
  refine ⟨a, vs, k, ixs (gt0 [] xss i).length k, rfl, rfl, e1, by rw [← hl]; exact (ixN_ixs h3 h4).1, ?_⟩
  have kt1 : Kt K H3 (upd H3 a (.lst (vs.set (ixs (gt0 [] xss i).length k) v))) := Kt.c1 e1 (C1.up (C1.refl a H3))
  have cc : C1 a H3 (upd H3 a (.lst (vs.set (ixs (gt0 [] xss i).length k) v))) := C1.up (C1.refl a H3)
  exact kont a _ ham ((C1.ex ((ex1.trans ex2).trans ex3)).trans cc) ((Kt.ex ((ex1.trans ex2).trans ex3)).trans kt1) (M3.set ha kt1 cc ⟨_, upd_same, paired_set _ (pm e2 fun _ _ z => Mkt.kt kt1 z) (Mkt.kt ((Kt.ex (K := K) (ex2.trans ex3)).trans kt1) r)⟩)
theorem q_set2 [Mkt K R] [Me R] {p : Addr} {as : List Addr} {xss : List (List α)} {i k : Int} {x : α} (l : MtA R H p as xss) (hj : σ[j]? = some (some (.ref p))) (h : Er R te σ H x) (hi : Er rI tb σ H i) (hk : Er rI tc σ H k) (h1 : -(xss.length : Int) ≤ i) (h2 : i < xss.length)
    (h3 : -((gt0 [] xss i).length : Int) ≤ k) (h4 : k < (gt0 [] xss i).length)
    (kont : ∀ a H1, a ∈ as → C1 a H H1 → Kt K H H1 → MtA R H1 p as (xss.set (ixs xss.length i) ((gt0 [] xss i).set (ixs (gt0 [] xss i).length k) x)) → tz D σ H1) : tSeq (tAsg te (gSub (tOp (rIxL K) (tVar j) tb) tc rSetL)) tz D σ H :=
  s_set2 (K := K) (D := { D with nx := tz D }) l hj h hi hk h1 h2 h3 h4 kont
/-- xss[i].append(e) -/
theorem s_app2 [Mkt K R] [Me R] {p : Addr} {as : List Addr} {xss : List (List α)} {i : Int} {x : α} (l : MtA R H p as xss) (hj : σ[j]? = some (some (.ref p))) (hi : Er rI tb σ H i) (h : Er R te σ H x) (h1 : -(xss.length : Int) ≤ i) (h2 : i < xss.length)
    (hz : (gt0 [] xss i).length < 1000000)
    (kont : ∀ a H1, a ∈ as → C1 a H H1 → Kt K H H1 → MtA R H1 p as (xss.set (ixs xss.length i) ((gt0 [] xss i) ++ [x])) → D.nx σ H1) : tDrop (tBM K "list" rAppend (tOp (rIxL K) (tVar j) tb) (tCons te tNil)) D σ H := by
  refine ⟨_, hj, ?_⟩
  refine hi H (Ex.refl H) _ fun u H2 ex2 ri => ?_
  cases ri
  have hx := gt0_some (d := ([] : List α)) h1 h2
  obtain ⟨a, ha, ham, la⟩ := (l.ex ex2).row hx
  have hll := paired_len l.2.2.2
  refine ⟨p, as.map V.ref, i, .ref a, rfl, rfl, SqL.of (l.ex ex2).1, ?_, ?_⟩
  · refine atI_ixs (by rw [List.length_map, ← hll]; exact h1) (by rw [List.length_map, ← hll]; exact h2) ?_
    rw [List.length_map, ← hll, List.getElem?_map, ha]; rfl
  obtain ⟨vs0, e01, e02⟩ := id la
  refine ⟨.inl ⟨rfl, vs0, SqL.of e01⟩, ?_⟩
  refine h H2 ex2 _ fun v H3 ex3 r => ?_
  have M3 := l.ex (ex2.trans ex3)
  obtain ⟨vs, e1, e2⟩ := la.ex ex3
  have hl := paired_len e2
  refine ⟨a, vs, v, rfl, rfl, e1, by rw [← hl]; exact sz0 hz, ?_⟩
  have kt1 : Kt K H3 (upd H3 a (.lst (vs ++ [v]))) := Kt.c1 e1 (C1.up (C1.refl a H3))
  have cc : C1 a H3 (upd H3 a (.lst (vs ++ [v]))) := C1.up (C1.refl a H3)
  exact kont a _ ham ((C1.ex (ex2.trans ex3)).trans cc) ((Kt.ex (ex2.trans ex3)).trans kt1) (M3.set ha kt1 cc ⟨_, upd_same, paired_append (pm e2 fun _ _ z => Mkt.kt kt1 z) (.cons (Mkt.kt kt1 r) .nil)⟩)
theorem q_app2 [Mkt K R] [Me R] {p : Addr} {as : List Addr} {xss : List (List α)} {i : Int} {x : α} (l : MtA R H p as xss) (hj : σ[j]? = some (some (.ref p))) (hi : Er rI tb σ H i) (h : Er R te σ H x) (h1 : -(xss.length : Int) ≤ i) (h2 : i < xss.length)
    (hz : (gt0 [] xss i).length < 1000000)
    (kont : ∀ a H1, a ∈ as → C1 a H H1 → Kt K H H1 → MtA R H1 p as (xss.set (ixs xss.length i) ((gt0 [] xss i) ++ [x])) → tz D σ H1) : tSeq (tDrop (tBM K "list" rAppend (tOp (rIxL K) (tVar j) tb) (tCons te tNil))) tz D σ H :=
  s_app2 (K := K) (D := { D with nx := tz D }) l hj hi h h1 h2 hz kont
end
end
section
variable {α : Type} {K : PySem.W.Frag} {R : Rp α} {H H' : Hp} {σ : L2.St} {te : TE} {D : Ends} {tz : TS} {j : Nat}
theorem s_asgM {xss : List (List α)} (h : Em R te σ H xss) (k : ∀ p as H1, H p = none → (∀ a ∈ as, H a = none) → Ex H H1 → MtA R H1 p as xss → D.nx (σ.set j (some (.ref p))) H1) : tAsg te (gName j) D σ H := h H (Ex.refl H) _ k
theorem q_asgM {xss : List (List α)} (h : Em R te σ H xss) (k : ∀ p as H1, H p = none → (∀ a ∈ as, H a = none) → Ex H H1 → MtA R H1 p as xss → tz D (σ.set j (some (.ref p))) H1) : tSeq (tAsg te (gName j)) tz D σ H := h H (Ex.refl H) _ k
theorem Bag.nin {b : Addr} {as : List Addr} (h : Bag H b) (hn : ∀ a ∈ as, H a = none) : b ∉ as := fun hm => by
  obtain ⟨xs, e⟩ := h.there
  rw [hn b hm] at e
  cases e
theorem Lt.nin {p : Addr} {as : List Addr} {xs : List α} (h : Lt R H p xs) (hn : ∀ a ∈ as, H a = none) : p ∉ as := fun hm => by
  obtain ⟨vs, e, _⟩ := h
  rw [hn p hm] at e
  cases e
theorem all_fresh {as : List Addr} (e : Ex H H') (hn : ∀ a ∈ as, H' a = none) : ∀ a ∈ as, H a = none := fun a ha => fresh_back e (hn a ha)
theorem all_fb {b : Addr} {as : List Addr} (c : C1 b H H') (h : Bag H' b) (hn : ∀ a ∈ as, H' a = none) : ∀ a ∈ as, H a = none := fun a ha => fb c h (hn a ha)
theorem ne_in {p a : Addr} {as : List Addr} (h : p ∉ as) (ha : a ∈ as) : p ≠ a := fun e => h (e ▸ ha)
/-- xs.pop() -/
theorem paired_dropLast {α β : Type} {F : α → β → Prop} {l : List α} {m : List β} (h : Paired F l m) : Paired F l.dropLast m.dropLast := by
  rw [List.dropLast_eq_take, List.dropLast_eq_take, paired_len h]
  exact paired_take _ h
theorem s_pop [Mkt K R] {l : Addr} {xs : List α} (hl : Lt R H l xs) (hi : σ[j]? = some (some (.ref l))) (h0 : xs ≠ []) (k : ∀ H1, C1 l H H1 → Lt R H1 l xs.dropLast → D.nx σ H1) : tDrop (tBM0 K "list" rPop (tVar j)) D σ H := by
  obtain ⟨vs, h1, h2⟩ := hl
  have hlen := paired_len h2
  have hp : 0 < xs.length := List.length_pos_iff.mpr h0
  refine ⟨_, hi, .inl ⟨rfl, vs, SqL.of h1⟩, l, vs, vs[vs.length - 1]'(by omega), rfl, rfl, h1, List.getElem?_eq_getElem _, ?_⟩
  have kt1 : Kt K H (upd H l (.lst vs.dropLast)) := Kt.c1 h1 (C1.up (C1.refl l H))
  exact k _ (C1.up (C1.refl l H)) ⟨_, upd_same, pm (paired_dropLast h2) fun _ _ z => Mkt.kt kt1 z⟩
theorem q_pop [Mkt K R] {l : Addr} {xs : List α} (hl : Lt R H l xs) (hi : σ[j]? = some (some (.ref l))) (h0 : xs ≠ []) (k : ∀ H1, C1 l H H1 → Lt R H1 l xs.dropLast → tz D σ H1) : tSeq (tDrop (tBM0 K "list" rPop (tVar j))) tz D σ H := s_pop (D := { D with nx := tz D }) hl hi h0 k
end
open Lean.Grind (CommRing)

/-! ### a ring by its words -/
structure RingD (α : Type) where
  add : α → α → α
  mul : α → α → α
  zero : α
  one : α
  neg : α → α
  add_zero : ∀ a, add a zero = a
  add_comm : ∀ a b, add a b = add b a
  add_assoc : ∀ a b c, add (add a b) c = add a (add b c)
  mul_assoc : ∀ a b c, mul (mul a b) c = mul a (mul b c)
  mul_one : ∀ a, mul a one = a
  mul_comm : ∀ a b, mul a b = mul b a
  dist : ∀ a b c, mul a (add b c) = add (mul a b) (mul a c)
  neg_add : ∀ a, add (neg a) a = zero
namespace RingD
variable {α : Type} (d : RingD α)
def nat : Nat → α
  | 0 => d.zero
  | n + 1 => d.add (nat n) d.one
def int : Int → α
  | .ofNat n => d.nat n
  | .negSucc n => d.neg (d.nat (n + 1))
def pow (a : α) : Nat → α
  | 0 => d.one
  | n + 1 => d.mul (pow a n) a
theorem zero_add (a : α) : d.add d.zero a = a := by rw [d.add_comm, d.add_zero]
theorem one_mul (a : α) : d.mul d.one a = a := by rw [d.mul_comm, d.mul_one]
theorem dist' (a b c : α) : d.mul (d.add a b) c = d.add (d.mul a c) (d.mul b c) := by rw [d.mul_comm, d.dist, d.mul_comm c, d.mul_comm c]
theorem cancel {a b c : α} (h : d.add c a = d.add c b) : a = b := by
  have := congrArg (d.add (d.neg c)) h
  rwa [← d.add_assoc, ← d.add_assoc, d.neg_add, d.zero_add, d.zero_add] at this
theorem mul_zero (a : α) : d.mul a d.zero = d.zero := by
  apply d.cancel (c := d.mul a d.zero)
  rw [← d.dist, d.add_zero, d.add_zero]
theorem zero_mul (a : α) : d.mul d.zero a = d.zero := by rw [d.mul_comm, d.mul_zero]
theorem neg_zero : d.neg d.zero = d.zero := by rw [← d.add_zero (d.neg d.zero), d.neg_add]
theorem neg_neg (a : α) : d.neg (d.neg a) = a := by
  apply d.cancel (c := d.neg a)
  rw [d.add_comm, d.neg_add, d.neg_add]
theorem neg_mul (a b : α) : d.mul (d.neg a) b = d.neg (d.mul a b) := by
  apply d.cancel (c := d.mul a b)
  rw [← d.dist', d.add_comm a, d.neg_add, d.zero_mul, d.add_comm, d.neg_add]
theorem int_neg (i : Int) : d.int (-i) = d.neg (d.int i) := by
  cases i with
  | ofNat n =>
    cases n with
    | zero => exact d.neg_zero.symm
    | succ n => rfl
  | negSucc n => exact (d.neg_neg _).symm
@[reducible] def semi : Lean.Grind.Semiring α where
  add := d.add
  mul := d.mul
  natCast := ⟨d.nat⟩
  ofNat n := ⟨d.nat n⟩
  nsmul := ⟨fun n a => d.mul (d.nat n) a⟩
  npow := ⟨d.pow⟩
  add_zero := d.add_zero
  add_comm := d.add_comm
  add_assoc := d.add_assoc
  mul_assoc := d.mul_assoc
  mul_one a := by show d.mul a (d.add d.zero d.one) = a; rw [d.zero_add, d.mul_one]
  one_mul a := by show d.mul (d.add d.zero d.one) a = a; rw [d.zero_add, d.one_mul]
  left_distrib := d.dist
  right_distrib := d.dist'
  zero_mul := d.zero_mul
  mul_zero := d.mul_zero
  pow_zero a := by show d.one = d.add d.zero d.one; rw [d.zero_add]
  pow_succ _ _ := rfl
  ofNat_succ a := by show d.add (d.nat a) d.one = d.add (d.nat a) (d.add d.zero d.one); rw [d.zero_add]
  ofNat_eq_natCast _ := rfl
  nsmul_eq_natCast_mul _ _ := rfl
@[reducible] def ring : Lean.Grind.Ring α where
  toSemiring := d.semi
  neg := d.neg
  sub a b := d.add a (d.neg b)
  intCast := ⟨d.int⟩
  zsmul := ⟨fun i a => d.mul (d.int i) a⟩
  neg_add_cancel := d.neg_add
  sub_eq_add_neg _ _ := rfl
  neg_zsmul i a := by show d.mul (d.int (-i)) a = d.neg (d.mul (d.int i) a); rw [d.int_neg, d.neg_mul]
  zsmul_natCast_eq_nsmul _ _ := rfl
  intCast_ofNat _ := rfl
  intCast_neg := d.int_neg
@[reducible] def comm : CommRing α where
  toRing := d.ring
  mul_comm := d.mul_comm
end RingD

/-! ### sums -/
section
variable {R : Type} [CommRing R]
def sumTo (f : Nat → R) : Nat → R
  | 0 => 0
  | n + 1 => sumTo f n + f n
theorem sumTo_congr {f g : Nat → R} : ∀ {n : Nat}, (∀ i, i < n → f i = g i) → sumTo f n = sumTo g n
  | 0, _ => rfl
  | n + 1, h => by
    rw [sumTo, sumTo, sumTo_congr fun i hi => h i (by omega), h n (by omega)]
theorem sumTo_zero {f : Nat → R} : ∀ {n : Nat}, (∀ i, i < n → f i = 0) → sumTo f n = 0
  | 0, _ => rfl
  | n + 1, h => by
    rw [sumTo, sumTo_zero fun i hi => h i (by omega), h n (by omega)]
    grind
theorem sumTo_add (f g : Nat → R) : ∀ n : Nat, sumTo (fun i => f i + g i) n = sumTo f n + sumTo g n
  | 0 => by simp only [sumTo]; grind
  | n + 1 => by simp only [sumTo, sumTo_add f g n]; grind
theorem sumTo_mul (c : R) (f : Nat → R) : ∀ n : Nat, sumTo (fun i => c * f i) n = c * sumTo f n
  | 0 => by simp only [sumTo]; grind
  | n + 1 => by simp only [sumTo, sumTo_mul c f n]; grind
theorem sumTo_mulr (c : R) (f : Nat → R) (n : Nat) : sumTo (fun i => f i * c) n = sumTo f n * c := by
  rw [show (fun i => f i * c) = fun i => c * f i from funext fun i => by grind, sumTo_mul]
  grind
theorem sumTo_neg (f : Nat → R) : ∀ n : Nat, sumTo (fun i => -f i) n = -sumTo f n
  | 0 => by simp only [sumTo]; grind
  | n + 1 => by simp only [sumTo, sumTo_neg f n]; grind
theorem sumTo_head (f : Nat → R) : ∀ n : Nat, sumTo f (n + 1) = f 0 + sumTo (fun i => f (i + 1)) n
  | 0 => by simp only [sumTo]; grind
  | n + 1 => by rw [sumTo, sumTo_head f n]; simp only [sumTo]; grind
theorem sumTo_split (f : Nat → R) (m : Nat) : ∀ n : Nat, sumTo f (m + n) = sumTo f m + sumTo (fun i => f (m + i)) n
  | 0 => by simp only [sumTo, Nat.add_zero]; grind
  | n + 1 => by rw [← Nat.add_assoc, sumTo, sumTo_split f m n]; simp only [sumTo]; grind
theorem sumTo_rev (f : Nat → R) : ∀ n : Nat, sumTo (fun i => f (n - 1 - i)) n = sumTo f n
  | 0 => rfl
  | n + 1 => by
    rw [sumTo_head]
    rw [show f (n + 1 - 1 - 0) = f n from rfl, sumTo_congr (g := fun i => f (n - 1 - i)) fun i hi => by congr 1; omega, sumTo_rev f n]
    simp only [sumTo]; grind
/-- one place alone -/
theorem sumTo_one {f : Nat → R} {k : Nat} : ∀ {n : Nat}, k < n → (∀ i, i < n → i ≠ k → f i = 0) → sumTo f n = f k
  | 0, h, _ => by omega
  | n + 1, h, z => by
    rw [sumTo]
    by_cases e : k = n
    · subst e
      rw [sumTo_zero fun i hi => z i (by omega) (by omega)]; grind
    · rw [sumTo_one (n := n) (by omega) fun i hi => z i (by omega), z n (by omega) (by omega)]; grind
/-- noughts behind -/
theorem sumTo_more {f : Nat → R} {m n : Nat} (h : m ≤ n) (z : ∀ i, m ≤ i → i < n → f i = 0) : sumTo f n = sumTo f m := by
  obtain ⟨k, rfl⟩ : ∃ k, n = m + k := ⟨n - m, by omega⟩
  rw [sumTo_split, sumTo_zero (f := fun i => f (m + i)) fun i hi => z _ (by omega) (by omega)]
  grind
/-- two sums, turned about -/
theorem sumTo_swap (f : Nat → Nat → R) (m : Nat) : ∀ n : Nat, sumTo (fun i => sumTo (fun j => f i j) m) n = sumTo (fun j => sumTo (fun i => f i j) n) m
  | 0 => by simp only [sumTo]; rw [sumTo_zero fun _ _ => rfl]
  | n + 1 => by simp only [sumTo]; rw [sumTo_swap f m n, ← sumTo_add]
/-- a triangle of numbers by rows and by columns -/
theorem sumTo_tri (f : Nat → Nat → R) : ∀ n : Nat, sumTo (fun i => sumTo (fun j => f i j) (i + 1)) n = sumTo (fun j => sumTo (fun k => f (j + k) j) (n - j)) n
  | 0 => rfl
  | n + 1 => by
    rw [sumTo, sumTo_tri f n]
    rw [show sumTo (fun j => sumTo (fun k => f (j + k) j) (n + 1 - j)) (n + 1) = sumTo (fun j => sumTo (fun k => f (j + k) j) (n + 1 - j)) n + f n n from ?_]
    · rw [sumTo_congr (n := n) (f := fun j => sumTo (fun k => f (j + k) j) (n + 1 - j)) (g := fun j => sumTo (fun k => f (j + k) j) (n - j) + f n j) ?_, sumTo_add]
      · simp only [sumTo]; grind
      · intro j hj
        rw [show n + 1 - j = (n - j) + 1 from by omega]
        simp only [sumTo]
        rw [show j + (n - j) = n from by omega]
    · rw [sumTo]
      rw [show n + 1 - n = 1 from by omega]
      simp only [sumTo, Nat.add_zero]; grind

/-! ### series -/
end
def Ser (R : Type) := Nat → R
section
variable {R : Type} [CommRing R]
namespace Ser
theorem ext {f g : Ser R} (h : ∀ n, f n = g n) : f = g := funext h
def mulS (f g : Ser R) : Ser R := fun n => sumTo (fun i => f i * g (n - i)) (n + 1)
theorem mul_comm' (f g : Ser R) : mulS f g = mulS g f := by
  funext n
  unfold mulS
  rw [← sumTo_rev]
  exact sumTo_congr fun i hi => by
    rw [show n + 1 - 1 - i = n - i from by omega, show n - (n - i) = i from by omega]
    grind
theorem mul_assoc' (f g h : Ser R) : mulS (mulS f g) h = mulS f (mulS g h) := by
  funext n
  unfold mulS
  rw [sumTo_congr (g := fun i => sumTo (fun j => f j * g (i - j) * h (n - i)) (i + 1)) fun i hi => (sumTo_mulr _ _ _).symm]
  rw [sumTo_tri (fun i j => f j * g (i - j) * h (n - i))]
  exact sumTo_congr fun j hj => by
    rw [← sumTo_mul, show n + 1 - j = n - j + 1 from by omega]
    exact sumTo_congr fun k hk => by
      rw [show j + k - j = k from by omega, show n - j - k = n - (j + k) from by omega]
      grind
def ringD : RingD (Ser R) where
  add f g := fun n => f n + g n
  mul := mulS
  zero := fun _ => 0
  one := fun n => if n = 0 then 1 else 0
  neg f := fun n => -f n
  add_zero f := funext fun n => by grind
  add_comm f g := funext fun n => by grind
  add_assoc f g h := funext fun n => by grind
  mul_assoc := mul_assoc'
  mul_one f := funext fun n => by
    unfold mulS
    rw [sumTo_one (k := n) (by omega) fun i hi ne => by
      show f i * (if n - i = 0 then 1 else 0) = 0
      rw [if_neg (by omega)]; grind]
    show f n * (if n - n = 0 then 1 else 0) = f n
    rw [if_pos (by omega)]; grind
  mul_comm := mul_comm'
  dist f g h := funext fun n => by
    show mulS f (fun n => g n + h n) n = mulS f g n + mulS f h n
    unfold mulS
    rw [← sumTo_add]
    exact sumTo_congr fun i hi => by grind
  neg_add f := funext fun n => by grind
instance : CommRing (Ser R) := ringD.comm
theorem add_at (f g : Ser R) (n : Nat) : (f + g) n = f n + g n := rfl
theorem sub_at (f g : Ser R) (n : Nat) : (f - g) n = f n - g n := (by show f n + -g n = _; grind)
theorem neg_at (f : Ser R) (n : Nat) : (-f) n = -f n := rfl
theorem mul_at (f g : Ser R) (n : Nat) : (f * g) n = sumTo (fun i => f i * g (n - i)) (n + 1) := rfl
theorem zero_at (n : Nat) : (0 : Ser R) n = 0 := rfl
theorem one_at (n : Nat) : (1 : Ser R) n = if n = 0 then 1 else 0 := by
  show (0 : R) + (if n = 0 then 1 else 0) = _
  grind
/-- a number as a series; x -/
def c (a : R) : Ser R := fun n => if n = 0 then a else 0
def X (k : Nat) : Ser R := fun n => if n = k then 1 else 0
theorem c_mul (a : R) (f : Ser R) (n : Nat) : (c a * f) n = a * f n := by
  rw [mul_at, sumTo_one (k := 0) (by omega) fun i hi ne => by rw [c, if_neg ne]; grind]
  rw [c, if_pos rfl, Nat.sub_zero]
theorem X_mul (k : Nat) (f : Ser R) (n : Nat) : ((X k : Ser R) * f) n = if k ≤ n then f (n - k) else 0 := by
  rw [mul_at]
  split
  · rw [sumTo_one (k := k) (by omega) fun i hi ne => by rw [X, if_neg ne]; grind]
    rw [X, if_pos rfl]; grind
  · exact sumTo_zero fun i hi => by rw [X, if_neg (by omega)]; grind
theorem X_add (a b : Nat) : ((X a : Ser R) * X b) = X (a + b) := by
  funext n
  rw [X_mul]
  unfold X
  by_cases h : n = a + b
  · rw [if_pos (by omega), if_pos (by omega), if_pos h]
  · rw [if_neg h]
    split
    · rw [if_neg (by omega)]
    · rfl
theorem X_zero : (X 0 : Ser R) = 1 := by funext n; rw [one_at]; rfl
theorem c_add (a b : R) : (c (a + b) : Ser R) = c a + c b := by funext n; rw [add_at]; unfold c; split <;> grind
theorem c_mulc (a b : R) : (c (a * b) : Ser R) = c a * c b := by funext n; rw [c_mul]; unfold c; split <;> grind
theorem c_one : (c 1 : Ser R) = 1 := by funext n; rw [one_at]; rfl
theorem c_zero : (c 0 : Ser R) = 0 := by funext n; rw [zero_at]; unfold c; split <;> rfl
/-- alike below a place -/
def Eqb (n : Nat) (f g : Ser R) : Prop := ∀ i, i < n → f i = g i
theorem Eqb.refl (n : Nat) (f : Ser R) : Eqb n f f := fun _ _ => rfl
theorem Eqb.symm {n : Nat} {f g : Ser R} (h : Eqb n f g) : Eqb n g f := fun i hi => (h i hi).symm
theorem Eqb.trans {n : Nat} {f g h : Ser R} (a : Eqb n f g) (b : Eqb n g h) : Eqb n f h := fun i hi => (a i hi).trans (b i hi)
theorem Eqb.le {m n : Nat} {f g : Ser R} (h : Eqb n f g) (l : m ≤ n) : Eqb m f g := fun i hi => h i (by omega)
theorem Eqb.add {n : Nat} {f g f' g' : Ser R} (a : Eqb n f f') (b : Eqb n g g') : Eqb n (f + g) (f' + g') := fun i hi => by rw [add_at, add_at, a i hi, b i hi]
theorem Eqb.mul {n : Nat} {f g f' g' : Ser R} (a : Eqb n f f') (b : Eqb n g g') : Eqb n (f * g) (f' * g') := fun i hi => by
  rw [mul_at, mul_at]
  exact sumTo_congr fun j hj => by rw [a j (by omega), b (i - j) (by omega)]
/-- a series that has noughts below n, times one that has such below m -/
theorem mul_low {m n : Nat} {f g : Ser R} (hf : Eqb m f 0) (hg : Eqb n g 0) : Eqb (m + n) (f * g) 0 := fun i hi => by
  rw [mul_at, zero_at]
  exact sumTo_zero fun j hj => by
    by_cases h : j < m
    · rw [hf j h, zero_at]; grind
    · rw [hg (i - j) (by omega), zero_at]; grind
theorem mul0 (f g : Ser R) : (f * g) 0 = f 0 * g 0 := by rw [mul_at]; simp only [sumTo]; grind
end Ser
end

/-! ### numbers by p -/
def zpS (p : Int) : Setoid Int := ⟨fun a b => a % p = b % p, ⟨fun _ => rfl, fun h => h.symm, fun h k => h.trans k⟩⟩
def Zp (p : Int) := Quotient (zpS p)
def zp (p : Int) (a : Int) : Zp p := Quotient.mk (zpS p) a
theorem zp_eq {p a b : Int} : zp p a = zp p b ↔ a % p = b % p := ⟨fun h => Quotient.exact h, fun h => Quotient.sound h⟩
theorem Zp.ind {p : Int} {P : Zp p → Prop} (h : ∀ a, P (zp p a)) : ∀ x, P x := fun x => Quotient.ind h x
instance {p : Int} : DecidableEq (Zp p) := fun x y => Quotient.recOnSubsingleton₂ x y fun a b => decidable_of_iff (a % p = b % p) zp_eq.symm
def Zp.ringD (p : Int) : RingD (Zp p) where
  add := Quotient.lift₂ (fun a b => zp p (a + b)) fun a b c d h1 h2 => zp_eq.mpr (by
    have h1 : a % p = c % p := h1
    have h2 : b % p = d % p := h2
    rw [Int.add_emod, h1, h2, ← Int.add_emod])
  mul := Quotient.lift₂ (fun a b => zp p (a * b)) fun a b c d h1 h2 => zp_eq.mpr (by
    have h1 : a % p = c % p := h1
    have h2 : b % p = d % p := h2
    rw [Int.mul_emod, h1, h2, ← Int.mul_emod])
  zero := zp p 0
  one := zp p 1
  neg := Quotient.lift (fun a => zp p (-a)) fun a b h => zp_eq.mpr (by
    have h : a % p = b % p := h
    have := Int.emod_emod_of_dvd a (Int.dvd_refl p)
    rw [show -a = 0 - a from by omega, show -b = 0 - b from by omega, Int.sub_emod, h, ← Int.sub_emod])
  add_zero := Zp.ind fun a => by show zp p (a + 0) = _; rw [Int.add_zero]
  add_comm := Zp.ind fun a => Zp.ind fun b => by show zp p (a + b) = zp p (b + a); rw [Int.add_comm]
  add_assoc := Zp.ind fun a => Zp.ind fun b => Zp.ind fun c => by show zp p (a + b + c) = zp p (a + (b + c)); rw [Int.add_assoc]
  mul_assoc := Zp.ind fun a => Zp.ind fun b => Zp.ind fun c => by show zp p (a * b * c) = zp p (a * (b * c)); rw [Int.mul_assoc]
  mul_one := Zp.ind fun a => by show zp p (a * 1) = _; rw [Int.mul_one]
  mul_comm := Zp.ind fun a => Zp.ind fun b => by show zp p (a * b) = zp p (b * a); rw [Int.mul_comm]
  dist := Zp.ind fun a => Zp.ind fun b => Zp.ind fun c => by show zp p (a * (b + c)) = zp p (a * b + a * c); rw [Int.mul_add]
  neg_add := Zp.ind fun a => by show zp p (-a + a) = zp p 0; rw [Int.add_left_neg]
instance {p : Int} : CommRing (Zp p) := (Zp.ringD p).comm
section
variable {p : Int}
theorem zp_add (a b : Int) : zp p (a + b) = zp p a + zp p b := rfl
theorem zp_mul (a b : Int) : zp p (a * b) = zp p a * zp p b := rfl
theorem zp_neg (a : Int) : zp p (-a) = -zp p a := rfl
theorem zp_sub (a b : Int) : zp p (a - b) = zp p a - zp p b := rfl
theorem zp_zero : zp p 0 = 0 := rfl
theorem zp_one : zp p 1 = 1 := rfl
theorem zp_mod (a : Int) : zp p (a % p) = zp p a := zp_eq.mpr (Int.emod_emod_of_dvd a (Int.dvd_refl p))
/-- numbers of p -/
def Nm (p a : Int) : Prop := 0 ≤ a ∧ a < p
theorem Nm.mod {a : Int} (hp : 0 < p) : Nm p (a % p) := ⟨Int.emod_nonneg a (by omega), Int.emod_lt_of_pos a hp⟩
theorem Nm.eq {a b : Int} (ha : Nm p a) (hb : Nm p b) (h : zp p a = zp p b) : a = b := by
  have := zp_eq.mp h
  rwa [Int.emod_eq_of_lt ha.1 ha.2, Int.emod_eq_of_lt hb.1 hb.2] at this
theorem Nm.self {a : Int} (ha : Nm p a) : a % p = a := Int.emod_eq_of_lt ha.1 ha.2
end
section
/-! ### lists of numbers as series -/
def ser (p : Int) (xs : List Int) : Ser (Zp p) := fun i => zp p (xs.getD i 0)
def Nms (p : Int) (xs : List Int) : Prop := ∀ x ∈ xs, 0 ≤ x ∧ x < p
def Pol (p : Int) (xs : List Int) : Prop := Nms p xs ∧ ∀ x, xs.getLast? = some x → x ≠ 0
variable {p : Int}
theorem getD_nms {xs : List Int} (hp : 0 < p) (h : Nms p xs) (i : Nat) : Nm p (xs.getD i 0) := by
  rw [List.getD_eq_getElem?_getD]
  cases e : xs[i]? with
  | none => exact ⟨Int.le_refl 0, hp⟩
  | some x => exact h x (List.mem_of_getElem? e)
theorem gt0_getD (xs : List Int) (i : Nat) : gt0 (0 : Int) xs (i : Int) = xs.getD i 0 := by rw [gt0_nat, List.getD_eq_getElem?_getD]
theorem ser_nil : ser p [] = 0 := by funext i; rfl
theorem ser_at (xs : List Int) (i : Nat) : ser p xs i = zp p (xs.getD i 0) := rfl
theorem ser_cons (a : Int) (xs : List Int) : ser p (a :: xs) = Ser.c (zp p a) + Ser.X 1 * ser p xs := by
  funext i
  rw [Ser.add_at, Ser.X_mul]
  cases i with
  | zero => unfold Ser.c; rw [if_pos rfl, if_neg (by omega)]; show zp p a = _; grind
  | succ i => unfold Ser.c; rw [if_neg (by omega), if_pos (by omega)]; show zp p (xs.getD i 0) = 0 + zp p (xs.getD (i + 1 - 1) 0); rw [Nat.add_sub_cancel]; grind
theorem ser_rep0 (n : Nat) : ser p (List.replicate n 0) = 0 := by
  funext i
  show zp p ((List.replicate n (0 : Int)).getD i 0) = 0
  rw [List.getD_eq_getElem?_getD, List.getElem?_replicate]
  split <;> rfl
theorem ser_app0 (xs : List Int) (n : Nat) : ser p (xs ++ List.replicate n 0) = ser p xs := by
  funext i
  rw [ser_at, ser_at, List.getD_eq_getElem?_getD, List.getD_eq_getElem?_getD]
  by_cases h : i < xs.length
  · rw [List.getElem?_append_left h]
  · rw [List.getElem?_append_right (by omega), List.getElem?_eq_none (l := xs) (by omega), List.getElem?_replicate]
    split <;> rfl
theorem ser_take (xs : List Int) (n i : Nat) : ser p (xs.take n) i = if i < n then ser p xs i else 0 := by
  rw [ser_at, ser_at, List.getD_eq_getElem?_getD, List.getD_eq_getElem?_getD]
  split
  · rw [List.getElem?_take_of_lt (by omega)]
  · rw [List.getElem?_eq_none (by rw [List.length_take]; omega)]; rfl
theorem ser_high {xs : List Int} {i : Nat} (h : xs.length ≤ i) : ser p xs i = 0 := by
  rw [ser_at, List.getD_eq_getElem?_getD, List.getElem?_eq_none h]; rfl
theorem ser_app (xs ys : List Int) : ser p (xs ++ ys) = ser p xs + Ser.X xs.length * ser p ys := by
  funext i
  rw [Ser.add_at, Ser.X_mul]
  by_cases h : i < xs.length
  · rw [if_neg (by omega), ser_at, ser_at, List.getD_eq_getElem?_getD, List.getD_eq_getElem?_getD, List.getElem?_append_left h]; grind
  · rw [if_pos (by omega), ser_high (xs := xs) (by omega), ser_at, ser_at, List.getD_eq_getElem?_getD, List.getD_eq_getElem?_getD, List.getElem?_append_right (by omega)]; grind
/-- one number put otherwise -/
theorem getD_set (s : List Int) (k : Nat) (v : Int) (i : Nat) : (s.set k v).getD i 0 = if i = k ∧ k < s.length then v else s.getD i 0 := by
  rw [List.getD_eq_getElem?_getD, List.getD_eq_getElem?_getD, List.getElem?_set]
  by_cases h : k = i
  · subst h
    rw [if_pos rfl]
    split
    · rw [if_pos ⟨rfl, by assumption⟩]; rfl
    · rw [if_neg (by omega), List.getElem?_eq_none (by omega)]
  · rw [if_neg h, if_neg (by omega)]
theorem nms_set {s : List Int} {k : Nat} {v : Int} (h : Nms p s) (hv : Nm p v) : Nms p (s.set k v) := fun x hx => by
  rcases List.mem_or_eq_of_mem_set hx with h1 | h1
  · exact h x h1
  · rw [h1]; exact hv
theorem nms_app {s t : List Int} (h : Nms p s) (h' : Nms p t) : Nms p (s ++ t) := fun x hx => (List.mem_append.mp hx).elim (h x) (h' x)
theorem nms_rep0 (hp : 0 < p) (n : Nat) : Nms p (List.replicate n 0) := fun x hx => by rw [List.eq_of_mem_replicate hx]; exact ⟨Int.le_refl 0, hp⟩
theorem nms_take {s : List Int} (h : Nms p s) (n : Nat) : Nms p (s.take n) := fun x hx => h x (List.mem_of_mem_take hx)
theorem nms_drop {s : List Int} (h : Nms p s) (n : Nat) : Nms p (s.drop n) := fun x hx => h x (List.mem_of_mem_drop hx)

/-! ### noughts at the end left out -/
def trimG {α : Type} [DecidableEq α] (z : α) : List α → List α
  | [] => []
  | a :: t => if trimG z t = [] ∧ a = z then [] else a :: trimG z t
abbrev trimL : List Int → List Int := trimG 0
abbrev trim2 : List (List Int) → List (List Int) := trimG []
theorem trim_ser : ∀ xs : List Int, ser p (trimL xs) = ser p xs
  | [] => rfl
  | a :: t => by
    unfold trimL trimG
    split
    · rename_i h
      have h1 : trimL t = [] := h.1
      rw [ser_cons, ← trim_ser t, h1, h.2, ser_nil]
      funext i
      rw [Ser.add_at]
      rw [zp_zero, Ser.c_zero, show ((Ser.X 1 : Ser (Zp p)) * 0) = 0 from by grind, Ser.zero_at]; grind
    · rw [ser_cons, ser_cons, trim_ser t]
theorem trim_mem {α : Type} [DecidableEq α] {z : α} : ∀ {xs : List α} {x : α}, x ∈ trimG z xs → x ∈ xs
  | a :: t, x, h => by
    unfold trimG at h
    split at h
    · cases h
    · rcases List.mem_cons.mp h with h | h
      · exact h ▸ List.mem_cons_self ..
      · exact List.mem_cons_of_mem _ (trim_mem h)
theorem trim_last {α : Type} [DecidableEq α] {z : α} : ∀ {xs : List α} {x : α}, (trimG z xs).getLast? = some x → x ≠ z
  | a :: t, x, h => by
    unfold trimG at h
    split at h
    · cases h
    · rename_i hn
      cases e : trimG z t with
      | nil =>
        rw [e] at h hn
        have : a = x := by simpa using h
        rw [← this]
        exact fun z => hn ⟨rfl, z⟩
      | cons b r =>
        rw [e, List.getLast?_cons_cons] at h
        rw [← e] at h
        exact trim_last h
theorem trim_len {α : Type} [DecidableEq α] {z : α} : ∀ xs : List α, (trimG z xs).length ≤ xs.length
  | [] => Nat.le_refl 0
  | a :: t => by
    unfold trimG
    split
    · exact Nat.zero_le _
    · have := trim_len (z := z) t
      simp only [List.length_cons]; omega
theorem Pol.trim {xs : List Int} (h : Nms p xs) : Pol p (trimL xs) := ⟨fun x hx => h x (trim_mem hx), fun x hx => trim_last hx⟩
theorem Pol.nil : Pol p [] := ⟨(fun x h => by cases h), (fun x h => by cases h)⟩
theorem Pol.tail {a : Int} {t : List Int} (h : Pol p (a :: t)) : Pol p t := ⟨fun x hx => h.1 x (List.mem_cons_of_mem _ hx), fun x hx => by
  cases t with
  | nil => cases hx
  | cons b r => exact h.2 x (by rw [List.getLast?_cons_cons]; exact hx)⟩
theorem Pol.zero : ∀ {xs : List Int}, Pol p xs → ser p xs = 0 → xs = []
  | [], _, _ => rfl
  | a :: t, h, e => by
    exfalso
    have ha : a = 0 := Nm.eq (h.1 a (List.mem_cons_self ..)) (Nm.mod (p := p) (a := 0) (by have := h.1 a (List.mem_cons_self ..); omega) |> fun z => by simpa using z) (congrFun e 0)
    have ht : ser p t = 0 := funext fun i => congrFun e (i + 1)
    have := Pol.zero h.tail ht
    subst this
    exact h.2 a rfl ha
/-- a polynomial is told by its series -/
theorem Pol.ext : ∀ {xs ys : List Int}, Pol p xs → Pol p ys → ser p xs = ser p ys → xs = ys
  | [], ys, _, hy, e => (Pol.zero hy e.symm).symm
  | a :: t, [], hx, _, e => Pol.zero hx e
  | a :: t, b :: u, hx, hy, e => by
    have h1 : a = b := Nm.eq (hx.1 a (List.mem_cons_self ..)) (hy.1 b (List.mem_cons_self ..)) (congrFun e 0)
    have h2 : t = u := Pol.ext hx.tail hy.tail (funext fun i => congrFun e (i + 1))
    rw [h1, h2]
theorem trim_self {xs : List Int} (h : Pol p xs) : trimL xs = xs := Pol.ext (Pol.trim h.1) h (trim_ser xs)
/-- the last number of a polynomial -/
theorem Pol.len_of {xs : List Int} {n : Nat} (h : Pol p xs) (z : ∀ i, n ≤ i → ser p xs i = 0) : xs.length ≤ n := by
  apply Nat.le_of_not_lt
  intro hl
  have hne : xs ≠ [] := by rintro rfl; simp at hl
  have h1 := z (xs.length - 1) (by omega)
  have h2 : xs.getLast? = some (xs.getD (xs.length - 1) 0) := by
    rw [List.getLast?_eq_getElem?, List.getD_eq_getElem?_getD, List.getElem?_eq_getElem (by omega)]; rfl
  refine h.2 _ h2 ?_
  have hm := h.1 _ (List.mem_of_getLast? h2)
  exact Nm.eq hm ⟨Int.le_refl 0, by omega⟩ h1

/-! ### the folds -/
theorem ixs_nat (n i : Nat) : ixs n (i : Int) = i := by unfold ixs; rw [if_pos (by omega)]; omega
theorem enm_cons {α : Type} (x : α) (t : List α) : enm (x :: t) = (0, x) :: (enm t).map fun q => (q.1 + 1, q.2) := by
  refine List.ext_getElem? fun i => ?_
  cases i with
  | zero => rfl
  | succ i =>
    rw [List.getElem?_cons_succ, List.getElem?_map]
    by_cases h : i < t.length
    · rw [enm_get (xs := x :: t) (i := i + 1) (x := t[i]) (by rw [List.getElem?_cons_succ, List.getElem?_eq_getElem h]), enm_get (List.getElem?_eq_getElem h)]
      simp
    · rw [List.getElem?_eq_none (by rw [enm_len, List.length_cons]; omega), List.getElem?_eq_none (by rw [enm_len]; omega)]; rfl
theorem enm_snoc {α : Type} (t : List α) (x : α) : enm (t ++ [x]) = enm t ++ [((t.length : Int), x)] := by
  unfold enm
  rw [List.zipIdx_append, List.map_append]
  simp
theorem enm_take {α : Type} (xs : List α) (n : Nat) : (enm xs).take n = enm (xs.take n) := by
  refine List.ext_getElem? fun i => ?_
  by_cases h : i < n
  · rw [List.getElem?_take_of_lt h]
    by_cases h2 : i < xs.length
    · rw [enm_get (List.getElem?_eq_getElem h2), enm_get (xs := xs.take n) (x := xs[i]) (by rw [List.getElem?_take_of_lt h, List.getElem?_eq_getElem h2])]
    · rw [List.getElem?_eq_none (by rw [enm_len]; omega), List.getElem?_eq_none (by rw [enm_len, List.length_take]; omega)]
  · rw [List.getElem?_eq_none (by rw [List.length_take]; omega), List.getElem?_eq_none (by rw [enm_len, List.length_take]; omega)]
theorem snoc_ind {α : Type} {P : List α → Prop} (h0 : P []) (h1 : ∀ t a, P t → P (t ++ [a])) (xs : List α) : P xs := by
  have : ∀ n : Nat, ∀ xs : List α, xs.length = n → P xs := by
    intro n
    induction n with
    | zero => intro xs h; rw [List.length_eq_zero_iff.mp h]; exact h0
    | succ n ih =>
      intro xs h
      have hne : xs ≠ [] := by rintro rfl; simp at h
      rw [← List.dropLast_concat_getLast hne]
      exact h1 _ _ (ih _ (by rw [List.length_dropLast]; omega))
  exact this _ xs rfl
/-- some numbers added, from a place on, so often -/
theorem fold_add {st : List Int → Int × Int → List Int} {k : Nat} {c : Int} (hp : 0 < p) (hst : ∀ s x, st s x = s.set (ixs s.length ((k : Int) + x.1)) ((gt0 (0 : Int) s ((k : Int) + x.1) + c * x.2) % p)) (other : List Int) :
    ∀ (s : List Int), Nms p s → k + other.length ≤ s.length → (List.foldl st s (enm other)).length = s.length ∧ Nms p (List.foldl st s (enm other)) ∧ ser p (List.foldl st s (enm other)) = ser p s + Ser.c (zp p c) * (Ser.X k * ser p other) := by
  refine snoc_ind (P := fun other => ∀ (s : List Int), Nms p s → k + other.length ≤ s.length → (List.foldl st s (enm other)).length = s.length ∧ Nms p (List.foldl st s (enm other)) ∧ ser p (List.foldl st s (enm other)) = ser p s + Ser.c (zp p c) * (Ser.X k * ser p other)) ?_ (fun t a ih => ?_) other
  · exact fun s h _ => ⟨rfl, h, by show ser p s = ser p s + _ * (_ * ser p []); rw [ser_nil]; grind⟩
  · intro s h hl
    rw [List.length_append, List.length_singleton] at hl
    obtain ⟨i1, i2, i3⟩ := ih s h (by omega)
    rw [enm_snoc, List.foldl_append, List.foldl_cons, List.foldl_nil]
    generalize List.foldl st s (enm t) = u at i1 i2 i3
    rw [hst, show (k : Int) + (t.length : Int) = ((k + t.length : Nat) : Int) by omega, ixs_nat, gt0_getD]
    refine ⟨by rw [List.length_set, i1], nms_set i2 (Nm.mod hp), ?_⟩
    funext i
    have e3 := congrFun i3 i
    rw [Ser.add_at, Ser.c_mul, Ser.X_mul] at e3 ⊢
    rw [ser_at, getD_set, ser_app, Ser.add_at, Ser.X_mul, i1]
    by_cases hi : i = k + t.length
    · subst hi
      rw [if_pos ⟨rfl, by omega⟩, zp_mod, zp_add, zp_mul]
      rw [ser_at] at e3
      rw [e3, if_pos (by omega), if_pos (by omega), if_pos (by omega), ser_high (xs := t) (by omega)]
      show _ = _ + _ * (_ + zp p ([a].getD (k + t.length - k - t.length) 0))
      rw [show k + t.length - k - t.length = 0 by omega]
      show _ = _ + _ * (_ + zp p a)
      grind
    · rw [if_neg (by omega), ← ser_at, e3]
      split
      · split
        · rw [ser_high (xs := [a]) (by simp; omega)]; grind
        · grind
      · rfl
end
section
/-! ### back_of; noughts left out by a while -/
variable {p : Int}
def bk (p a : Int) : Int := gt0 (0 : Int) (((rng 0 p).filter fun x => decide (a * x % p = 1)).map fun x => x) 0
theorem bk_ok {p a : Int} (hp : Pr p) (ha : 0 < a ∧ a < p) : 0 < (((rng 0 p).filter fun x => decide (a * x % p = 1)).map fun x => x).length ∧ 0 ≤ bk p a ∧ bk p a < p ∧ a * bk p a % p = 1 := by
  rcases hp with rfl | rfl | rfl
  · have : a = 1 := by omega
    subst this; decide
  · have : a = 1 ∨ a = 2 := by omega
    rcases this with rfl | rfl <;> decide
  · have : a = 1 ∨ a = 2 ∨ a = 3 ∨ a = 4 := by omega
    rcases this with rfl | rfl | rfl | rfl <;> decide
theorem bk_zp {p a : Int} (hp : Pr p) (ha : 0 < a ∧ a < p) : zp p a * zp p (bk p a) = 1 := by
  have h := (bk_ok hp ha).2.2.2
  rw [← zp_mul, ← zp_mod, h]; rfl
theorem trim_snoc {α : Type} [DecidableEq α] {z : α} (t : List α) (a : α) : trimG z (t ++ [a]) = if a = z then trimG z t else t ++ [a] := by
  induction t with
  | nil =>
    show (if trimG z [] = [] ∧ a = z then [] else a :: trimG z []) = _
    by_cases h : a = z
    · rw [if_pos ⟨rfl, h⟩, if_pos h]; rfl
    · rw [if_neg (fun z => h z.2), if_neg h]; rfl
  | cons b t ih =>
    show (if trimG z (t ++ [a]) = [] ∧ b = z then [] else b :: trimG z (t ++ [a])) = _
    rw [ih]
    by_cases h : a = z
    · rw [if_pos h, if_pos h]; rfl
    · rw [if_neg h, if_neg h, if_neg (fun z => by simp at z)]; rfl
theorem gt0_pred {α : Type} {d : α} {xs : List α} {s : Int} (h0 : 0 < s) (h1 : s ≤ (xs.length : Int)) : ∃ h : (s - 1).toNat < xs.length, gt0 d xs (s - 1) = xs[(s - 1).toNat] := by
  have hl : (s - 1).toNat < xs.length := by omega
  refine ⟨hl, ?_⟩
  rw [show gt0 d xs (s - 1) = gt0 d xs (((s - 1).toNat : Nat) : Int) by congr 1; omega, gt0_nat, List.getElem?_eq_getElem hl]
  rfl
theorem trim_step {α : Type} [DecidableEq α] {z d : α} {xs : List α} {s : Int} (h : trimG z (xs.take s.toNat) = trimG z xs) (h0 : 0 < s) (h1 : s ≤ (xs.length : Int)) (h2 : gt0 d xs (s - 1) = z) : trimG z (xs.take (s - 1).toNat) = trimG z xs := by
  have e : s.toNat = (s - 1).toNat + 1 := by omega
  obtain ⟨hl, e2⟩ := gt0_pred (d := d) h0 h1
  rw [← h, e, List.take_add_one, List.getElem?_eq_getElem hl, ← e2, h2]
  show _ = trimG z (_ ++ [z])
  rw [trim_snoc, if_pos rfl]
theorem cut_to {α : Type} {xs : List α} {s : Int} (h0 : 0 ≤ s) : cutL xs none (some s) = xs.take s.toNat := by
  rw [show s = ((s.toNat : Nat) : Int) by omega, cutL_hi, Int.toNat_natCast]
theorem cut_from {α : Type} {xs : List α} {s : Int} (h0 : 0 ≤ s) : cutL xs (some s) none = xs.drop s.toNat := by
  rw [show s = ((s.toNat : Nat) : Int) by omega, cutL_lo, Int.toNat_natCast]
theorem trim_end {α : Type} [DecidableEq α] {z d : α} {xs : List α} {s : Int} (h0 : 0 ≤ s) (h : trimG z (xs.take s.toNat) = trimG z xs) (hl : s ≤ (xs.length : Int)) (hb : ¬ s > 0 ∨ ¬ gt0 d xs (s - 1) = z) : cutL xs none (some s) = trimG z xs := by
  rw [cut_to h0, ← h]
  by_cases hs : s > 0
  · have h2 := hb.resolve_left (fun z => z hs)
    have e : s.toNat = (s - 1).toNat + 1 := by omega
    obtain ⟨hl2, e2⟩ := gt0_pred (d := d) hs hl
    rw [e, List.take_add_one, List.getElem?_eq_getElem hl2, ← e2]
    show _ = trimG z (_ ++ [gt0 d xs (s - 1)])
    rw [trim_snoc, if_neg h2]; rfl
  · have : s = 0 := by omega
    subst this
    rfl
/-- the number with no x and no y -/
def cornerL (two : List (List Int)) : Int := gt0 (0 : Int) (gt0 [] two 0) 0
/-- twos of bounded size -/
def Tws (p : Int) (n : Nat) (t : List (List Int)) : Prop := t.length ≤ n ∧ ∀ x ∈ t, Nms p x ∧ x.length ≤ n
end
end Dg

set_option maxRecDepth 100000
set_option maxHeartbeats 4000000
namespace Dg
open PySem PySem.Spec PyProof.Rows L2 Evl
open SX (S)
section
open L2N (Zn)
open L2H HotX
/-! ### defs that are called while an error is handled, the error among their arguments -/
structure FnE (P : Program) (w : World) (K : PySem.W.Frag) (mg : Str → Option Value) (base : Heap) (CX : CXT) (k : Nat) (f : Addr) (fd : FuncData) (ps : List Str) (sp : Addr × Obj → Sp) : Prop where
  len : ∀ q vs H Q E, sp q vs H Q E → vs.length = ps.length
  run : ∀ (A : Around) (outer : List Env) (s : Shared) (H : Hp) (args : Args) (us : List Value) (vs : List V) (Q : VK) (E : XK) (q : Addr × Obj),
    RoomH k A → Hot1 A q → PinOk outer H s q → Env0 P w K mg base A outer s H →
    BindsTo s fd args (ps.zip us) → Vals vs us → sp q vs H Q E → codeAny (model P w) A (.call (.ref f) args) (CR CX outer P w H s Q E) s
section
variable {P : Program} {w : World} {K : PySem.W.Frag} {mg : Str → Option Value} {base : Heap} {CX : CXT} {k : Nat}
/-- such a def by its body -/
theorem fnE_of {x qual : Str} {st : Stmt} {f : Addr} {fd : FuncData} {N ps : List Str} {sp : Addr × Obj → Sp} (F : Fun K x qual st f fd) (S : FnScope N ps (defScope st)) (len : ∀ q vs H Q E, sp q vs H Q E → vs.length = ps.length)
    (body : ∀ (cdv : Value) (A : Around) (outer : List Env) (s : Shared) (H : Hp) (vs : List V) (Q : VK) (E : XK) (q : Addr × Obj), Hot1 A q → RoomH k (A.deeper (envOfC qual (defScope st) s.heap.objs.size f cdv)) → sp q vs H Q E →
      ∃ t, PSs (cxH CX P w K mg base N qual (defScope st) f cdv A outer s H E q) (defBody st) t ∧ t { nx := fun _ H' => Q .non H', rt := Q } (L2.start N vs) H) :
    FnE P w K mg base CX (k + 1) f fd ps sp := by
  obtain ⟨oc, od, kV, doc, pm, an, cdv, ct, osl, rfl, lk, hcd⟩ := F.ex
  refine ⟨len, fun A outer s H args us vs Q E q room hot pin e0 bind rel hq => ?_⟩
  have l0 := len _ _ _ _ _ hq
  have at0 : ∀ b o, base.get? b = some o → s.heap.get? b = some o := fun b o e => (e0.bs b o e).1
  have inK : K.In s.heap := e0.mod.kin.keeps at0
  have kinds : ∀ y ∈ ps.zip us, (defScope st).names.lookup y.1 = some .local ∨ ((defScope st).names.lookup y.1 = some .cell ∧ ((cellsFrom (s.heap.objs.size + 1) (defScope st).names []).lookup y.1).isSome = true) := by
    rintro ⟨n, v⟩ hy
    exact (S.par n (List.of_mem_zip hy).1).imp id fun z => ⟨z, PySem.W.cellsFrom_some _ _ _ (.inl z)⟩
  apply codeAny_call_function room.depth (inK _ _ lk) rfl S.co S.gen rfl (PySem.W.codeRec_of inK hcd)
  apply bind
  apply wpAny_newFunctionEnv_cells S.kind kinds
  rintro env rfl s1 x
  refine ⟨(e0.mod.nolimit.keeps at0).keeps x.toInCall.keep, codeAny_func ?_⟩
  obtain ⟨t, rd, ans⟩ := body cdv A outer s H vs Q E q hot (room.deeper _) hq
  have J0 := inv_startH (CX := CX) (E := E) (cd := cdv) (f := f) (qual := qual) S pin e0 l0 rel x
  refine wpAny_mono (rd.run [] s1 (L2.start N vs) H _ J0 ans) ?_ (fun _ _ z => z)
  rintro (_ | _ | _ | u) s' z
  · obtain ⟨σ', H', J, z⟩ := z
    exact ⟨.non, H', J.os, J.bare, J.base, J.hok, rfl, z⟩
  · obtain ⟨_, _, _, z⟩ := z; exact z.elim
  · obtain ⟨_, _, _, z⟩ := z; exact z.elim
  · obtain ⟨v, σ', H', J, rv, z⟩ := z
    exact ⟨v, H', J.os, J.bare, J.base, J.hok, rv, z⟩
end
/-- f(e, ..) in the suite that holds the error a -/
theorem pe_callE {X : Cx} {CX : CXT} {k : Nat} {f a : Addr} {oe : Obj} {fd : FuncData} {ps : List Str} {sp : Addr × Obj → Sp} {x : Str} {cls : Value} {d : Option Addr} {pn : List (Addr × Obj)} {pos p1 : Pos} {e : Expr} {es : List Expr} {t : TA} (F : FnE X.prog X.w X.K X.mg X.base CX k f fd ps sp) (hr : RoomH k X.A)
    (hz : Zn cls d oe) (hf : ∃ vs, oe.data = .fields vs) (hx : ∀ pins σ H s E e' s', Inv (X.suite a ((a, oe) :: pn)) pins σ H s → CX X.stack H s E e' s' → (∀ c d H, ¬ E c d H) → False) (hg : Gl X x) (hm : X.mg x = some (.ref f)) (hk : PySem.W.keepIn X.K (.ref f) = true) (hb : Binds X.K fd ps [])
    (ha : PA (X.suite a ((a, oe) :: pn)) (e :: es) t) (hdb : (x == ("__debug__" : Str)) = false := by decide) (he : starEach (e :: es) X.env = (false, eval e X.env) :: starEach es X.env := by rfl) (hpl : (backTo pos (starEach es X.env)).any (·.1) = false := by rfl) :
    PE (X.suite a ((a, oe) :: pn)) (.Call (.Name x p1) (e :: es) [] pos) (tCall (sp (a, oe)) [] (fun _ _ _ => False) t) := by
  constructor
  intro pins s σ H Q I h
  apply wpAny_Call_Name_kw
  refine ld_glob I hg hm ?_ hdb
  refine PySem.W.callWith_K (h₀ := X.base) I.ok.mod.kin hk (thn (ha.run pos pins s σ H _ I h) ?_) he hpl
  rintro us s1 ⟨vs, H1, J, rel, q⟩
  refine ⟨J.kIn, ?_⟩
  rw [List.append_nil] at q
  have hot : Hot1 (X.A.mark (some (.ref a))) (a, oe) := ⟨rfl, let ⟨vs, e⟩ := hf; ⟨vs, e, hz.2.2 vs e⟩⟩
  have P1 := J.pin (a, oe) (List.mem_append_left _ List.mem_cons_self)
  have pin : PinOk X.stack H1 s1 (a, oe) := ⟨P1.1, P1.2.1, fun hm => (List.mem_cons.mp (J.stkSub a hm)).elim P1.2.2.1 P1.2.2.2.1, P1.2.2.2.2⟩
  have bnd := hb s1 us J.kIn (by rw [List.append_nil, ← rel.length]; exact F.len _ _ _ _ _ q)
  rw [List.append_nil] at bnd
  refine wpAny_call (codeAny_mono (F.run (X.A.mark (some (.ref a))) X.stack s1 H1 ⟨us, []⟩ us vs Q _ (a, oe) ⟨hr.dp, hr.un⟩ hot pin J.env0 bnd rel q) ?_)
  rintro (e2 | fl) s' hq
  · exact (hx _ _ _ _ _ _ _ J hq fun _ _ _ z => z).elim
  · cases fl with
    | ret u => exact J.after hq
    | next => exact hq.elim
    | brk => exact hq.elim
    | cont => exact hq.elim
section
variable {X : Cx} {D : Addr} {q : Addr × Obj}
theorem inst_pin {pins : List (Addr × Obj)} {σ : L2.St} {H : Hp} {s : Shared} (I : Inv X pins σ H s) (hp : q ∈ X.pn) (hz : Zn (.ref D) none q.2) (hf : ∃ vs, q.2.data = .fields vs) : PySem.W.InstAt s.heap q.1 q.2 D none := by
  have g := (I.pin q (List.mem_append_left _ hp)).1
  obtain ⟨a, ⟨c, dd, da, sl⟩⟩ := q
  obtain ⟨vs, rfl⟩ := hf
  obtain ⟨rfl, rfl, _⟩ := hz
  exact ⟨g, rfl, rfl, trivial⟩
/-- isinstance(e, C), e the error -/
theorem call_isQ (C : ExcC X.K D) (hp : q ∈ X.pn) (hz : Zn (.ref D) none q.2) (hf : ∃ vs, q.2.data = .fields vs) : CallR X (.builtin "isinstance") (rIsE X.K D q.1) := by
  rintro pins s σ H xs us Q I rel ⟨c, cv, b, rfl, hc, hk, an⟩
  obtain ⟨u1, u2, rfl, r1, r2⟩ := vals2 rel
  cases r1
  cases hc _ r2
  exact PySem.W.kia_one (PySem.W.handS_kitx_exc C.hg C.hk C.hs C.hd C.ha C.hn C.ht C.hm) I.kIn (inst_pin I hp hz hf) hk (fun z => nomatch z) fun tk => ⟨.bl b, H, I.tok tk, rfl, an⟩
/-- isinstance(e, (C, ..)) -/
def rIsEt (K : PySem.W.Frag) (D a : Addr) : List V → Hp → VK → Prop := fun xs H Q => ∃ (tp : Addr) (cs : List V) (us : List Value) (b : Bool), xs = [.ref a, .ref tp] ∧ H tp = some (.tup cs) ∧ Paired ClsV cs us ∧ PySem.W.kitAny K (.ref D) us = some b ∧ Q (.bl b) H
theorem call_isQt (C : ExcC X.K D) (hp : q ∈ X.pn) (hz : Zn (.ref D) none q.2) (hf : ∃ vs, q.2.data = .fields vs) : CallR X (.builtin "isinstance") (rIsEt X.K D q.1) := by
  rintro pins s σ H xs us Q I rel ⟨tp, cs, ws, b, rfl, hT, hc, hk, an⟩
  obtain ⟨u1, u2, rfl, r1, r2⟩ := vals2 rel
  cases r1
  cases (show u2 = Value.ref tp from r2)
  obtain ⟨_, its, rv, ⟨oc, od, dt, sl⟩, h1, h2, n, h3⟩ := (show ObjOk X.prog X.w H s.heap tp (.tup cs) from I.hok tp _ hT)
  simp only at h2 h3
  subst h2 h3
  cases ClsV.all hc rv
  exact PySem.W.kia_tup (PySem.W.handS_kitx_exc C.hg C.hk C.hs C.hd C.ha C.hn C.ht C.hm) I.kIn (inst_pin I hp hz hf) h1 hk (fun z => nomatch z) fun tk => ⟨.bl b, H, I.tok tk, rfl, an⟩
end
end
section
open L2N (Zn)
open L2H HotX
/-! ### a new list by a comprehension, while an error is handled -/
/-- the block's context: the error stays known -/
abbrev blkH (X : Cx) (s : Shared) (H : Hp) (sc : Scope) (en : Env) (fp : List Addr) : Cx := { X.blk s H sc en fp with pn := X.pn }
/-- the block begins -/
theorem blkH_start {X : Cx} {pins : List (Addr × Obj)} {σ : L2.St} {H : Hp} {s : Shared} {sc : Scope} {own : List (Str × Nat)} {fp : List Addr} (I : Inv X pins σ H s) (ok : BlkOk X.N X.env.scope sc own) (hN : X.N.Nodup)
    (hfp : ∀ b ∈ fp, FpOk X pins H b ∧ b < s.heap.objs.size) :
    Inv (blkH X s H sc (compEnvC sc (cellsFrom (s.heap.objs.size + 1) sc.names (cloFrom X.env.cells sc.names [])) s.heap.objs.size X.env) fp) [] (wipe σ (own.map (·.2))) H
      { s with heap := pushCells (s.heap.push { cls := .type "dict", data := .dict #[] }) sc.names } := by
  have J := block_start I ok hN hfp
  have O := J.ok
  refine ⟨⟨O.mod, O.kind, O.glob, O.blt, O.above, O.inj, O.has, O.cab, O.hd, O.frames, O.stk, O.exf, O.bs, O.bsz, O.noex, O.exfs, O.funs, O.frf⟩, J.os, J.bare, J.base, J.loc, J.cell, J.free, J.freeC, fun q hq => ?_, J.hok, J.len⟩
  have hq' : q ∈ X.pn := by simpa using hq
  have Z := I.pin q (List.mem_append_left _ hq')
  refine ⟨pushCells_keeps _ _ _ _ (Heap.get?_push_of_some _ Z.1), Z.2.1, Nat.ne_of_lt (Heap.lt_size Z.1), fun hm => ?_, Z.2.2.2.2⟩
  exact (List.mem_cons.mp (I.stkSub q.1 hm)).elim Z.2.2.1 Z.2.2.2.1
theorem pe_lcH {X : Cx} {elt tg iter : Expr} {sc : Scope} {own : List (Str × Nat)} {pos : Pos} {wi : TI} {g : TG} {te : TE} (hc : HotC X) (hN : X.N.Nodup) (hi : PIH X tg iter wi) (ok : BlkOk X.N X.env.scope sc own)
    (hg : ∀ (s : Shared) (H : Hp) (C : Addr) (cl : List (Str × Addr)) (fp : List Addr), PG (blkH X s H sc (compEnvC sc cl C X.env) fp) tg g)
    (he : ∀ (s : Shared) (H : Hp) (C : Addr) (cl : List (Str × Addr)) (fp : List Addr), PE (blkH X s H sc (compEnvC sc cl C X.env) fp) elt te)
    (hs : ∀ x, foldedSetIterable iter X.env x = pure x := by intro _; rfl) : PE X (.ListComp elt [⟨tg, iter, [], 0⟩] sc pos) (tLc wi g tYes te (own.map (·.2))) := by
  constructor
  intro pins s σ H Q I h
  rw [eval_ListComp]
  have clos : ∀ y ∈ sc.names, y.2 = .free → ∃ c, X.env.cells.lookup y.1 = some c := fun y hy e => (ok.free y hy e).elim (fun z => I.ok.has _ (.inl z)) fun z => I.ok.has _ (.inr z)
  refine wpAny_comprehension_free (use := none) rfl hs (closure_ok clos) ok.kind (fun y hy e => by rw [ok.uniq y hy, e]) (thn (hi.run pins s σ H _ I h) fun _ s1 hx => thn hx ?_)
  rintro _ s2 ⟨it, fp, tn, J, H2, rfl, I2, T, st2, f2, q⟩
  refine wpAny_newObj_type (newEnv_comp ?_) (by show 0 ≤ sizeLine; decide)
  generalize eD : s2.heap.objs.size = D
  have freshD : H2 D = none := I2.hok.fresh (Nat.le_of_eq eD)
  obtain ⟨W, ⟨m0, w0⟩, turn⟩ := q D freshD
  generalize e3 : ({ s2 with heap := s2.heap.push { cls := .type "list", data := .seq ([] : List Value).toArray } } : Shared) = s3
  have I3 : Inv X pins σ (upd H2 D (.lst [])) s3 := by
    subst e3
    refine I2.laid (t' := s2.toks) (fun b o e => Heap.get?_push_of_some _ e) (Nat.le_of_eq eD) ⟨Nat.zero_le _, [], 0, .nil, ?_⟩
    subst eD
    exact Heap.get?_push_size _ rfl
  have p3 : s3.heap = s2.heap.push { cls := .type "list", data := .seq ([] : List Value).toArray } := by subst e3; rfl
  have small : ∀ b ∈ fp, b < s2.heap.objs.size := fun b hb => let ⟨_, e, _⟩ := T.obj _ _ st2 b hb; Heap.lt_size e
  have f3 : ∀ b ∈ fp, FpOk X pins (upd H2 D (.lst [])) b ∧ b < s3.heap.objs.size := by
    intro b hb
    have lt := small b hb
    have ne : b ≠ D := by subst eD; exact Nat.ne_of_lt lt
    refine ⟨⟨by rw [upd_ne ne]; exact (f2 b hb).1, (f2 b hb).2⟩, ?_⟩
    rw [p3, Heap.size_push]
    exact Nat.lt_succ_of_lt lt
  have st3 : tn 0 s3.heap := T.keep _ _ _ st2 fun b _ o e => by rw [p3]; exact Heap.get?_push_of_some _ e
  have I4 := blkH_start I3 ok hN f3
  have rg := hg s3 (upd H2 D (.lst [])) s3.heap.objs.size (cellsFrom (s3.heap.objs.size + 1) sc.names (cloFrom X.env.cells sc.names [])) fp
  have re := he s3 (upd H2 D (.lst [])) s3.heap.objs.size (cellsFrom (s3.heap.objs.size + 1) sc.names (cloFrom X.env.cells sc.names [])) fp
  show codeAny _ _ (.compStart (.ListComp elt [⟨tg, iter, [], 0⟩] sc pos) 0 (.ref it) (.ref D) (compEnvC sc (cellsFrom (s3.heap.objs.size + 1) sc.names (cloFrom X.env.cells sc.names [])) s3.heap.objs.size X.env))
    (compPost (model X.prog X.w) X.A X.xe none _ (.ref D) s3.heap.objs.size) { s3 with heap := pushCells (s3.heap.push { cls := .type "dict", data := .dict #[] }) sc.names }
  have none3 : ∀ b ∈ fp, (upd H2 D (.lst [])) b = none := fun b hb => (f3 b hb).1.1
  generalize eE : compEnvC sc (cellsFrom (s3.heap.objs.size + 1) sc.names (cloFrom X.env.cells sc.names [])) s3.heap.objs.size X.env = en at I4 rg re ⊢
  have locE : en.locals = s3.heap.objs.size := by subst eE; rfl
  generalize upd H2 D (.lst []) = H3 at I3 I4 rg re w0 none3 f3
  generalize e4 : ({ s3 with heap := pushCells (s3.heap.push { cls := .type "dict", data := .dict #[] }) sc.names } : Shared) = s4 at I4 ⊢
  have st4 : tn 0 s4.heap := T.keep _ _ _ st3 fun b _ o e => by subst e4; exact pushCells_keeps _ _ _ _ (Heap.get?_push_of_some _ e)
  have hotB : HotC (blkH X s3 H3 sc en fp) := hc
  have foot : ∀ {σ' : L2.St} {H' : Hp} {s' : Shared}, Inv (blkH X s3 H3 sc en fp) [] σ' H' s' → (∀ b ∈ fp, H' b = none) → ∀ b ∈ fp, FpOk (blkH X s3 H3 sc en fp) [] H' b := by
    intro σ' H' s' J' hn b hb
    refine ⟨hn b hb, (J'.ok.exf b hb).1, J'.ok.exfs b hb, .inl hb, fun y c e => (J'.ok.exf b hb).2 y c e, fun u hu eu => ?_⟩
    have hu' : u ∈ X.pn := by simpa using hu
    exact (f2 b hb).2.2.2.2.2 u (List.mem_append_left _ hu') eu
  suffices L : codeAny (model X.prog X.w) X.A (.compLoop (.ListComp elt [⟨tg, iter, [], 0⟩] sc pos) 0 (.ref it) (.ref D) en) (compPost (model X.prog X.w) X.A X.xe none (EP X pins σ Q) (.ref D) s3.heap.objs.size) s4 from codeAny_compStart_list L (T.self X.A 0 _ _ _ st4 L)
  apply compLoop_any (fun n s' => ∃ i H', Inv (blkH X s3 H3 sc en fp) [] (wipe σ (own.map (·.2))) H' s' ∧ tn i s'.heap ∧ (∀ b ∈ fp, H' b = none) ∧ W i n H') ?_ m0 ⟨0, H3, I4, st4, none3, w0⟩
  rintro n s5 ⟨i, H5, I5, st5, n5, w5⟩
  rcases turn i n H5 w5 with ⟨stop, qq⟩ | ⟨go, Nx, hNx, step⟩
  · refine thnF (T.done (blkH X s3 H3 sc en fp) rfl rfl rfl hotB i [] s5 _ H5 (fun _ _ => False) I5 (foot I5 n5) st5 stop) ?_
    rintro _ s6 ⟨rfl, I6⟩
    have I7 : Inv X pins σ H5 s6 := I3.call' (ch := fp) I6.os I6.base I6.hok I6.bare fun b hb => ⟨(f3 b hb).1.2.2.2.1, (f3 b hb).1.2.1, (f3 b hb).1.2.2.2.2.1, (f3 b hb).1.2.2.2.2.2⟩
    have nC : H5 s3.heap.objs.size = none := by rw [← locE]; exact I6.free
    obtain ⟨m, hn, _⟩ := I6.loc
    have hn2 : s6.heap.Ns s3.heap.objs.size m := by rw [← locE]; exact hn
    obtain ⟨z0, z1, z2, z3, z4, z5⟩ := I3.fpOk (Nat.le_refl _) nC
    exact ⟨m, hn2, fun h'' sb => ⟨.ref D, H5, I7.turned (t' := s6.toks) (fun b o hb e => (sb.2 b hb).trans e) z0 z1 z3 z4 z5, rfl, qq⟩⟩
  · refine thnF (T.item (blkH X s3 H3 sc en fp) rfl rfl rfl hotB i [] s5 _ H5 (fun _ _ => False) I5 (foot I5 n5) st5 go) ?_
    rintro _ s6 ⟨u, rfl, h6⟩
    refine thnF h6 ?_
    rintro _ s7 ⟨x, H7, I7, r7, y7, st7, n7⟩
    refine thnF (rg.run _ s7 _ H7 x u _ (I7.pinned (foot I7 n7) (T.obj _ _ st7)) r7 (step x H7 y7)) ?_
    rintro _ s8 ⟨σ8, H8, I8, hw8, q8⟩
    refine thnF ((pts_nil (X := blkH X s3 H3 sc en fp)).run _ s8 σ8 H8 _ I8 q8) ?_
    rintro b s9 ⟨H9, I9, q9⟩
    have back : ∀ {s' : Shared} {H' : Hp}, Inv (blkH X s3 H3 sc en fp) ([] ++ pinsAt fp s7.heap) σ8 H' s' → Nx H' → ∃ m, m < n ∧ ∃ i H', Inv (blkH X s3 H3 sc en fp) [] (wipe σ (own.map (·.2))) H' s' ∧ tn i s'.heap ∧ (∀ b ∈ fp, H' b = none) ∧ W i m H' := by
      intro s' H' J' nx
      obtain ⟨m', hm, w'⟩ := hNx H' nx
      have kept : ∀ b ∈ fp, ∀ o, s7.heap.get? b = some o → s'.heap.get? b = some o ∧ H' b = none := fun b hb o e => by
        have z := J'.pin (b, o) (List.mem_append_right _ (List.mem_append_right _ (mem_pinsAt hb e)))
        exact ⟨z.1, z.2.1⟩
      have ln : (wipe σ (own.map (·.2))).length = σ8.length := by rw [← hw8, wipe_length]
      refine ⟨m', hm, i + 1, H', (J'.unpinned (pins := [])).weak ln (fun j v e => ?_), T.keep _ _ _ st7 fun b hb o e => (kept b hb o e).1, fun b hb => ?_, w'⟩
      · rw [← hw8] at e; exact (wipe_some e).1
      · obtain ⟨o, e, _⟩ := T.obj _ _ st7 b hb
        exact (kept b hb o e).2
    cases b with
    | false => exact back I9 q9
    | true =>
      refine thnF (re.run _ s9 σ8 H9 _ I9 q9) ?_
      rintro z s10 ⟨yv, H10, I10, r10, acc, hD10, hz10, nx⟩
      exact app_ok (X := blkH X s3 H3 sc en fp) I10 hD10 hz10 r10 fun s11 I11 => back I11 nx
end
section
/-! ### defs whose errors have no context -/
theorem passN {X : Cx} : Passes (L2N.CX X.prog X.w) X E0 := by
  rintro _ _ _ _ _ _ _ ⟨_, _, _, _, _, _, _, _, _, _, _, _, z⟩
  exact z.elim
theorem takes0N {X : Cx} : L2N.Takes X (fun _ _ _ _ => False) := by
  rintro _ _ ⟨_, _, _, _, _, _, _, _, _, _, _, _, _, _, _, _, z⟩
  exact z.elim
theorem okN {P : Program} {w : World} {K : PySem.W.Frag} {mg : Str → Option Value} {base : Heap} {x qual : Str} {st : Stmt} {f : Addr} {fd : FuncData} {N ps : List Str} {k : Nat} {sp : Sp} (F : Fun K x qual st f fd) (S : FnScope N ps (defScope st)) (len : ∀ vs H Q E, sp vs H Q E → vs.length = ps.length)
    (body : ∀ (cdv : Value) (A : Around) (outer : List Env) (s : Shared) (H : Hp) (vs : List V) (Q : VK) (E : XK), Room k (A.deeper (envOfC qual (defScope st) s.heap.objs.size f cdv)) → sp vs H Q E →
      ∃ t, PSs (cxOf (L2N.CX P w) P w K mg base N qual (defScope st) f cdv A outer s H E) (defBody st) t ∧ t { nx := fun _ H' => Q .non H', rt := Q } (start N vs) H) : FnOk P w K mg base (L2N.CX P w) (k + 1) f fd ps sp := by
  obtain ⟨oc, od, kV, doc, pm, an, cdv, ct, osl, rfl, lk, hcd⟩ := F.ex
  apply fn_of lk hcd S len
  intro A outer s H vs Q E hr hsp
  exact body cdv A outer s H vs Q E hr hsp
end
section
/-! ### any(xs) of numbers, a list or a tuple -/
theorem truth_ints {prog : Program} {w : World} {A : Around} {ns : List Int} {its : List Value} (e : IntsAre its ns) : TruthOf prog w A (fun i v => its.toArray[i]? = some v) (fun i => decide (ns.getD i 0 ≠ 0)) := by
  intro i v s Q E hv hq
  have hv' : its[i]? = some v := by simpa using hv
  have key : ∀ {its : List Value} {ns : List Int}, IntsAre its ns → ∀ i v, its[i]? = some v → ∃ t, v = Value.int (ns.getD i 0) t := by
    intro its ns e
    induction e with
    | nil => intro i v h; simp at h
    | cons n t _ ih =>
      intro i v h
      cases i with
      | zero => exact ⟨t, by simpa using h.symm⟩
      | succ i => exact ih i v (by simpa using h)
  obtain ⟨t, rfl⟩ := key e i v hv'
  refine truthy_int ?_
  have : (ns.getD i 0 != 0) = decide (ns.getD i 0 ≠ 0) := by
    rw [Bool.eq_iff_iff]; simp
  rw [this]
  exact hq
theorem any_rangeI : ∀ ns : List Int, (List.range ns.length).any (fun i => decide (ns.getD i 0 ≠ 0)) = ns.any fun x => !decide (x = 0)
  | [] => rfl
  | b :: bs => by
    have h := any_rangeI bs
    rw [List.length_cons, List.range_succ_eq_map, List.any_cons, List.any_map, List.any_cons, ← h]
    have : decide ((b :: bs).getD 0 0 ≠ 0) = !decide (b = 0) := by
      rw [Bool.eq_iff_iff]; simp
    rw [this]
    rfl
def rAnyI (K : PySem.W.Frag) : List V → Hp → VK → Prop := fun vs H Q => ∃ (a : Addr) (ns : List Int), vs = [V.ref a] ∧ (SqL K H a (ns.map V.int) ∨ SqT K H a (ns.map V.int)) ∧ Q (.bl (ns.any fun x => !decide (x = 0))) H
theorem intsLen {its : List Value} {ns : List Int} (e : IntsAre its ns) : its.length = ns.length := by
  induction e with
  | nil => rfl
  | cons n t _ ih => simp [ih]
theorem cr_anyI {X : Cx} (hc : X.calm = true) : CallR X (.builtin "any") (rAnyI X.K) := by
  rintro pins s σ H vs us Q I r ⟨a, ns, rfl, hs, q⟩
  rw [Vals.ref1 r]
  rcases hs with hs | hs
  · obtain ⟨its, rv, hl, _⟩ := I.list hs
    have hb := intsAre_of rv
    refine call_any_walk (iter_any hl.isList fun s₂ e2 st hne => ?_)
    subst e2
    refine ⟨_, _, _, _, _, _, _, rfl, Walks.list (A := X.A.in1) (I.ok.hd hc) _ a hne its.toArray, st, truth_ints hb, fun h' tk hk => ?_⟩
    refine ⟨.bl _, H, I.kept fun b o eo => hk b o (fun hmem => ?_) (Heap.get?_push_of_some _ eo), ?_, q⟩
    · rcases List.mem_cons.mp hmem with e1 | hmem
      · exact absurd (e1 ▸ Heap.lt_size eo) (Nat.lt_irrefl _)
      · cases hmem
    · show Value.bool _ = Value.bool _
      rw [← any_rangeI, List.size_toArray, intsLen hb]
  · obtain ⟨its, rv, hl, _⟩ := I.tuple hs
    have hb := intsAre_of rv
    have hlt : a < s.heap.objs.size := by obtain ⟨_, e, _⟩ := hl; exact Heap.lt_size e
    refine call_any_walk (wpAny_pyIter_tuple hl ?_)
    refine ⟨_, _, _, _, _, _, _, rfl, Walks.tuple (A := X.A.in1) (I.ok.hd hc) _ a (Nat.ne_of_lt hlt) its.toArray, ⟨⟨_, Heap.get?_push_size _ rfl, rfl, rfl⟩, hl.push _⟩, truth_ints hb, fun h' tk hk => ?_⟩
    refine ⟨.bl _, H, I.kept fun b o eo => hk b o (fun hmem => ?_) (Heap.get?_push_of_some _ eo), ?_, q⟩
    · rcases List.mem_cons.mp hmem with e1 | hmem
      · exact absurd (e1 ▸ Heap.lt_size eo) (Nat.lt_irrefl _)
      · cases hmem
    · show Value.bool _ = Value.bool _
      rw [← any_rangeI, List.size_toArray, intsLen hb]
theorem cr_anyIK {X : Cx} (K : PySem.W.Frag) (hc : X.calm = true) (h : X.K = K := by rfl) : CallR X (.builtin "any") (rAnyI K) := by subst h; exact cr_anyI hc
section
variable {K : PySem.W.Frag} {H : Hp} {σ : L2.St} {ta tb te : TE}
theorem er_anyIL {xs : List Int} (ha : Er (rL K rI) ta σ H xs) : Er rB (tCB (rAnyI K) (tCons ta tNil)) σ H (xs.any fun x => !decide (x = 0)) := fun H1 e Q q =>
  ha H1 e _ fun v H2 e2 ⟨a, vs, h1, hs, hp⟩ => by
    have e4 := pI hp
    subst e4
    exact ⟨a, xs, by rw [h1], .inl hs, q _ H2 e2 rfl⟩
theorem er_anyIT {xs : List Int} (ha : Er (rT K rI) ta σ H xs) : Er rB (tCB (rAnyI K) (tCons ta tNil)) σ H (xs.any fun x => !decide (x = 0)) := fun H1 e Q q =>
  ha H1 e _ fun v H2 e2 ⟨a, vs, h1, hs, hp⟩ => by
    have e4 := pI hp
    subst e4
    exact ⟨a, xs, by rw [h1], .inr hs, q _ H2 e2 rfl⟩
/-! ### isinstance(x, list), isinstance(x, tuple), is None -/
theorem er_isLst {α : Type} {R : Rp α} [Me R] {i : Nat} {p : Addr} {xs : List α} (hs : σ[i]? = some (some (.ref p))) (h : Lt R H p xs) : Er rB (tCB (rIsi K) (tCons (tVar i) (tCons (tC (.ty "list")) tNil))) σ H true := fun H1 e Q q => by
  obtain ⟨vs, h1, _⟩ := h.ex e
  exact ⟨_, hs, _, _, _, _, true, rfl, .ty "list", .base (.lst h1), kit_ty (show kitB "list" "list" = some true by decide +kernel), q _ H1 (Ex.refl H1) rfl⟩
theorem er_isTup {α : Type} {R : Rp α} {xs : List α} (ha : Er (rT K R) ta σ H xs) : Er rB (tCB (rIsi K) (tCons ta (tCons (tC (.ty "tuple")) tNil))) σ H true := fun H1 e Q q =>
  ha H1 e _ fun v H2 e2 ⟨a, vs, h1, hs, hp⟩ => by
    subst h1
    exact ⟨_, _, _, _, true, rfl, .ty "tuple", sqT_ty hs, kit_ty (show kitB "tuple" "tuple" = some true by decide +kernel), q _ H2 e2 rfl⟩
theorem er_isNn (ha : Er rN ta σ H ()) : Er rB (tOp (fun x y H Q => y = .non ∧ Q (.bl (decide (x = .non))) H) ta (tC .non)) σ H true := fun H1 e Q q =>
  ha H1 e _ fun v H2 e2 r => by
    cases r
    exact ⟨rfl, q _ H2 e2 rfl⟩
theorem er_isNr {α : Type} {R : Rp α} {x : α} (ha : Er R ta σ H x) (hn : ∀ v H, R H x v → v ≠ .non) : Er rB (tOp (fun x y H Q => y = .non ∧ Q (.bl (decide (x = .non))) H) ta (tC .non)) σ H false := fun H1 e Q q =>
  ha H1 e _ fun v H2 e2 r => ⟨rfl, by rw [decide_eq_false (hn v H2 r)]; exact q _ H2 e2 rfl⟩
end
section
variable {σ : L2.St} {H : Hp} {t u : TT} {Q : Bool → Hp → Prop}
theorem go_or (h : t σ H fun c H1 => if c = true then Q true H1 else u σ H1 Q) : tOr t u σ H Q := h
theorem go_and (h : t σ H fun c H1 => if c = true then u σ H1 Q else Q false H1) : tAnd t u σ H Q := h
theorem go_T {b : Bool} (h : Et t σ H b) (k : ∀ H1, Ex H H1 → Q b H1) : t σ H Q := h H (Ex.refl H) Q k
end
end
section
/-! ### sum(t) of a tuple of numbers -/
def rSumT (K : PySem.W.Frag) : List V → Hp → VK → Prop := fun vs H Q => ∃ (a : Addr) (ns : List Int), vs = [V.ref a] ∧ SqT K H a (ns.map V.int) ∧ Q (.int ns.sum) H
theorem preSum_take (ns : List Int) : ∀ j, preSum (fun i => ns.getD i 0) j = (ns.take j).sum
  | 0 => rfl
  | j + 1 => by
    show preSum (fun i => ns.getD i 0) j + ns.getD j 0 = _
    rw [preSum_take ns j, List.take_add_one, List.sum_append, List.getD_eq_getElem?_getD]
    cases ns[j]? <;> simp
theorem cr_sumT {X : Cx} (hc : X.calm = true) : CallR X (.builtin "sum") (rSumT X.K) := by
  rintro pins s σ H vs us Q I r ⟨a, ns, rfl, hs, q⟩
  rw [Vals.ref1 r]
  obtain ⟨its, rv, hl, _⟩ := I.tuple hs
  have hb := intsAre_of rv
  have hlt : a < s.heap.objs.size := by obtain ⟨_, e, _⟩ := hl; exact Heap.lt_size e
  refine call_sum_walkG (wpAny_pyIter_tuple hl ?_)
  refine ⟨_, _, _, _, _, _, fun i => ns.getD i 0, rfl, Walks.tuple (A := X.A.in1) (I.ok.hd hc) _ a (Nat.ne_of_lt hlt) its.toArray, ⟨⟨_, Heap.get?_push_size _ rfl, rfl, rfl⟩, hl.push _⟩, fun b hb => ?_, fun i v hv => ?_, fun h' tk t' hk => ?_⟩
  · show b < (s.heap.push _).objs.size
    rw [Heap.size_push]
    rcases List.mem_cons.mp hb with rfl | hb
    · exact Nat.lt_succ_self _
    · rw [List.mem_singleton.mp hb]; exact Nat.lt_succ_of_lt hlt
  · have hv' : its[i]? = some v := by simpa using hv
    have key : ∀ {its : List Value} {ns : List Int}, IntsAre its ns → ∀ i v, its[i]? = some v → ∃ t, v = Value.int (ns.getD i 0) t := by
      intro its ns e
      induction e with
      | nil => intro i v h; simp at h
      | cons n t _ ih =>
        intro i v h
        cases i with
        | zero => exact ⟨t, by simpa using h.symm⟩
        | succ i => exact ih i v (by simpa using h)
    exact key hb i v hv'
  · refine ⟨.int _, H, I.kept (t' := tk) fun b o eo => hk b o (fun hmem => ?_) (Heap.get?_push_of_some _ eo), ⟨t', ?_⟩, q⟩
    · rcases List.mem_cons.mp hmem with e1 | hmem
      · exact absurd (e1 ▸ Heap.lt_size eo) (Nat.lt_irrefl _)
      · cases hmem
    · rw [preSum_take, List.size_toArray, intsLen hb, List.take_length]
theorem cr_sumTK {X : Cx} (K : PySem.W.Frag) (hc : X.calm = true) (h : X.K = K := by rfl) : CallR X (.builtin "sum") (rSumT K) := by subst h; exact cr_sumT hc
theorem er_sumT {K : PySem.W.Frag} {H : Hp} {σ : L2.St} {ta : TE} {xs : List Int} (ha : Er (rT K rI) ta σ H xs) : Er rI (tCB (rSumT K) (tCons ta tNil)) σ H xs.sum := fun H1 e Q q =>
  ha H1 e _ fun v H2 e2 ⟨a, vs, h1, hs, hp⟩ => by
    have e4 := pI hp
    subst e4
    exact ⟨a, xs, by rw [h1], hs, q _ H2 e2 rfl⟩
end
end Dg

set_option maxRecDepth 100000
set_option maxHeartbeats 4000000
namespace Dg
open PySem PySem.Spec PyProof.Rows L2 Evl
open SX (S)
section
/-! ### every other sign of a text; t[..].replace -/
def evs : List Nat → List Nat
  | [] => []
  | [a] => [a]
  | a :: _ :: r => a :: evs r
def ods (l : List Nat) : List Nat := evs l.tail
theorem evs_get : ∀ (a : List Nat), (List.range ((a.length + 1) / 2)).filterMap (fun k => a[2 * k]?) = evs a
  | [] => rfl
  | [a] => by simp [evs, List.range_succ_eq_map]
  | a :: b :: r => by
    have e : (List.length (a :: b :: r) + 1) / 2 = (r.length + 1) / 2 + 1 := by simp only [List.length_cons]; omega
    rw [e, List.range_succ_eq_map, List.filterMap_cons]
    show a :: _ = a :: evs r
    rw [List.filterMap_map, ← evs_get r]
    congr 1
theorem lenS (a : List Nat) : (S a).length = a.length := by show (List.toArray a).size = _; simp
theorem getS (a : List Nat) (i : Nat) : (S a).cps[i]? = a[i]? := by show (List.toArray a)[i]? = _; simp
def cutX (z : Str) (lo : Option Int) : Str := ⟨((Builtin.Str.strSliceIndices lo none 2 z.length).filterMap (z.cps[·]?)).toArray⟩
theorem cutX_0 (a : List Nat) : cutX (S a) none = S (evs a) := by
  unfold cutX
  have e : Builtin.Str.strSliceIndices none none 2 (S a).length = (List.range ((a.length + 1) / 2)).map fun k => 2 * k := by
    show sliceRange (0 : Int) ((S a).length : Int) 2 = _
    rw [lenS]
    unfold sliceRange
    simp only [show (2 : Int) > 0 by decide, if_true]
    have : (if (0 : Int) < (a.length : Int) then ((a.length : Int) - 0 + 2 - 1) / 2 else 0).toNat = (a.length + 1) / 2 := by split <;> omega
    rw [this]
    exact List.map_congr_left fun k _ => by omega
  rw [e, List.filterMap_map, ← evs_get]
  show S _ = S _
  congr 1
  congr 1
  funext k
  exact getS a _
theorem cutX_1 (a : List Nat) : cutX (S a) (some 1) = S (ods a) := by
  unfold cutX
  cases a with
  | nil => rfl
  | cons x r =>
    have e : Builtin.Str.strSliceIndices (some 1) none 2 (S (x :: r)).length = (List.range ((r.length + 1) / 2)).map fun k => 2 * k + 1 := by
      show sliceRange (max 0 (min (if (1 : Int) < 0 then (1 : Int) + ((S (x :: r)).length : Int) else 1) ((S (x :: r)).length : Int))) ((S (x :: r)).length : Int) 2 = _
      rw [lenS]
      unfold sliceRange
      simp only [show (2 : Int) > 0 by decide, if_true, show ¬ ((1 : Int) < 0) by decide, if_false, List.length_cons]
      have h1 : max (0 : Int) (min 1 ((r.length + 1 : Nat) : Int)) = 1 := by omega
      rw [h1]
      have : (if (1 : Int) < ((r.length + 1 : Nat) : Int) then (((r.length + 1 : Nat) : Int) - 1 + 2 - 1) / 2 else 0).toNat = (r.length + 1) / 2 := by split <;> omega
      rw [this]
      exact List.map_congr_left fun k _ => by omega
    rw [e, List.filterMap_map]
    show S _ = S (evs r)
    rw [← evs_get]
    congr 1
    congr 1
    funext k
    exact getS (x :: r) _
theorem evs_len : ∀ a : List Nat, (evs a).length = (a.length + 1) / 2
  | [] => rfl
  | [a] => by simp [evs]
  | a :: b :: r => by
    show (evs r).length + 1 = _
    rw [evs_len r]
    simp only [List.length_cons]
    omega
/-- an expression that gives out a token -/
def PEk (X : Cx) (e : Expr) (t : TE) : Prop :=
  ∀ (pins : List (Addr × Obj)) (s : Shared) (σ : L2.St) (H : Hp) (Q : VK), Inv X pins σ H s → t σ H Q → wpAny (model X.prog X.w) X.A (eval e X.env) (fun v s1 => EP X pins σ Q v s1 ∧ 1 ≤ s1.toks) X.xe s
theorem PEk.pe {X : Cx} {e : Expr} {t : TE} (h : PEk X e t) : PE X e t := ⟨fun pins s σ H Q I q => wpAny_mono (h pins s σ H Q I q) (fun _ _ z => z.1) fun _ _ z => z⟩
def rX2 (x : V) (lo : Option Int) (c : Int) (H : Hp) (Q : VK) : Prop := ∃ z : Str, x = .str z ∧ c = 2 ∧ (cutX z lo).length ≤ sizeLine ∧ Q (.str (cutX z lo)) H
def tX2 (te : TE) (tl : TO) (ts : TE) : TE := fun σ H Q => te σ H fun x H1 => tl σ H1 fun l H2 => ts σ H2 fun y H4 => ∃ c, y = .int c ∧ rX2 x l c H4 Q
theorem pek_x2 {X : Cx} {e f : Expr} {lo : Option Expr} {te ts : TE} {tl : TO} {p3 pos : Pos} (he : PE X e te) (hl : PO X lo tl) (hs : PE X f ts) : PEk X (.Subscript e (.Slice lo none (some f) p3) pos) (tX2 te tl ts) := by
  intro pins s σ H Q I h
  refine Subscript_ (thn (he.run pins s σ H _ I h) fun v s1 ⟨x, H1, I1, r1, q1⟩ => ?_)
  refine wpAny_Slice (thn (hl.run pins s1 σ H1 _ I1 q1) fun vl s2 ⟨l, H2, I2, pl, q2⟩ => ?_)
  refine thn (po_none.run pins s2 σ H2 (fun o H4 => o = none ∧ ts σ H4 fun y H4 => ∃ c, y = .int c ∧ rX2 x l c H4 Q) I2 ⟨rfl, q2⟩) fun vu s3 ⟨u, H3, I3, pu, q3⟩ => ?_
  obtain ⟨rfl, q3⟩ := q3
  refine thn ((po_some hs).run pins s3 σ H3 (fun o H4 => ∃ c, o = some c ∧ rX2 x l c H4 Q) I3 (by
    show ts σ H3 _
    have e : (fun y H4 => ∃ c, y = V.int c ∧ rX2 x l c H4 Q) = fun y H4 => ∃ i, y = V.int i ∧ ∃ c, some i = some c ∧ rX2 x l c H4 Q := by
      funext y H4
      exact propext ⟨fun ⟨c, h1, h2⟩ => ⟨c, h1, c, rfl, h2⟩, fun ⟨i, h1, c, h2, h3⟩ => ⟨c, by cases h2; exact h1, h3⟩⟩
    exact e ▸ q3)) fun vs s4 ⟨o, H4, I4, ps, q4⟩ => ?_
  obtain ⟨c, rfl, z, rfl, rfl, hz, q⟩ := q4
  obtain ⟨t, rfl⟩ := r1
  have I5 : Inv X pins σ H4 { s4 with heap := s4.heap.push { cls := .type "slice", data := .fields #[vl, vu, vs] } } := I4.kept (t' := s4.toks) fun b ob q => Heap.get?_push_of_some _ q
  show wpAny (model X.prog X.w) X.A (subscriptTail e (.Slice lo none (some f) p3) (.str z t) (.ref s4.heap.objs.size)) _ X.xe { s4 with heap := s4.heap.push { cls := .type "slice", data := .fields #[vl, vu, vs] } }
  refine tail_any (ops := [.str z t, .ref s4.heap.objs.size]) (typeIs_str _ _ _) F.slot_str_getitem.lookup ?_ (by with_unfolding_all rfl)
  obtain ⟨l', rfl, rfl⟩ := IsPart.raw pl
  obtain ⟨u', rfl, hu⟩ := IsPart.raw pu
  obtain ⟨c', rfl, hc⟩ := IsPart.raw ps
  cases u' with
  | some _ => cases hu
  | none =>
  have hc2 : (c'.map (·.1)).getD 1 = 2 := by
    rw [hc]; rfl
  refine wpAny_getItem_str_slice (l := l') (u := none) (st := c') ⟨_, Heap.get?_push_size _ rfl, rfl, rfl⟩ (by rw [hc2]; rfl) ?_
  unfold sliceMade slicePicked
  rw [hc2]
  rw [if_neg (by simp)]
  exact ⟨hz, ⟨.str _, H4, I5.tok _, ⟨_, rfl⟩, q⟩, by show 1 ≤ s4.toks + 1; omega⟩
/-- e.replace(y, z) of written texts, where e gives out a token -/
theorem pe_replK {X : Cx} {o : Expr} {to : TE} {y z : Str} {j k : Nat} {c0 c1 apos pos : Pos} (ho : PEk X o to) (hyz : (y == z) = false := by decide)
    (hst : starEach [.Constant (.str y) j c0, .Constant (.str z) k c1] X.env = [(false, eval (.Constant (.str y) j c0) X.env), (false, eval (.Constant (.str z) k c1) X.env)] := by rfl)
    (hbase : attributeBase o "replace" X.env (eval o X.env) = eval o X.env := by rfl) (hline : (apos.endLine == pos.line) = true := by rfl) :
    PE X (.Call (.Attribute o "replace" apos) [.Constant (.str y) j c0, .Constant (.str z) k c1] [] pos) (CwR.tReplC to y z) := by
  refine ⟨fun pins s σ H Q I h => ?_⟩
  refine PySem.Call_method2 hbase hst hline (wpAny_mono (ho pins s σ H _ I h) (fun v s1 q => ?_) fun _ _ z => z)
  obtain ⟨⟨v', H1, I1, r1, x, e1, hb, q⟩, hk⟩ := q
  subst e1
  obtain ⟨tx, e2⟩ := r1
  subst e2
  refine ⟨"str", _, PySem.F.plainAttrs_str, PySem.F.slot_str_replace, PySem.F.type_str_replace, typeIs_str _ _ _, (fun _ e => nomatch e), Calls.callWith_builtin rfl (Calls.evalArgs_plain (Calls.spliced_cons ?_))⟩
  refine Calls.Constant_str (Calls.spliced_cons (Calls.Constant_str (Calls.spliced_nil ?_)))
  exact PySem.SC.replace (by show s1.toks ≠ 0; omega) (by show s1.toks + 1 ≠ 0; omega) (by show s1.toks ≠ s1.toks + 1; omega) hyz hb fun t' k => ⟨.str (Txt.replace x y z), H1, I1.tok k, ⟨t', rfl⟩, q⟩
section
variable {K : PySem.W.Frag} {σ : L2.St} {H : Hp} {te ts : TE} {tl : TO} {a : List Nat}
theorem er_x20 (h : Er rX te σ H a) (h3 : Er rI ts σ H 2) (hz : a.length ≤ 1000000) : Er rX (tX2 te tNoPart ts) σ H (evs a) := fun H1 e Q q =>
  h H1 e _ fun v H2 e2 r => h3 H2 (e.trans e2) _ fun y H3 e3 ry => by
    cases r; cases ry
    refine ⟨2, rfl, S a, rfl, rfl, ?_, ?_⟩
    · rw [cutX_0, lenS, evs_len]; exact sz1 (by omega)
    · rw [cutX_0]; exact q _ H3 (e2.trans e3) rfl
theorem er_x21 {ta : TE} (h : Er rX te σ H a) (h1 : Er rI ta σ H 1) (h3 : Er rI ts σ H 2) (hz : a.length ≤ 1000000) : Er rX (tX2 te (tPart ta) ts) σ H (ods a) := fun H1 e Q q =>
  h H1 e _ fun v H2 e2 r => (eo1 h1) H2 (e.trans e2) _ fun H3 e3 => h3 H3 ((e.trans e2).trans e3) _ fun y H4 e4 ry => by
    cases r; cases ry
    refine ⟨2, rfl, S a, rfl, rfl, ?_, ?_⟩
    · rw [cutX_1, lenS]; unfold ods; rw [evs_len, List.length_tail]; exact sz1 (by omega)
    · rw [cutX_1]; exact q _ H4 ((e2.trans e3).trans e4) rfl
/-- what is left when the blanks go -/
theorem repl_blank (a : List Nat) : Txt.replace (S a) (S [32]) (S []) = S (a.filter fun c => c != 32) := by
  have h := StrLaws.replace_list (x := S a) (y := S [32]) (z := S []) (by decide)
  have e : ∀ l : List Nat, StrLaws.replL [32] [] l = l.filter fun c => c != 32 := by
    intro l
    induction l with
    | nil => exact StrLaws.replL_nil
    | cons c r ih =>
      by_cases hc : c = 32
      · subst hc
        rw [StrLaws.replL_hit (by simp) rfl]
        simpa using ih
      · rw [StrLaws.replL_miss (by simpa using hc), ih, List.filter_cons_of_pos (by simpa using hc)]
  have h2 : (Txt.replace (S a) (S [32]) (S [])).cps.toList = a.filter fun c => c != 32 := by rw [h]; exact e a
  cases hq : Txt.replace (S a) (S [32]) (S []) with
  | mk cps => rw [hq] at h2; show _ = Str.mk _; congr 1; exact Array.toList_inj.mp h2
theorem er_xblank (h : Er rX te σ H a) (hz : a.length ≤ 1000000) : Er rX (CwR.tReplC te " " "") σ H (a.filter fun c => c != 32) := fun H1 e Q q =>
  h H1 e _ fun v H2 e2 r => by
    cases r
    refine ⟨S a, rfl, ?_, ?_⟩
    · rw [lenS]
      show a.length + (a.length + 1) * 0 ≤ 16777216
      omega
    · have e3 : Txt.replace (S a) " " "" = S (a.filter fun c => c != 32) := repl_blank a
      rw [e3]
      exact q _ H2 e2 rfl
/-- the signs of a text, one by one -/
theorem el_lcSc {α : Type} {R : Rp α} [Me R] [Mkt K R] {tt : TT} {vs : List Nat} {j : Nat} {c : List Nat → Bool} {f : List Nat → α} (h : Er rX ts σ H a) (hb : a.length < 1000000) (hw : ∀ x, wipe ((wipe σ vs).set j (some x)) vs = wipe σ vs)
    (ht : ∀ x H1, Ex H H1 → x ∈ a.map (fun c => [c]) → Et tt ((wipe σ vs).set j (some (.str (S x)))) H1 (c x)) (he : ∀ x H1, Ex H H1 → x ∈ a.map (fun c => [c]) → c x = true → Er R te ((wipe σ vs).set j (some (.str (S x)))) H1 (f x)) :
    El R (tLc (iStr ts) (gName j) tt te vs) σ H (((a.map fun c => [c]).filter c).map f) := fun H1 e1 Q q =>
  h H1 e1 _ fun v H2 e2 r => by
    cases r
    refine ⟨S a, rfl, el_core (K := K) (R := R) (J := Its (S a)) (xs := a.map fun c => [c]) c f (by rw [List.length_map]; exact hb) (fun i H' e3 h => (by rw [List.length_map] at h; show i < (S a).length; rw [lenS]; exact h)) (fun H' e3 => (by rw [List.length_map]; show (S a).length ≤ a.length; rw [lenS]; exact Nat.le_refl _)) (fun i x u H' H'' C hx e3 y k => ?_) Q fun p H3 n3 e3 l3 => q p H3 (fresh_back e2 n3) (e2.trans e3) l3⟩
    obtain ⟨rfl, d, hd, rfl⟩ := y
    have hx2 : x = [d] := by
      rw [List.getElem?_map] at hx
      have : a[i]? = some d := by rw [← getS]; exact hd
      rw [this] at hx
      exact (Option.some.inj hx).symm
    subst hx2
    exact k _ H'' (Ex.refl H'') ⟨hw _, ht [d] H'' ((e1.trans e2).trans e3) (List.mem_of_getElem? hx), fun hc => he [d] H'' ((e1.trans e2).trans e3) (List.mem_of_getElem? hx) hc⟩
theorem el_lcS {α : Type} {R : Rp α} [Me R] [Mkt K R] {vs : List Nat} {j : Nat} {f : List Nat → α} (h : Er rX ts σ H a) (hb : a.length < 1000000) (hw : ∀ x, wipe ((wipe σ vs).set j (some x)) vs = wipe σ vs)
    (he : ∀ x H1, Ex H H1 → x ∈ a.map (fun c => [c]) → Er R te ((wipe σ vs).set j (some (.str (S x)))) H1 (f x)) :
    El R (tLc (iStr ts) (gName j) tYes te vs) σ H ((a.map fun c => [c]).map f) := by
  have := el_lcSc (K := K) (R := R) (te := te) (tt := tYes) (c := fun _ => true) (f := f) h hb hw (fun _ _ _ _ => et_yes) (fun x H1 e hx _ => he x H1 e hx)
  rwa [List.filter_eq_self.mpr (fun _ _ => rfl)] at this
end
end
section
/-! ### an exception out of a comprehension: its element is a call that lets it out -/
open L2N HandSPX
theorem hok_hide {P : Program} {w : World} {H : Hp} {h : Heap} {C : Addr} (x : HOk P w H h) (hC : H C = none) : HOk P w H (PySem.W.hideAll h [C]) := fun a o e =>
  (x a o e).stay (fun c v hc q => PySem.W.hideAll_get _ q fun hm => by
    have : c = C := List.mem_singleton.mp hm
    subst this
    rcases hc with rfl | hc
    · rw [hC] at e; cases e
    · rw [hC] at hc; cases hc) (fun _ q => q) fun _ _ q => q
theorem hide_ne {h : Heap} {C b : Addr} {o : Obj} (e : (PySem.W.hideAll h [C]).get? b = some o) : b ≠ C := fun z => by
  subst z
  rw [PySem.W.hideAll_none [b] (h := h) (List.mem_singleton.mpr rfl)] at e
  cases e
theorem funs_base {h base base' : Heap} (k : ∀ b, base.get? b = none → base'.get? b = none) : ∀ {l : List Env}, h.FunFrames base l → h.FunFrames base' l
  | [], _ => trivial
  | _ :: _, ⟨a, ⟨L, o, h1, h2, h3, h4⟩, r⟩ => ⟨a, ⟨L, o, h1, k _ h2, h3, h4⟩, funs_base k r⟩
theorem none_hide {h : Heap} {C b : Addr} (e : h.get? b = none) : (PySem.W.hideAll h [C]).get? b = none := by
  cases q : (PySem.W.hideAll h [C]).get? b with
  | none => rfl
  | some o => rw [PySem.W.of_hideAll _ q] at e; cases e
theorem setFlight_hereZ {M : Model} {A : Around} {E : Value → Shared → Prop} {s : Shared} {base : Heap} {l : List Env} {e L : Addr} {Z : Obj → Prop} {fl : Value} {Q : Unit → Shared → Prop}
    (hkb : base.StaysIn s.heap) (hl : s.heap.FunFrames base l) (ht : TracedZ s.heap base e Z fl)
    (h : ∀ h', base.StaysIn h' → h'.FunFrames base l → TracedZ h' base e Z (rawInt L) → (∀ b o, s.heap.get? b = some o → (∀ vs, o.data ≠ .fields vs) → h'.get? b = some o) → Q () { s with heap := h' }) :
    wpAny M A (setFlight (.ref e) (some L)) Q E s := by
  obtain ⟨oe, vs, T, oT, ts, he, hz, hd, h1, hnT, hTe, hT, hdT, h3⟩ := ht
  have hsz3 : 3 < ts.size := (Array.getElem?_eq_some_iff.mp h3).1
  have other : ∀ b, b ≠ T → (s.heap.update T (Obj.mapFields (·.setIfInBounds 3 ((some L : Option Addr).elim Value.none fun f => rawInt f)))).get? b = s.heap.get? b :=
    fun b hb => Heap.get?_update_other _ _ (Ne.symm hb)
  have noRecord : ∀ b o, s.heap.get? b = some o → (∀ vs, o.data ≠ .fields vs) → b ≠ T := fun b o hb hnf q => by
    rw [q, hT] at hb; injection hb with hb; subst hb; exact hnf ts hdT
  unfold setFlight
  refine wpAny_bind (wpAny_field he hd h1 ?_)
  rw [if_pos (show (Value.ref T != Value.none) = true from by simp)]
  refine wpAny_setField hT hdT hsz3 (h _ (fun b o hbo => (other b fun q => by rw [q, hnT] at hbo; cases hbo).trans (hkb b o hbo))
    (hl.of_keeps fun b o hb hnf => ⟨o, (other b (noRecord b o hb hnf)).trans hb, rfl⟩) ?_ fun b o hb hnf => (other b (noRecord b o hb hnf)).trans hb)
  exact ⟨oe, vs, T, _, _, (other e (Ne.symm hTe)).trans he, hz, hd, h1, hnT, hTe, Heap.get?_update_self _ hT (Obj.isFreed_of_fields (Obj.data_mapFields hdT _)), Obj.data_mapFields hdT _, by simp [hsz3]⟩
theorem tracedZ_but {h h' base : Heap} {e L : Addr} {Z : Obj → Prop} {fl : Value} {m : Str → Option Value} (x : TracedZ h base e Z fl) (hn : h.Ns L m) (hs : Heap.SameBut L h h') : TracedZ h' base e Z fl := by
  obtain ⟨oe, vs, T, oT, ts, he, hc, hd, h1, hnT, hTe, hT, hdT, h3⟩ := x
  obtain ⟨oL, es, ep, hoL, hdL, _⟩ := hn
  have neE : e ≠ L := fun q => by
    rw [q, hoL] at he
    have z := Option.some.inj he
    rw [← z, hdL] at hd
    cases hd
  have neT : T ≠ L := fun q => by
    rw [q, hoL] at hT
    have z := Option.some.inj hT
    rw [← z, hdL] at hdT
    cases hdT
  exact ⟨oe, vs, T, oT, ts, (hs.2 e neE).trans he, hc, hd, h1, hnT, hTe, (hs.2 T neT).trans hT, hdT, h3⟩
/-- a block whose element may let an exception out -/
abbrev Cx.blkX (X : Cx) (s : Shared) (H : Hp) (scope : Scope) (cenv : Env) (fp : List Addr) (E : XK) : Cx :=
  { X.blk s H scope cenv fp with xe := fun e s' => ∃ pins σ H1 s1, Inv (X.blk s H scope cenv fp) pins σ H1 s1 ∧ L2N.CX X.prog X.w X.stack H1 s1 E e s' }
theorem blkX_inv {X : Cx} {s : Shared} {H : Hp} {scope : Scope} {cenv : Env} {fp : List Addr} {E : XK} {pins : List (Addr × Obj)} {σ : L2.St} {H1 : Hp} {s1 : Shared} (I : Inv (X.blk s H scope cenv fp) pins σ H1 s1) : Inv (Cx.blkX X s H scope cenv fp E) pins σ H1 s1 :=
  ⟨⟨I.ok.mod, I.ok.kind, I.ok.glob, I.ok.blt, I.ok.above, I.ok.inj, I.ok.has, I.ok.cab, I.ok.hd, I.ok.frames, I.ok.stk, I.ok.exf, I.ok.bs, I.ok.bsz, I.ok.noex, I.ok.exfs, I.ok.funs, I.ok.frf⟩, I.os, I.bare, I.base, I.loc, I.cell, I.free, I.freeC, I.pin, I.hok, I.len⟩
theorem inv_blkX {X : Cx} {s : Shared} {H : Hp} {scope : Scope} {cenv : Env} {fp : List Addr} {E : XK} {pins : List (Addr × Obj)} {σ : L2.St} {H1 : Hp} {s1 : Shared} (I : Inv (Cx.blkX X s H scope cenv fp E) pins σ H1 s1) : Inv (X.blk s H scope cenv fp) pins σ H1 s1 :=
  ⟨⟨I.ok.mod, I.ok.kind, I.ok.glob, I.ok.blt, I.ok.above, I.ok.inj, I.ok.has, I.ok.cab, I.ok.hd, I.ok.frames, I.ok.stk, I.ok.exf, I.ok.bs, I.ok.bsz, I.ok.noex, I.ok.exfs, I.ok.funs, I.ok.frf⟩, I.os, I.bare, I.base, I.loc, I.cell, I.free, I.freeC, I.pin, I.hok, I.len⟩
theorem passX {X : Cx} {s : Shared} {H : Hp} {scope : Scope} {cenv : Env} {fp : List Addr} {E : XK} : Passes (L2N.CX X.prog X.w) (Cx.blkX X s H scope cenv fp E) E := fun pins σ H1 s1 e s' I c => ⟨pins, σ, H1, s1, inv_blkX I, c⟩
/-- the call's exception, seen from the def: the block's names at C are not in its ground -/
theorem of_callC {X : Cx} {s s3 : Shared} {H H3 : Hp} {scope : Scope} {ce : Env} {fp : List Addr} {E : XK} {pins pins' : List (Addr × Obj)} {σ σ' : L2.St} {u : Value} {s' : Shared} (I3 : Inv X pins σ H3 s3) (hC : s3.heap.objs.size ≤ ce.locals)
    (hfp : ∀ b ∈ fp, FpOk X pins H3 b) (I : Inv (X.blk s3 H3 scope ce fp) pins' σ' H s) (c : L2N.CX X.prog X.w X.stack H s E u s') :
    ∃ (a : Addr) (B : Heap) (sI : Shared) (H' : Hp) (cls : Value) (d : Option Addr), u = .ref a ∧ FlyingZ B X.stack a (Zn cls d) s'.heap ∧ Inv X pins σ H' sI ∧ (∀ b o, sI.heap.get? b = some o → b ∉ frs X.stack → B.get? b = some o) ∧
      (∀ b o, sI.heap.get? b = some o → s'.heap.get? b = some o) ∧ B.get? ce.locals = none ∧ sI.heap.get? ce.locals = none ∧ (∃ m, s'.heap.Ns ce.locals m) ∧ H' a = none ∧ s'.os = sI.os ∧ AllBare s'.gens ∧ E cls d H' := by
  obtain ⟨a, B, H', cls, d, rfl, fl, hok, ub, na, os, ag, hE⟩ := c
  have hn : H ce.locals = none := I.free
  obtain ⟨m, ⟨oL, es, ep, hoL, hdL, hrest⟩, _⟩ := I.loc
  have hoL : s.heap.get? ce.locals = some oL := hoL
  have hnf : ce.locals ∉ frs X.stack := fun hm => by
    obtain ⟨_, o, ho, _⟩ := (show s3.heap.FunFrames X.base X.stack from I3.stack).mem hm
    exact absurd (Nat.lt_of_lt_of_le (Heap.lt_size ho) hC) (Nat.lt_irrefl _)
  have hn' : H' ce.locals = none := ub.free _ _ hoL hn
  have st : B.StaysIn s'.heap := fl.1
  have hCs' : s'.heap.get? ce.locals = some oL := st _ _ (ub.keep _ _ hoL hn hnf)
  -- without the names
  have u3 : Un (frs X.stack) fp H3 H s3.heap s.heap := I.base
  obtain ⟨B2, hB2⟩ : ∃ B2, B2 = PySem.W.hideAll B [ce.locals] := ⟨_, rfl⟩
  have hBsub : ∀ b o, B2.get? b = some o → B.get? b = some o := fun b o e => by rw [hB2] at e; exact PySem.W.of_hideAll _ e
  have hBget : ∀ b o, B.get? b = some o → b ≠ ce.locals → B2.get? b = some o := fun b o e n => by rw [hB2]; exact PySem.W.hideAll_get _ e fun hm => n (List.mem_singleton.mp hm)
  have hBC : B2.get? ce.locals = none := by rw [hB2]; exact PySem.W.hideAll_none _ (List.mem_singleton.mpr rfl)
  have hok2 : HOk X.prog X.w H' B2 := by rw [hB2]; exact hok_hide hok hn'
  have fl2 : FlyingZ B2 X.stack a (Zn cls d) s'.heap := by
    obtain ⟨f1, f2, f3, f4⟩ := fl
    have nn : ∀ b, B.get? b = none → B2.get? b = none := fun b e => by rw [hB2]; exact none_hide e
    refine ⟨fun b o e => f1 b o (hBsub b o e), nn _ f2, funs_base nn f3, ?_⟩
    obtain ⟨oe, vs, T, oT, ts, t1, t2, t3, t4, t5, r⟩ := f4
    exact ⟨oe, vs, T, oT, ts, t1, t2, t3, t4, nn _ t5, r⟩
  obtain ⟨G, g1, g2⟩ := restrict s'.heap fun b => (B2.get? b).isSome || decide (b ∈ frs X.stack)
  have gB : ∀ b o, B2.get? b = some o → G.get? b = some o := fun b o e => by
    rw [g1 b (by simp [e])]
    exact fl2.1 b o e
  have gF : ∀ b, b ∈ frs X.stack → G.get? b = s'.heap.get? b := fun b hb => g1 b (by simp [hb])
  have og : ∀ b o, G.get? b = some o → s'.heap.get? b = some o ∧ ((B2.get? b).isSome = true ∨ b ∈ frs X.stack) := fun b o e => by
    cases q : ((B2.get? b).isSome || decide (b ∈ frs X.stack)) with
    | false => rw [g2 b q] at e; cases e
    | true =>
      rw [g1 b q] at e
      exact ⟨e, by simpa [Bool.or_eq_true] using q⟩
  have hGC : G.get? ce.locals = none := g2 _ (by simp [hBC, hnf])
  have ne3 : ∀ b o, s3.heap.get? b = some o → b ≠ ce.locals := fun b o e z => absurd (Nat.lt_of_lt_of_le (Heap.lt_size e) hC) (by rw [z]; exact Nat.lt_irrefl _)
  refine ⟨a, B2, { s' with heap := G }, H', cls, d, rfl, fl2, ?_, fun b o e hb => ?_, fun b o e => (og b o e).1, hBC, hGC, ⟨m, oL, es, ep, hCs', hdL, hrest⟩, na, rfl, ag, hE⟩
  · have un : Un (frs X.stack) fp H3 H' s3.heap G := by
      refine ⟨fun b o e n hb hx => ?_, fun b o e n hb hx => ?_, fun b o e n hx => ?_, fun b o e hx => ?_, fun b xs e => ub.tups _ _ (u3.tups _ _ e), fun b o x e => ub.frzs _ _ _ (u3.frzs _ _ _ e), fun b ps e => ?_⟩
      · have e1 := u3.keep b o e n hb hx
        exact gB b o (hBget b o (ub.keep b o e1 (u3.free b o e n hx) hb) (ne3 b o e))
      · obtain ⟨sl, e1⟩ := u3.slot b o e n hb hx
        obtain ⟨sl2, e2⟩ := ub.slot b _ e1 hb
        exact ⟨sl2, by rw [gF b hb]; exact e2⟩
      · have h1 := u3.free b o e n hx
        obtain ⟨o1, e1⟩ := u3.there b o e hx
        exact ub.free b o1 e1 h1
      · obtain ⟨o1, e1⟩ := u3.there b o e hx
        by_cases hb : b ∈ frs X.stack
        · obtain ⟨sl, q⟩ := ub.slot b o1 e1 hb
          exact ⟨_, by rw [gF b hb]; exact q⟩
        · obtain ⟨o', q⟩ := ub.there b o1 e1 hb
          exact ⟨o', gB b o' (hBget b o' q (ne3 b o e))⟩
      · obtain ⟨m1, e1⟩ := u3.tbls b ps e
        obtain ⟨m2, e2⟩ := ub.tbls b _ e1
        exact ⟨m1 ++ m2, by rw [← Array.append_assoc]; exact e2⟩
    exact I3.call' (ch := fp) (s' := { s' with heap := G }) (os.trans I.os) un (hok2.kept gB) ag fun b hb => ⟨(hfp b hb).2.2.2.1, (hfp b hb).2.1, (hfp b hb).2.2.2.2.1, (hfp b hb).2.2.2.2.2⟩
  · obtain ⟨e', h⟩ := og b o e
    rcases h with h | h
    · obtain ⟨o', q⟩ := Option.isSome_iff_exists.mp h
      have z := fl2.1 b o' q
      rw [e'] at z; cases z
      exact q
    · exact absurd h hb
end
section
open L2N HandSPX
theorem fails_of {X : Cx} {s3 : Shared} {H3 : Hp} {scope : Scope} {ce : Env} {fp : List Addr} {E : XK} {pins : List (Addr × Obj)} {σ : L2.St} {u : Value} {s' : Shared} (hs : X.stack = X.env :: X.outer) (hf : X.env.frame = some X.env.locals)
    (tk : L2N.Takes X (fun cls d _ H => E cls d H)) (I3 : Inv X pins σ H3 s3) (hC : s3.heap.objs.size ≤ ce.locals) (hcf : ce.frame = X.env.frame) (hfp : ∀ b ∈ fp, FpOk X pins H3 b)
    (x : ∃ pins' σ' H s, Inv (X.blk s3 H3 scope ce fp) pins' σ' H s ∧ L2N.CX X.prog X.w X.stack H s E u s') : notedBy (model X.prog X.w) X.A ce (CompFails (model X.prog X.w) X.A X.xe ce) u s' := by
  obtain ⟨pins', σ', H, s, I, c⟩ := x
  obtain ⟨a, B, sI, H', cls, d, rfl, fl, II, nb, sub, hBC, hIC, ⟨m, hns⟩, na, os, ag, hE⟩ := of_callC I3 hC hfp I c
  have hfr : X.A.frames = some (X.env :: X.outer) := by rw [← hs]; exact II.ok.frames
  rw [hs] at fl
  show wpAny _ _ (noteFrame (.ref a) ce) _ _ s'
  rw [noteFrame_env _ hcf]
  refine PXN.looks_onZ Zn.steady hfr hf fl fun h1 hh up => ?_
  obtain ⟨b1, b0, f1, t1⟩ := hh
  have hn1 : h1.Ns ce.locals m := hns.upToSlots up
  refine ⟨m, hn1, fun h2 m2 hn2 hs2 => ?_⟩
  have b2 : B.StaysIn h2 := fun b o hb => (hs2.2 b fun q => by rw [q, hBC] at hb; cases hb).trans (b1 b o hb)
  have f2 := Heap.FunFrames.sameBut hs2 hn2 f1
  have t2 := tracedZ_but t1 hn1 hs2
  obtain ⟨oe, vs, T, oT, ts, he, hz, hd, hv1, r⟩ := id t2
  unfold PySem.passOn
  refine wpAny_bind (wpAny_field he hd hv1 ?_)
  rw [if_neg (show ¬ ((Value.ref T == Value.none) = true) from by simp)]
  rw [hcf, hf]
  refine wpAny_bind (setFlight_hereZ b2 f2 t2 fun h3 b3 f3 t3 k3 => ?_)
  refine wpAny_throw ?_
  refine tk _ _ ⟨a, B, sI, pins, σ, H', cls, d, rfl, II, nb, fun b o e hnf => ?_, .inr (.inr ⟨b3, b0, by rw [hs]; exact f3, t3⟩), na, os, ag, hE⟩
  obtain ⟨sl, e1⟩ := up b o (sub b o e) hnf
  exact ⟨sl, k3 b _ ((hs2.2 b fun z => by rw [z, hIC] at e; cases e).trans e1) hnf⟩
section
variable {X : Cx}
theorem lc_coreX {pins : List (Addr × Obj)} {s : Shared} {σ : L2.St} {H : Hp} {Q : VK} {elt tg iter : Expr} {ifs : List Expr} {scope : Scope} {own : List (Str × Nat)} {pos pos' : Pos} {wi : TI} {g : TG} {tt : TT} {te : TE} {use : Option (Value → Sem Unit)} {Qf : Value → Shared → Prop} {E : XK}
    (hst : X.stack = X.env :: X.outer) (hf : X.env.frame = some X.env.locals) (tk : L2N.Takes X (fun cls d _ H => E cls d H))
    (hc : X.calm = true) (hN : X.N.Nodup) (I : Inv X pins σ H s) (hi : PI X tg iter wi) (ok : BlkOk X.N X.env.scope scope own)
    (hg : ∀ (s : Shared) (H : Hp) (C : Addr) (cl : List (Str × Addr)) (fp : List Addr), PG (X.blk s H scope (compEnvC scope cl C X.env) fp) tg g) (ht : ∀ (s : Shared) (H : Hp) (C : Addr) (cl : List (Str × Addr)) (fp : List Addr), PTs (X.blk s H scope (compEnvC scope cl C X.env) fp) ifs tt)
    (he : ∀ (s : Shared) (H : Hp) (C : Addr) (cl : List (Str × Addr)) (fp : List Addr), PE (Cx.blkX X s H scope (compEnvC scope cl C X.env) fp E) elt te) (hs : ∀ x, foldedSetIterable iter X.env x = pure x)
    (h : tLc wi g tt te (own.map (·.2)) σ H Q)
    (hRR : ∀ D ce s' m H', Inv X pins σ H' s' → Q (.ref D) H' → s'.heap.Ns ce.locals m → FpOk X pins H' ce.locals → compEnds (model X.prog X.w) X.A X.xe use Qf (.ref D) ce (.ok .next) s') :
    wpAny (model X.prog X.w) X.A (comprehension (.ListComp elt [⟨tg, iter, ifs, 0⟩] scope pos) scope X.env pos' (newList []) false (eval iter X.env) use) Qf X.xe s := by
  have hfree : ∀ y ∈ scope.names, y.2 = .free → ∃ c, X.env.cells.lookup y.1 = some c := fun y hy e => by
    rcases ok.free y hy e with k | k
    · exact I.ok.has _ (.inl k)
    · exact I.ok.has _ (.inr k)
  refine comprehension_at (use := use) rfl hs (closure_ok hfree) ok.kind (fun y hy e => by rw [ok.uniq y hy, e])
    (thn (hi.run pins s σ H _ I h) fun xv s1 hx => thn hx fun itv s2 h2 => ?_)
  obtain ⟨it, fp, tn, J, H2, e, I2, T, st2, f2, q⟩ := h2
  subst e
  refine wpAny_newObj_type (newEnv_comp ?_) (by show 0 ≤ sizeLine; decide)
  generalize hD : s2.heap.objs.size = D
  have hDn : H2 D = none := I2.hok.fresh (Nat.le_of_eq hD)
  obtain ⟨W, ⟨m0, w0⟩, turn⟩ := q D hDn
  -- the new list
  generalize hs3 : ({ s2 with heap := s2.heap.push { cls := .type "list", data := .seq ([] : List Value).toArray } } : Shared) = s3
  have I3 : Inv X pins σ (upd H2 D (.lst [])) s3 := by
    rw [← hs3]
    refine I2.laid (t' := s2.toks) (fun b o e => Heap.get?_push_of_some _ e) (Nat.le_of_eq hD) ⟨Nat.zero_le _, [], 0, .nil, ?_⟩
    rw [← hD]
    exact Heap.get?_push_size _ rfl
  have h3 : s3.heap = s2.heap.push { cls := .type "list", data := .seq ([] : List Value).toArray } := by rw [← hs3]
  have sz : ∀ b ∈ fp, b < s2.heap.objs.size := fun b hb => by
    obtain ⟨o, e, _⟩ := T.obj _ _ st2 b hb
    exact Heap.lt_size e
  have f3 : ∀ b ∈ fp, FpOk X pins (upd H2 D (.lst [])) b ∧ b < s3.heap.objs.size := fun b hb => by
    have hlt := sz b hb
    refine ⟨⟨?_, (f2 b hb).2⟩, by rw [h3, Heap.size_push]; exact Nat.lt_succ_of_lt hlt⟩
    rw [upd_ne (by rw [← hD]; exact Nat.ne_of_lt hlt)]
    exact (f2 b hb).1
  have st3 : tn 0 s3.heap := T.keep _ _ _ st2 fun b _ o e => by rw [h3]; exact Heap.get?_push_of_some _ e
  have I4 := block_start I3 ok hN f3
  have pg := hg s3 (upd H2 D (.lst [])) s3.heap.objs.size (cellsFrom (s3.heap.objs.size + 1) scope.names (cloFrom X.env.cells scope.names [])) fp
  have pt := ht s3 (upd H2 D (.lst [])) s3.heap.objs.size (cellsFrom (s3.heap.objs.size + 1) scope.names (cloFrom X.env.cells scope.names [])) fp
  have pe := he s3 (upd H2 D (.lst [])) s3.heap.objs.size (cellsFrom (s3.heap.objs.size + 1) scope.names (cloFrom X.env.cells scope.names [])) fp
  show codeAny _ _ (.compStart (.ListComp elt [⟨tg, iter, ifs, 0⟩] scope pos) 0 (.ref it) (.ref D) (compEnvC scope (cellsFrom (s3.heap.objs.size + 1) scope.names (cloFrom X.env.cells scope.names [])) s3.heap.objs.size X.env)) (compEnds (model X.prog X.w) X.A X.xe use Qf (.ref D) (compEnvC scope (cellsFrom (s3.heap.objs.size + 1) scope.names (cloFrom X.env.cells scope.names [])) s3.heap.objs.size X.env)) { s3 with heap := pushCells (s3.heap.push { cls := .type "dict", data := .dict #[] }) scope.names }
  have nfp : ∀ b ∈ fp, (upd H2 D (.lst [])) b = none := fun b hb => (f3 b hb).1.1
  generalize hce : compEnvC scope (cellsFrom (s3.heap.objs.size + 1) scope.names (cloFrom X.env.cells scope.names [])) s3.heap.objs.size X.env = ce at I4 pg pt pe ⊢
  have cL : ce.locals = s3.heap.objs.size := by subst hce; rfl
  have cF : ce.frame = X.env.frame := by subst hce; rfl
  generalize hH3 : upd H2 D (.lst []) = H3 at I3 I4 pg pt pe w0 nfp f3
  generalize hs4 : ({ s3 with heap := pushCells (s3.heap.push { cls := .type "dict", data := .dict #[] }) scope.names } : Shared) = s4 at I4 ⊢
  have st4 : tn 0 s4.heap := T.keep _ _ _ st3 fun b _ o e => by rw [← hs4]; exact pushCells_keeps _ _ _ _ (Heap.get?_push_of_some _ e)
  have stat : ∀ {σ' : L2.St} {H' : Hp} {s' : Shared}, Inv (X.blk s3 H3 scope ce fp) [] σ' H' s' → (∀ b ∈ fp, H' b = none) → ∀ b ∈ fp, FpOk (X.blk s3 H3 scope ce fp) [] H' b := fun {σ' H' s'} I' hn b hb =>
    ⟨hn b hb, (I'.ok.exf b hb).1, I'.ok.exfs b hb, .inl hb, fun x c e => (I'.ok.exf b hb).2 x c e, fun p hp => absurd (show p ∈ ([] : List (Addr × Obj)) ++ [] from hp) (by simp)⟩
  have loop : codeAny (model X.prog X.w) X.A (.compLoop (.ListComp elt [⟨tg, iter, ifs, 0⟩] scope pos) 0 (.ref it) (.ref D) ce) (compEnds (model X.prog X.w) X.A X.xe use Qf (.ref D) ce) s4 := by
    refine compLoop_any (fun n s' => ∃ i H', Inv (X.blk s3 H3 scope ce fp) [] (wipe σ (own.map (·.2))) H' s' ∧ tn i s'.heap ∧ (∀ b ∈ fp, H' b = none) ∧ W i n H') ?_ m0 ⟨0, H3, I4, st4, nfp, w0⟩
    rintro n s5 ⟨i, H5, I5, st5, n5, w5⟩
    rcases turn i n H5 w5 with ⟨stop, qq⟩ | ⟨go, Nx, hNx, step⟩
    · have td := T.done (X.blk s3 H3 scope ce fp) rfl rfl rfl hc i [] s5 _ H5 (fun _ _ => False) I5 (stat I5 n5) st5 stop
      refine thnF td fun r s6 ⟨hr, I6⟩ => ?_
      subst hr
      have I7 : Inv X pins σ H5 s6 := I3.call' (ch := fp) I6.os I6.base I6.hok I6.bare fun b hb => ⟨(f3 b hb).1.2.2.2.1, (f3 b hb).1.2.1, (f3 b hb).1.2.2.2.2.1, (f3 b hb).1.2.2.2.2.2⟩
      have nC : H5 ce.locals = none := I6.free
      obtain ⟨m, hn, _⟩ := I6.loc
      exact hRR D ce s6 m H5 I7 qq hn (I3.fpOk (by rw [cL]; exact Nat.le_refl _) nC)
    · have ti := T.item (X.blk s3 H3 scope ce fp) rfl rfl rfl hc i [] s5 _ H5 (fun _ _ => False) I5 (stat I5 n5) st5 go
      refine thnF ti fun r s6 ⟨u, hr, h6⟩ => ?_
      subst hr
      refine thnF h6 fun _ s7 ⟨x, H7, I7, r7, y7, st7, n7⟩ => ?_
      have I7' := I7.pinned (stat I7 n7) (T.obj _ _ st7)
      refine thnF (pg.run _ s7 _ H7 x u _ I7' r7 (step x H7 y7)) fun _ s8 ⟨σ8, H8, I8, hw8, q8⟩ => ?_
      refine thnF (pt.run _ s8 σ8 H8 _ I8 q8) fun b s9 ⟨H9, I9, q9⟩ => ?_
      have fin : ∀ {s' : Shared} {H' : Hp}, Inv (X.blk s3 H3 scope ce fp) ([] ++ pinsAt fp s7.heap) σ8 H' s' → Nx H' → ∃ m, m < n ∧ ∃ i H', Inv (X.blk s3 H3 scope ce fp) [] (wipe σ (own.map (·.2))) H' s' ∧ tn i s'.heap ∧ (∀ b ∈ fp, H' b = none) ∧ W i m H' := fun {s' H'} I' nx => by
        obtain ⟨m', hm, w'⟩ := hNx H' nx
        have pin' : ∀ b ∈ fp, ∀ o, s7.heap.get? b = some o → s'.heap.get? b = some o ∧ H' b = none := fun b hb o e =>
          let z := I'.pin (b, o) (List.mem_append_right _ (List.mem_append_right _ (mem_pinsAt hb e)))
          ⟨z.1, z.2.1⟩
        have hl : (wipe σ (own.map (·.2))).length = σ8.length := by rw [← hw8, wipe_length]
        refine ⟨m', hm, i + 1, H', (I'.unpinned (pins := [])).weak hl (fun j v e => ?_), T.keep _ _ _ st7 fun b hb o e => (pin' b hb o e).1, fun b hb => ?_, w'⟩
        · rw [← hw8] at e
          exact (wipe_some e).1
        · obtain ⟨o, e, _⟩ := T.obj _ _ st7 b hb
          exact (pin' b hb o e).2
      cases b with
      | false =>
        simp only [Bool.false_eq_true, if_false] at q9 ⊢
        exact fin I9 q9
      | true =>
        simp only [if_true] at q9 ⊢
        refine wpAny_mono (pe.run _ s9 σ8 H9 _ (blkX_inv I9) q9) (fun z s10 hz => ?_) fun e s' x => fails_of hst hf tk I3 (by rw [cL]; exact Nat.le_refl _) cF (fun b hb => (f3 b hb).1) x
        obtain ⟨yv, H10, I10, r10, acc, hD10, hz10, nx⟩ := hz
        exact app_ok (X := X.blk s3 H3 scope ce fp) (inv_blkX I10) hD10 hz10 r10 fun s11 I11 => fin I11 nx
  exact codeAny_compStart_list loop (T.self X.A 0 _ _ _ st4 loop)
/-- as a value -/
theorem pe_lcX {E : XK} {elt tg iter : Expr} {ifs : List Expr} {scope : Scope} {own : List (Str × Nat)} {pos : Pos} {wi : TI} {g : TG} {tt : TT} {te : TE} (hst : X.stack = X.env :: X.outer) (hf : X.env.frame = some X.env.locals) (tk : L2N.Takes X (fun cls d _ H => E cls d H)) (hc : X.calm = true) (hN : X.N.Nodup) (hi : PI X tg iter wi) (ok : BlkOk X.N X.env.scope scope own)
    (hg : ∀ (s : Shared) (H : Hp) (C : Addr) (cl : List (Str × Addr)) (fp : List Addr), PG (X.blk s H scope (compEnvC scope cl C X.env) fp) tg g) (ht : ∀ (s : Shared) (H : Hp) (C : Addr) (cl : List (Str × Addr)) (fp : List Addr), PTs (X.blk s H scope (compEnvC scope cl C X.env) fp) ifs tt)
    (he : ∀ (s : Shared) (H : Hp) (C : Addr) (cl : List (Str × Addr)) (fp : List Addr), PE (Cx.blkX X s H scope (compEnvC scope cl C X.env) fp E) elt te) (hs : ∀ x, foldedSetIterable iter X.env x = pure x := by intro _; rfl) :
    PE X (.ListComp elt [⟨tg, iter, ifs, 0⟩] scope pos) (tLc wi g tt te (own.map (·.2))) := by
  refine ⟨fun pins s σ H Q I h => ?_⟩
  rw [eval_ListComp]
  refine lc_coreX hst hf tk hc hN I hi ok hg ht he hs h fun D ce s' m H' I' q hn f => ⟨m, hn, fun h'' sb => ?_⟩
  obtain ⟨f0, f1, f2, f3, f4, f5⟩ := f
  exact ⟨.ref D, H', I'.turned (t' := s'.toks) (fun b o hb e => (sb.2 b hb).trans e) f0 f1 f3 f4 f5, rfl, q⟩
end
end
end Dg


namespace Dg
open PySem PySem.Spec PyProof.Rows L2 Evl
open SX (S)
def topS (i : Nat) : Stmt := PySem.Challenge.pw_digitroots_k52_texts_refused.main.body.getD i (.Pass ⟨0, 0, 0, 0⟩)
abbrev s_is_whole : Stmt := topS 14
abbrev s_is_prime : Stmt := topS 15
abbrev s_look_prime : Stmt := topS 16
abbrev s_poly_in : Stmt := topS 22
abbrev s_two_in : Stmt := topS 23
abbrev s_read_poly : Stmt := topS 24
abbrev s_read_two : Stmt := topS 25
abbrev s__law_bag : Stmt := topS 27
abbrev s__law_take : Stmt := topS 28
abbrev s__law_numbers : Stmt := topS 29
abbrev s__law_poly_text : Stmt := topS 30
abbrev s__law_two_text : Stmt := topS 31
abbrev s__law_spoilt : Stmt := topS 32
abbrev s__law_poly_due : Stmt := topS 33
abbrev s__law_two_due : Stmt := topS 34
abbrev s__law_told : Stmt := topS 35
abbrev s__law_good : Stmt := topS 36
abbrev s_law : Stmt := topS 37
theorem sc_is_whole : FnScope ["thing"] ["thing"] (defScope s_is_whole) := ⟨rfl, rfl, rfl, by decide +kernel, rfl, by decide +kernel, by decide +kernel⟩
theorem sc_is_prime : FnScope ["thing"] ["thing"] (defScope s_is_prime) := ⟨rfl, rfl, rfl, by decide +kernel, rfl, by decide +kernel, by decide +kernel⟩
theorem sc_look_prime : FnScope ["p"] ["p"] (defScope s_look_prime) := ⟨rfl, rfl, rfl, by decide +kernel, rfl, by decide +kernel, by decide +kernel⟩
theorem sc_poly_in : FnScope ["p", "text", "most", "words", "word"] ["p", "text", "most"] (defScope s_poly_in) := ⟨rfl, rfl, rfl, by decide +kernel, rfl, by decide +kernel, by decide +kernel⟩
theorem sc_two_in : FnScope ["p", "text", "most", "texts", "one"] ["p", "text", "most"] (defScope s_two_in) := ⟨rfl, rfl, rfl, by decide +kernel, rfl, by decide +kernel, by decide +kernel⟩
theorem sc_read_poly : FnScope ["p", "thing"] ["p", "thing"] (defScope s_read_poly) := ⟨rfl, rfl, rfl, by decide +kernel, rfl, by decide +kernel, by decide +kernel⟩
theorem sc_read_two : FnScope ["p", "thing"] ["p", "thing"] (defScope s_read_two) := ⟨rfl, rfl, rfl, by decide +kernel, rfl, by decide +kernel, by decide +kernel⟩
theorem sc__law_bag : FnScope ["_law_script", "_law_at", "_law_cell", "_law_prime"] ["_law_script", "_law_at"] (defScope s__law_bag) := ⟨rfl, rfl, rfl, by decide +kernel, rfl, by decide +kernel, by decide +kernel⟩
theorem sc__law_take : FnScope ["_law_bag_here", "_law_many", "_law_digit"] ["_law_bag_here", "_law_many"] (defScope s__law_take) := ⟨rfl, rfl, rfl, by decide +kernel, rfl, by decide +kernel, by decide +kernel⟩
theorem sc__law_numbers : FnScope ["_law_bag_here", "_law_p", "_law_many", "_law_k"] ["_law_bag_here", "_law_p", "_law_many"] (defScope s__law_numbers) := ⟨rfl, rfl, rfl, by decide +kernel, rfl, by decide +kernel, by decide +kernel⟩
theorem sc__law_poly_text : FnScope ["_law_bag_here", "_law_p", "_law_most", "_law_many", "_law_number"] ["_law_bag_here", "_law_p", "_law_most"] (defScope s__law_poly_text) := ⟨rfl, rfl, rfl, by decide +kernel, rfl, by decide +kernel, by decide +kernel⟩
theorem sc__law_two_text : FnScope ["_law_bag_here", "_law_p", "_law_turn"] ["_law_bag_here", "_law_p"] (defScope s__law_two_text) := ⟨rfl, rfl, rfl, by decide +kernel, rfl, by decide +kernel, by decide +kernel⟩
theorem sc__law_spoilt : FnScope ["_law_bag_here", "_law_text", "_law_at", "_law_way", "_law_sign"] ["_law_bag_here", "_law_text"] (defScope s__law_spoilt) := ⟨rfl, rfl, rfl, by decide +kernel, rfl, by decide +kernel, by decide +kernel⟩
theorem sc__law_poly_due : FnScope ["_law_p", "_law_text", "_law_most", "_law_signs", "_law_sign"] ["_law_p", "_law_text", "_law_most"] (defScope s__law_poly_due) := ⟨rfl, rfl, rfl, by decide +kernel, rfl, by decide +kernel, by decide +kernel⟩
theorem sc__law_two_due : FnScope ["_law_p", "_law_text", "_law_polys", "_law_part"] ["_law_p", "_law_text"] (defScope s__law_two_due) := ⟨rfl, rfl, rfl, by decide +kernel, rfl, by decide +kernel, by decide +kernel⟩
theorem sc__law_told : FnScope ["_law_way", "_law_p", "_law_thing", "_law_other", "e"] ["_law_way", "_law_p", "_law_thing"] (defScope s__law_told) := ⟨rfl, rfl, rfl, by decide +kernel, rfl, by decide +kernel, by decide +kernel⟩
theorem sc__law_good : FnScope ["_law_way", "_law_p", "_law_thing", "_law_due"] ["_law_way", "_law_p", "_law_thing"] (defScope s__law_good) := ⟨rfl, rfl, rfl, by decide +kernel, rfl, by decide +kernel, by decide +kernel⟩
theorem sc_law : FnScope ["_law_script", "_law_k", "_law_bag_here", "_law_p", "_law_turn", "_law_poly", "_law_two", "_law_odd", "_law_thing", "_law_q"] ["_law_script"] (defScope s_law) := ⟨rfl, rfl, rfl, by decide +kernel, rfl, by decide +kernel, by decide +kernel⟩
def P3 (p : Nat) : Prop := p = 2 ∨ p = 3 ∨ p = 5
theorem P3.pos {p : Nat} (h : P3 p) : 0 < p := by rcases h with rfl | rfl | rfl <;> decide
theorem P3.two {p : Nat} (h : P3 p) : 2 ≤ p := by rcases h with rfl | rfl | rfl <;> decide
section
variable {P : Program} {w : World} {K : PySem.W.Frag} {mg : Str → Option Value} {base : Heap}
/-! ### is_whole, is_prime, look_prime -/
def sp_is_whole (K : PySem.W.Frag) : Sp := fun vs H Q _ => ∃ x : V, vs = [x] ∧ Th K H x ∧ ∀ H', Ex H H' → Q (.bl (isW x)) H'
theorem ok_is_whole {f : Addr} {fd : FuncData} (F : Fun K "is_whole" "is_whole" s_is_whole f fd) (n_isinstance : mg "isinstance" = none) (n_int : mg "int" = none) (n_bool : mg "bool" = none) : FnOk P w K mg base CX0 1 f fd ["thing"] (sp_is_whole K) := by
  refine F.ok sc_is_whole (fun vs H Q E h => ?_) (fun cdv A outer s H vs Q E hr h => ?_)
  · obtain ⟨x, rfl, _⟩ := h; rfl
  · obtain ⟨x, rfl, th, q⟩ := h
    obtain ⟨t, ty, k1, k2⟩ := th.ty
    refine ⟨_, pss_one (ps_ret (pe_and (pe_callB call_isi (by rfl) n_isinstance (by decide +kernel) (pa_cons (pv 0) (pa_cons (pe_bltn (v := .ty "int") (by rfl) n_int (by decide +kernel) rfl) pa_nil)))
      (pe_one (pe_not (pe_callB call_isi (by rfl) n_isinstance (by decide +kernel) (pa_cons (pv 0) (pa_cons (pe_bltn (v := .ty "bool") (by rfl) n_bool (by decide +kernel) rfl) pa_nil))))))), ?_⟩
    refine ⟨x, rfl, x, .ty "int", _, _, _, rfl, .ty "int", ty, kit_ty k1, _, rfl, ite2 (fun h1 => ?_) (fun h1 => ?_)⟩
    · refine ⟨x, rfl, x, .ty "bool", _, _, _, rfl, .ty "bool", ty, kit_ty k2, _, rfl, ?_⟩
      have e := isW_eq x
      rw [h1, Bool.true_and] at e
      rw [← e]
      exact q H (Ex.refl H)
    · have e := isW_eq x
      rw [Bool.eq_false_iff.mpr h1, Bool.false_and] at e
      have z := q H (Ex.refl H)
      rw [e] at z
      exact z
def sp_is_prime (K : PySem.W.Frag) : Sp := fun vs H Q _ => ∃ x : V, vs = [x] ∧ Th K H x ∧ ∀ H', Ex H H' → Q (.bl (isPr x)) H'
theorem ok_is_prime {f : Addr} {fd : FuncData} (F : Fun K "is_prime" "is_prime" s_is_prime f fd) (D_is_whole : Df P w K mg base CX0 1 "is_whole" ["thing"] (sp_is_whole K)) (c_PRIMES : Cn K mg "PRIMES" [.int 2, .int 3, .int 5]) : FnOk P w K mg base CX0 2 f fd ["thing"] (sp_is_prime K) := by
  refine F.ok sc_is_prime (fun vs H Q E h => ?_) (fun cdv A outer s H vs Q E hr h => ?_)
  · obtain ⟨x, rfl, _⟩ := h; rfl
  · obtain ⟨x, rfl, th, q⟩ := h
    refine ⟨_, pss_one (ps_ret (pe_and (pe_call D_is_whole.ok hr (by rfl) D_is_whole.g D_is_whole.kp D_is_whole.b .nil pass0 (pa_cons (pv 0) pa_nil))
      (pe_one (pe_cmpR op_in_seq (pv 0) (pe_glob (v := .ref c_PRIMES.a) (by rfl) c_PRIMES.g rfl) (by rfl))))), ?_⟩
    refine ⟨x, rfl, x, rfl, th, fun H1 e1 => ⟨_, rfl, ite2 (fun h1 => ?_) (fun h1 => ?_)⟩⟩
    · cases x <;> first | cases h1 | skip
      rename_i i
      refine ⟨.int i, rfl, c_PRIMES.a, _, rfl, .inr (c_PRIMES.s H1), rfl, rfl, ?_⟩
      have z := q H1 e1
      have e : inV (.int i) [.int 2, .int 3, .int 5] = isPr (.int i) := by
        show ((2 : Int) == i || ((3 : Int) == i || ((5 : Int) == i || false))) = decide (Pr i)
        rw [Bool.eq_iff_iff]
        simp only [Bool.or_eq_true, beq_iff_eq, Bool.false_eq_true, or_false, decide_eq_true_eq]
        exact ⟨fun h => by rcases h with h | h | h <;> simp [Pr, ← h], fun h => by rcases h with h | h | h <;> simp [h]⟩
      show Q (.bl (inV (.int i) [.int 2, .int 3, .int 5])) H1
      rw [e]
      exact z
    · have z := q H1 e1
      rw [isPr_W (Bool.eq_false_iff.mpr h1)] at z
      exact z
def sp_look_prime (K : PySem.W.Frag) (C : Addr) : Sp := fun vs H Q E => ∃ x : V, vs = [x] ∧ Th K H x ∧ (isPr x = true → ∀ H', Ex H H' → Q .non H') ∧ (isPr x = false → ∀ H', Ex H H' → E (.ref C) none H')
/-- what is known of a class of errors -/
structure Xc (K : PySem.W.Frag) (mg : Str → Option Value) (x : Str) (C : Addr) : Prop where
  g : mg x = some (.ref C)
  kp : PySem.W.keepIn K (.ref C) = true
  x : PySem.W.excIn K C [.type "ValueError", .type "Exception", .type "BaseException", .type "object"] "ValueError.__new__" = true
  sb : PySem.W.subIn K (.ref C) (.type "BaseException") = some true
  ty : PySem.W.typeIn K (.ref C) = some (.type "type")
theorem ok_look_prime {f : Addr} {fd : FuncData} (F : Fun K "look_prime" "look_prime" s_look_prime f fd) (D_is_prime : Df P w K mg base CX0 2 "is_prime" ["thing"] (sp_is_prime K)) {C : Addr} (x_NoPrime : Xc K mg "NoPrime" C) : FnOk P w K mg base (L2N.CX P w) 3 f fd ["p"] (sp_look_prime K C) := by
  refine okN F sc_look_prime (fun vs H Q E h => ?_) (fun cdv A outer s H vs Q E hr h => ?_)
  · obtain ⟨x, rfl, _⟩ := h; rfl
  · obtain ⟨x, rfl, th, q1, q2⟩ := h
    refine ⟨_, pss_one (ps_if (pt_not (pt_val (pe_call D_is_prime.ok hr (by rfl) D_is_prime.g D_is_prime.kp D_is_prime.b .nil pass0 (pa_cons (pv 0) pa_nil))))
      (pss_one (L2N.ps_raise rfl (L2N.takes_of rfl rfl rfl rfl) (L2N.pmk_own PySem.F.excBase_ValueError x_NoPrime.x x_NoPrime.g x_NoPrime.kp (raises_own x_NoPrime.sb x_NoPrime.ty) rfl))) pss_nil), ?_⟩
    refine ⟨x, rfl, x, rfl, th, fun H1 e1 => ⟨_, rfl, ite2 (fun h1 => ?_) (fun h1 => ?_)⟩⟩
    · exact q2 (by simpa using h1) H1 e1
    · exact q1 (by simpa using h1) H1 e1
/-- look_prime(p) as a statement -/
theorem s_look {x : V} {σ : L2.St} {H : Hp} {D : Ends} {i : Nat} {C : Addr} {E : XK} (hx : σ[i]? = some (some x)) (th : Th K H x) (k1 : ∀ p : Nat, x = .int p → P3 p → ∀ H1, Ex H H1 → D.nx σ H1) (k2 : isPr x = false → ∀ H1, Ex H H1 → E (.ref C) none H1) :
    tDrop (tCall (sp_look_prime K C) [] E (tCons (tVar i) tNil)) D σ H := by
  refine ⟨x, hx, x, rfl, th, fun h H1 e1 => ?_, k2⟩
  obtain ⟨p, rfl, hp⟩ := isPr_int h
  rcases hp with rfl | rfl | rfl
  · exact k1 2 rfl (.inl rfl) H1 e1
  · exact k1 3 rfl (.inr (.inl rfl)) H1 e1
  · exact k1 5 rfl (.inr (.inr rfl)) H1 e1
theorem P3.pr {p : Nat} (h : P3 p) : Pr (p : Int) := by rcases h with rfl | rfl | rfl <;> decide
theorem P3.le {p : Nat} (h : P3 p) : 2 ≤ p ∧ p ≤ 5 := by rcases h with rfl | rfl | rfl <;> decide
end
section
variable {P : Program} {w : World} {K : PySem.W.Frag} {mg : Str → Option Value} {base : Heap}
/-! ### the law's bag -/
def sp__law_bag (K : PySem.W.Frag) : Sp := fun vs H Q _ => ∃ (a : Addr) (ns : List Int) (k : Int), vs = [.ref a, .int k] ∧ SqL K H a (ns.map V.int) ∧ 0 ≤ k ∧ k < 1000 ∧ ∀ p H', H p = none → Ex H H' → Bag H' p → Q (.ref p) H'
theorem ok__law_bag {f : Addr} {fd : FuncData} (F : Fun K "_law_bag" "_law_bag" s__law_bag f fd) (n_len : mg "len" = none) (n_abs : mg "abs" = none) (n_int : mg "int" = none) : FnOk P w K mg base CX0 1 f fd ["_law_script", "_law_at"] (sp__law_bag K) := by
  refine F.ok sc__law_bag (fun vs H Q E h => ?_) (fun cdv A outer s H vs Q E hr h => ?_)
  · obtain ⟨a, ns, k, rfl, _⟩ := h; rfl
  · obtain ⟨a, ns, k, rfl, hS, hk0, hk1, q⟩ := h
    refine ⟨_, (pss_cons (ps_set (i := 2) sc__law_bag.nd rfl (Or.inl rfl) pe_int)
 (Evl.pss_cut (ps_if (pt_cmpR op_lt (pv 1) (pe_callB call_len_seq (by rfl) n_len (by decide +kernel) (pa_cons (pv 0) pa_nil)) (nomark _)) (pss_one (ps_set (i := 2) sc__law_bag.nd rfl (Or.inl rfl) (pe_callB call_abs (by rfl) n_abs (by decide +kernel) (pa_cons (pe_ix ix_list (pv 0) (pv 1) (fun _ _ => rfl)) pa_nil)))) pss_nil)
 (pss_cons (ps_set (i := 3) sc__law_bag.nd rfl (Or.inl rfl) (pe_ix ix_list (pe_lst (pa_cons pe_int (pa_cons pe_int (pa_cons pe_int (pa_cons pe_int (pa_cons pe_int (pa_cons pe_int (pa_cons pe_int (pa_cons pe_int pa_nil))))))))) (pe_op op_mod (pv 1) pe_int) (fun _ _ => rfl)))
 (pss_one (ps_ret (pe_lst (pa_cons (pe_op op_mul (pv 2) (pe_callTy call_int1 (by rfl) n_int (by decide +kernel) (pa_cons (pe_cmpR op_ge (pv 2) (pe_op op_pow pe_int pe_int) (nomark _)) pa_nil))) (pa_cons (pe_op op_mod (pe_op op_pow (pe_op op_add (pe_op op_add (pe_op op_mod (pv 2) pe_int) (pe_op op_mul pe_int (pv 1))) pe_int) pe_int) (pv 3)) (pa_cons (pv 3) (pa_cons pe_int pa_nil)))))))))), ?_⟩
    refine s_asgI er_int fun H1 e1 => ?_
    have hL : rL K rI H1 ns (.ref a) := Me.ex e1 (rl_of hS)
    refine ⟨fun σ' H' => ∃ cell : Int, 0 ≤ cell ∧ σ' = [some (.ref a), some (.int k), some (.int cell), none] ∧ Ex H H', ?_, ?_⟩
    · refine s_if (et_t (er_cmp er_iv (er_lenL (er_var rfl hL)))) (fun hb H2 e2 => ?_) (fun hb H2 e2 => ?_)
      · have hb' := of_decide_eq_true hb
        exact s_asgI (er_abs (er_ixL0 (0 : Int) (er_var rfl (Me.ex e2 hL)) er_iv (by omega) hb')) fun H3 e3 => ⟨_, by split <;> omega, rfl, (e1.trans e2).trans e3⟩
      · exact ⟨0, by omega, rfl, e1.trans e2⟩
    · rintro _ H2 ⟨cell, hc, rfl, F0⟩
      have hk8 : 0 ≤ k % 8 ∧ k % 8 < 8 := by omega
      refine s_asgI (er_ixL0 (0 : Int) (El.er (el_lst (R := rI) (eas er_int (eas er_int (eas er_int (eas er_int (eas er_int (eas er_int (eas er_int (eas er_int eas0)))))))) (by decide))) (er_op er_iv er_int (by decide)) (by show -(8 : Int) ≤ k % 8; omega) (by show k % 8 < (8 : Int); omega)) fun H3 e3 => ?_
      have hpr : 0 < gt0 (0 : Int) [2147483629, 2147483587, 2147483579, 2147483563, 2147483549, 2147483543, 2147483497, 2147483489] (k % 8) ∧ gt0 (0 : Int) [2147483629, 2147483587, 2147483579, 2147483563, 2147483549, 2147483543, 2147483497, 2147483489] (k % 8) < 4294967296 := by
        have hh : k % 8 = 0 ∨ k % 8 = 1 ∨ k % 8 = 2 ∨ k % 8 = 3 ∨ k % 8 = 4 ∨ k % 8 = 5 ∨ k % 8 = 6 ∨ k % 8 = 7 := by omega
        rcases hh with hh | hh | hh | hh | hh | hh | hh | hh <;> rw [hh] <;> decide
      generalize gt0 (0 : Int) [2147483629, 2147483587, 2147483579, 2147483563, 2147483549, 2147483543, 2147483497, 2147483489] (k % 8) = pr at hpr ⊢
      have hx : 0 ≤ cell % 2147483647 ∧ cell % 2147483647 < 2147483647 := by omega
      have hm := Int.emod_nonneg ((cell % 2147483647 + 104729 * k + 7) ^ (5 : Int).toNat) (show pr ≠ 0 by omega)
      have hm2 := Int.emod_lt_of_pos ((cell % 2147483647 + 104729 * k + 7) ^ (5 : Int).toNat) hpr.1
      refine go_L (el_lst (R := rI) (eas (er_op (C := CMul) er_iv (er_intB (er_cmp er_iv (er_op (C := CPow) er_int er_int ⟨by decide, by decide, by decide⟩))) (cmul_r (by split <;> omega)))
        (eas (er_op (er_op (C := CPow) (er_op0 (er_op0 (er_op er_iv er_int (by decide)) (er_op (C := CMul) er_int er_iv (cmul_l (by decide)))) er_int) er_int ⟨by decide, by decide, by omega⟩) er_iv (by omega)) (eas er_iv (eas er_int eas0)))) (by simp)) fun p H4 n4 e4 l4 => ?_
      refine q p H4 (fresh_back (F0.trans e3) n4) ((F0.trans e3).trans e4) ⟨_, _, _, _, l4, ?_, hm, by omega, hpr.1, hpr.2⟩
      split <;> simp <;> omega
def sp__law_take (K : PySem.W.Frag) : Sp := fun vs H Q _ => ∃ (b : Addr) (m : Int), vs = [.ref b, .int m] ∧ Bag H b ∧ 0 < m ∧ m < 1000000 ∧ ∀ (r : Int) H', C1 b H H' → Bag H' b → 0 ≤ r ∧ r < m → Q (.int r) H'
theorem ok__law_take {f : Addr} {fd : FuncData} (F : Fun K "_law_take" "_law_take" s__law_take f fd) : FnOk P w K mg base CX0 1 f fd ["_law_bag_here", "_law_many"] (sp__law_take K) := by
  refine F.ok sc__law_take (fun vs H Q E h => ?_) (fun cdv A outer s H vs Q E hr h => ?_)
  · obtain ⟨b, m, rfl, _⟩ := h; rfl
  · obtain ⟨b, m, rfl, ⟨b0, b1, pr, c, hB, h0, h1, h2, h3, h4⟩, hm0, hm1, q⟩ := h
    refine ⟨_, (pss_cons (ps_if (pt_cmpR op_gt (pe_ix ix_list (pv 0) pe_int (fun _ _ => rfl)) pe_int (nomark _)) (pss_cons (ps_set (i := 2) sc__law_take.nd rfl (Or.inl rfl) (pe_op op_mod (pe_ix ix_list (pv 0) pe_int (fun _ _ => rfl)) (pv 1)))
 (pss_cons (ps_asg (pe_op op_fdiv (pe_ix ix_list (pv 0) pe_int (fun _ _ => rfl)) (pv 1)) (pg_sub (pv 0) pe_int set_list))
 (pss_one (ps_ret (pv 2))))) pss_nil)
 (pss_cons (ps_asg (pe_op op_add (pe_ix ix_list (pv 0) pe_int (fun _ _ => rfl)) pe_int) (pg_sub (pv 0) pe_int set_list))
 (pss_cons (ps_asg (pe_op op_mod (pe_op op_add (pe_op op_add (pe_op op_mul (pe_ix ix_list (pv 0) pe_int (fun _ _ => rfl)) pe_int) (pe_op op_mul pe_int (pe_ix ix_list (pv 0) pe_int (fun _ _ => rfl)))) pe_int) (pe_ix ix_list (pv 0) pe_int (fun _ _ => rfl))) (pg_sub (pv 0) pe_int set_list))
 (pss_one (ps_ret (pe_op op_mod (pe_op op_mod (pe_op op_pow (pe_op op_fdiv (pe_ix ix_list (pv 0) pe_int (fun _ _ => rfl)) pe_int) pe_int) pe_int) (pv 1))))))), ?_⟩
    have ix : ∀ {H : Hp} {σ : L2.St} {xs : List Int} (k : Int), σ[0]? = some (some (.ref b)) → Lt rI H b xs → xs.length = 4 → 0 ≤ k → k < 4 → Er rI (tOp (rIxL K) (tVar 0) (tC (.int k))) σ H (gt0 0 xs k) := fun k hσ l hl k0 k1 => er_ixL0 (0 : Int) (er_var hσ l.rl) er_int (by omega) (by omega)
    have fin : ∀ (x : Int), 0 ≤ x % m ∧ x % m < m := fun x => ⟨Int.emod_nonneg _ (by omega), Int.emod_lt_of_pos _ hm0⟩
    refine s_if (et_t (er_cmp (ix 0 rfl hB rfl (by decide) (by decide)) er_int)) (fun hb H1 e1 => ?_) (fun hb H1 e1 => ?_)
    · have hb' : 0 < b0 := of_decide_eq_true hb
      refine s_asgI (er_op (ix 0 rfl (hB.ex e1) rfl (by decide) (by decide)) er_iv hm0) fun H2 e2 => ?_
      refine s_set (K := K) (j := 0) (hB.ex (e1.trans e2)) rfl (er_op (ix 0 rfl (hB.ex (e1.trans e2)) rfl (by decide) (by decide)) er_iv ⟨hm0, by omega⟩) er_int (by simp) (by simp) fun H3 c3 l3 => ?_
      refine s_ret (R := rI) er_iv fun v H4 e4 r => ?_
      cases r
      exact q _ H4 (((C1.ex (e1.trans e2)).trans c3).trans (C1.ex e4)) ⟨_, _, _, _, l3.ex e4, Int.ediv_nonneg h0 (by omega), h1, h2, h3, h4⟩ (fin _)
    · refine s_set (K := K) (j := 0) (hB.ex e1) rfl (er_op0 (ix 3 rfl (hB.ex e1) rfl (by decide) (by decide)) er_int) er_int (by simp) (by simp) fun H2 c2 l2 => ?_
      refine s_set (K := K) (j := 0) l2 rfl (er_op (er_op0 (er_op0 (er_op (C := CMul) (ix 1 rfl l2 rfl (by decide) (by decide)) er_int (cmul_r (by decide))) (er_op (C := CMul) er_int (ix 3 rfl l2 rfl (by decide) (by decide)) (cmul_l (by decide)))) er_int) (ix 2 rfl l2 rfl (by decide) (by decide)) (show 0 < pr from h3)) er_int (by simp) (by simp) fun H3 c3 l3 => ?_
      have z1 : 0 ≤ (b1 * 48271 + 7919 * (c + 1) + 11) % pr := Int.emod_nonneg _ (by omega)
      have z2 : (b1 * 48271 + 7919 * (c + 1) + 11) % pr < pr := Int.emod_lt_of_pos _ h3
      generalize hz : (b1 * 48271 + 7919 * (c + 1) + 11) % pr = z at z1 z2
      have l3' : Lt rI H3 b [b0, z, pr, c + 1] := by rw [← hz]; exact l3
      refine s_ret (R := rI) (er_op (er_op (er_op (C := CPow) (er_op (C := CDiv) (ix 1 rfl l3' rfl (by decide) (by decide)) er_int ⟨by decide, by decide⟩) er_int ⟨by decide, by decide, ?_⟩) er_int (by decide)) er_iv hm0) fun v H4 e4 r => ?_
      · show (z / 8).natAbs < 2 ^ 64
        omega
      · cases r
        exact q _ H4 ((((C1.ex e1).trans c2).trans c3).trans (C1.ex e4)) ⟨_, _, _, _, l3'.ex e4, h0, z1, by omega, h3, h4⟩ (fin _)
/-- a draw, step by step -/
theorem go_take {H : Hp} {σ : L2.St} {tm : TE} {E : XK} {Q : VK} {i : Nat} {b : Addr} {m : Int} (hσ : σ[i]? = some (some (.ref b))) (hB : Bag H b) (hm : Er rI tm σ H m) (h : 0 < m ∧ m < 1000000) (k : ∀ (r : Int) H', C1 b H H' → Bag H' b → 0 ≤ r ∧ r < m → Q (.int r) H') :
    tCall (sp__law_take K) [] E (tCons (tVar i) (tCons tm tNil)) σ H Q := by
  refine ⟨_, hσ, ?_⟩
  refine hm H (Ex.refl H) _ fun v H1 e1 r => ?_
  cases r
  exact ⟨b, m, rfl, hB.ex e1, h.1, h.2, fun r H' c B hr => k r H' ((C1.ex e1).trans c) B hr⟩
end
section
/-! ### the place of the first number that isn't 0 -/
def ordL (xs : List Int) : Nat := xs.findIdx fun x => !decide (x = 0)
def nzP (xs : List Int) : Prop := ∃ x ∈ xs, x ≠ 0
theorem enm_eq (xs : List Int) : enm xs = (List.range xs.length).map fun (i : Nat) => ((i : Int), (xs[i]?).getD 0) := by
  refine List.ext_getElem? fun i => ?_
  by_cases h : i < xs.length
  · rw [enm_get (List.getElem?_eq_getElem h), List.getElem?_map, List.getElem?_range h]
    simp [List.getElem?_eq_getElem h]
  · rw [List.getElem?_eq_none (by rw [enm_len]; omega), List.getElem?_eq_none (by simp; omega)]
theorem ord_lt {xs : List Int} (h : nzP xs) : ordL xs < xs.length := by
  obtain ⟨x, h1, h2⟩ := h
  exact List.findIdx_lt_length_of_exists ⟨x, h1, by simp [h2]⟩
theorem ord_find {xs : List Int} (h : nzP xs) : (List.range xs.length).find? (fun i => !decide ((xs[i]?).getD 0 = 0)) = some (ordL xs) := by
  have hl := ord_lt h
  rw [List.find?_range_eq_some]
  refine ⟨?_, List.mem_range.mpr hl, fun j hj => ?_⟩
  · rw [List.getElem?_eq_getElem hl]
    exact List.findIdx_getElem (p := fun x => !decide (x = 0)) (w := hl)
  · have hj2 : j < xs.length := Nat.lt_trans hj hl
    have := List.not_of_lt_findIdx (p := fun x => !decide (x = 0)) hj
    rw [List.getElem?_eq_getElem hj2]
    simpa using this
theorem gt0_head {ys : List Int} {a : Int} (h : ys.head? = some a) : gt0 (0 : Int) ys 0 = a ∧ 0 < ys.length := by
  cases ys with
  | nil => cases h
  | cons b r => cases h; exact ⟨rfl, Nat.succ_pos _⟩
theorem ordE {xs : List Int} (h : nzP xs) : gt0 (0 : Int) (((enm xs).filter fun x => !decide (x.2 = 0)).map fun x => x.1) 0 = (ordL xs : Int) ∧ 0 < (((enm xs).filter fun x => !decide (x.2 = 0)).map fun x => x.1).length := by
  refine gt0_head ?_
  rw [List.head?_map, List.head?_filter, enm_eq, List.find?_map]
  have e := ord_find h
  simp only [Function.comp_def]
  rw [e]
  rfl
theorem ordR {xs : List Int} (h : nzP xs) : gt0 (0 : Int) (((rng 0 (xs.length : Int)).filter fun i => !decide (gt0 (0 : Int) xs i = 0)).map fun i => i) 0 = (ordL xs : Int) ∧ 0 < (((rng 0 (xs.length : Int)).filter fun i => !decide (gt0 (0 : Int) xs i = 0)).map fun i => i).length := by
  refine gt0_head ?_
  rw [List.head?_map, List.head?_filter]
  unfold rng
  rw [List.find?_map, show ((xs.length : Int) - 0).toNat = xs.length by omega]
  have e := ord_find h
  simp only [Function.comp_def, Int.zero_add, gt0_nat]
  rw [e]
  rfl
end
section
def PwOk (pw : List (List Int)) : Prop := 0 < pw.length ∧ pw.length ≤ 4 ∧ (∀ a ∈ pw, a ≠ [] → nzP a ∧ a.length ≤ 1000) ∧ gt0 [] pw 0 ≠ []
theorem mem_cutL {α : Type} {xs : List α} {lo hi : Option Int} {i : Nat} {x : α} (h : (cutL xs lo hi)[i]? = some x) : x ∈ xs := List.mem_of_mem_drop (List.mem_of_mem_take (List.mem_of_getElem? h))
theorem cutL_one {α : Type} (xs : List α) : cutL xs (some 1) none = xs.drop 1 := cutL_lo 1
def mx2 (i j : Int) : Int := if j > i then j else i
def mn2 (i j : Int) : Int := if j < i then j else i
theorem er_mx2 {H : Hp} {σ : L2.St} {ta tb : TE} {i j : Int} (ha : Er rI ta σ H i) (hb : Er rI tb σ H j) : Er rI (tCB (fun xs H Q => ∃ i j, xs = [.int i, .int j] ∧ Q (.int (if j > i then j else i)) H) (tCons ta (tCons tb tNil))) σ H (mx2 i j) := er_max2 ha hb
theorem er_mn2 {H : Hp} {σ : L2.St} {ta tb : TE} {i j : Int} (ha : Er rI ta σ H i) (hb : Er rI tb σ H j) : Er rI (tCB (fun xs H Q => ∃ i j, xs = [.int i, .int j] ∧ Q (.int (if j < i then j else i)) H) (tCons ta (tCons tb tNil))) σ H (mn2 i j) := er_min2 ha hb
theorem PwOk.first {pw : List (List Int)} (h : PwOk pw) : nzP (gt0 [] pw 0) ∧ (gt0 [] pw 0).length ≤ 1000 := h.2.2.1 _ (List.mem_of_getElem? (gt0_some (d := ([] : List Int)) (i := 0) (by omega) (by have := h.1; omega))) h.2.2.2
theorem pw_small {p : Int} {i : Nat} (h : 2 ≤ p ∧ p ≤ 5) (hi : i < 3) : 1 < p ^ i * p ∧ p ^ i * p ≤ 625 := by
  have hp : p = 2 ∨ p = 3 ∨ p = 4 ∨ p = 5 := by omega
  have hii : i = 0 ∨ i = 1 ∨ i = 2 := by omega
  rcases hp with rfl | rfl | rfl | rfl <;> rcases hii with rfl | rfl | rfl <;> decide
theorem Pr.le {p : Int} (h : Pr p) : 2 ≤ p ∧ p ≤ 5 := by rcases h with rfl | rfl | rfl <;> decide
theorem pick3i {i : Int} (h : 0 ≤ i ∧ i < 3) : ∃ p, gt0 (0 : Int) [2, 3, 5] i = p ∧ Pr p := by
  have : i = 0 ∨ i = 1 ∨ i = 2 := by omega
  rcases this with rfl | rfl | rfl
  · exact ⟨2, rfl, .inl rfl⟩
  · exact ⟨3, rfl, .inr (.inl rfl)⟩
  · exact ⟨5, rfl, .inr (.inr rfl)⟩
theorem mm_b {n : Nat} {a b : Int} (ha : 0 ≤ a ∧ a < 1000 := by decide) (hb : 0 ≤ b ∧ b < 1000 := by decide) : -(2 ^ 62) ≤ mx2 a (mn2 b (n : Int)) ∧ mx2 a (mn2 b (n : Int)) < 2 ^ 62 := by
  unfold mx2 mn2
  split <;> split <;> omega
theorem mm_b2 {n : Nat} {a b : Int} (ha : 0 ≤ a ∧ a < 1000 := by decide) (hb : 0 ≤ b ∧ b < 1000 := by decide) : mx2 a (mn2 b (n : Int)) ≤ 1000 := by
  unfold mx2 mn2
  split <;> split <;> omega
theorem cutL_len {α : Type} (xs : List α) (lo hi : Option Int) : (cutL xs lo hi).length ≤ xs.length := by
  unfold cutL
  rw [List.length_take, List.length_drop]
  omega
/-- the greatest place that fits, and one more -/
theorem mxT {n : Nat} {c : Int → Bool} : ∃ m : Nat, mxD 0 (((rng 0 (n : Int)).filter c).map fun x => x + 1) = (m : Int) ∧ m ≤ n ∧ (m = 0 ∨ c ((m : Int) - 1) = true) := by
  cases hz : ((rng 0 (n : Int)).filter c).map fun x => x + 1 with
  | nil => exact ⟨0, rfl, Nat.zero_le _, .inl rfl⟩
  | cons a r =>
    have hm : mxD 0 (a :: r) ∈ a :: r := by
      show mxI a r ∈ a :: r
      rcases mxI_mem r a with h | h
      · rw [h]; exact List.mem_cons_self ..
      · exact List.mem_cons_of_mem _ h
    rw [← hz] at hm ⊢
    obtain ⟨k, hk, ek⟩ := List.mem_map.mp hm
    obtain ⟨hk1, hk2⟩ := List.mem_filter.mp hk
    obtain ⟨i, hi⟩ := List.getElem?_of_mem hk1
    have hr := rng_at hi
    refine ⟨(k + 1).toNat, by rw [← ek]; omega, by omega, .inr ?_⟩
    rw [show (((k + 1).toNat : Nat) : Int) - 1 = k by omega]
    exact hk2
theorem gt0_take_last {α : Type} {d : α} {xs : List α} {m : Nat} (hm : m ≤ xs.length) (h0 : 0 < m) : gt0 d (xs.take m) (-1) = gt0 d xs ((m : Int) - 1) := by
  have e : ((m : Int) - 1) = ((m - 1 : Nat) : Int) := by omega
  rw [e, gt0_nat]
  unfold gt0 ixs
  rw [if_neg (by omega), List.length_take, Nat.min_eq_left hm, show ((-1 : Int) + (m : Int)).toNat = m - 1 by omega, List.getElem?_take_of_lt (by omega)]
end
section
/-! ### what a text writes: the program's reading and the law's -/
def dgI (w : List Nat) : Int := ((w.headD 48 : Nat) : Int) - 48
def wds (t : List Nat) : List (List Nat) := TL.spl [32] 0 [] t
def txs (t : List Nat) : List (List Nat) := TL.spl [32, 59, 32] 0 [] t
def figs (p : Int) : List Nat := cutL ([48, 49, 50, 51, 52] : List Nat) none (some p)
def goodW (p : Int) (w : List Nat) : Bool := !decide (w = ([] : List Nat)) && (subX w (figs p) && decide ((w.length : Int) = (1 : Int)))
def bad1 (p : Int) (t : List Nat) (most : Int) : Bool := decide (most < ((wds t).length : Int)) || !(List.all ((wds t).map (goodW p)) id)
def rdP (p : Int) (t : List Nat) (most : Int) : Option (List Int) :=
  if t = [45] then some [] else if bad1 p t most = true then none else if gt0 ([] : List Nat) (wds t) (-1) = [48] then none else some ((wds t).map dgI)
def allO {α : Type} : List (Option α) → Option (List α)
  | [] => some []
  | none :: _ => none
  | some x :: r => (allO r).map (x :: ·)
def bad2 (t : List Nat) (most : Int) : Bool := decide (most < ((txs t).length : Int)) || decide (gt0 ([] : List Nat) (txs t) (-1) = [45])
def rdT (p : Int) (t : List Nat) (most : Int) : Option (List (List Int)) :=
  if t = [46] then some [] else if bad2 t most = true then none else allO ((txs t).map fun x => rdP p x 4)
def sgs (t : List Nat) : List (List Nat) := t.map fun c => [c]
def off1 (t : List Nat) (most : Int) : Bool := decide ((t.length : Int) % 2 = 0) || (decide (most < ((evs t).length : Int)) || !decide ((ods t).filter (fun c => c != 32) = []))
def off2 (p : Int) (t : List Nat) : Bool := !decide ((((sgs (evs t)).filter fun x => !subX x (figs p)).map fun x => x) = []) || decide ([gtX (evs t) (-1)] = [48])
def dueP (p : Int) (t : List Nat) (most : Int) : Option (List Int) :=
  if t = [45] then some [] else if off1 t most = true then none else if off2 p t = true then none else some ((sgs (evs t)).map dgI)
theorem figs_mem {p : Int} (hp : 2 ≤ p ∧ p ≤ 5) {c : Nat} (h : c ∈ figs p) : 48 ≤ c ∧ c < 53 := by
  have e : p = 2 ∨ p = 3 ∨ p = 4 ∨ p = 5 := by omega
  rcases e with rfl | rfl | rfl | rfl
  · have : c ∈ ([48, 49] : List Nat) := h
    simp at this; omega
  · have : c ∈ ([48, 49, 50] : List Nat) := h
    simp at this; omega
  · have : c ∈ ([48, 49, 50, 51] : List Nat) := h
    simp at this; omega
  · have : c ∈ ([48, 49, 50, 51, 52] : List Nat) := h
    simp at this; omega
theorem good_iff {p : Int} {w : List Nat} : goodW p w = true ↔ ∃ c, w = [c] ∧ c ∈ figs p := by
  unfold goodW
  constructor
  · intro h
    simp only [Bool.and_eq_true, decide_eq_true_eq] at h
    obtain ⟨_, h2, h3⟩ := h
    obtain ⟨c, rfl⟩ := List.length_eq_one_iff.mp (by omega : w.length = 1)
    rw [subX_one] at h2
    exact ⟨c, rfl, of_decide_eq_true h2⟩
  · rintro ⟨c, rfl, h⟩
    rw [subX_one]
    simp [h]
theorem spl_ne (S : List Nat) : ∀ (t : List Nat) (k : Nat) (acc : List Nat), TL.spl S k acc t ≠ []
  | [], k, acc => by rw [TL.spl_nil]; simp
  | c :: r, 0, acc => by
    cases h : TL.pre S (c :: r) with
    | true => rw [TL.spl_hit h]; simp
    | false => rw [TL.spl_miss h]; exact spl_ne S r 0 _
  | c :: r, k + 1, acc => by
    show TL.spl S k acc r ≠ []
    exact spl_ne S r k _
theorem join_spl : ∀ (t acc : List Nat), TL.joinL [32] (TL.spl [32] 0 acc t) = acc ++ t
  | [], acc => by rw [TL.spl_nil]; simp [TL.joinL]
  | c :: r, acc => by
    by_cases hc : c = 32
    · subst hc
      rw [TL.spl_hit (by rfl)]
      have ih := join_spl r []
      have hne := spl_ne [32] r 0 []
      show TL.joinL [32] (acc :: TL.spl [32] 0 [] r) = _
      cases e : TL.spl [32] 0 [] r with
      | nil => exact absurd e hne
      | cons x xs =>
        rw [e] at ih
        show acc ++ ([32] ++ TL.joinL [32] (x :: xs)) = _
        rw [ih]
        simp
    · rw [TL.spl_miss (by unfold TL.pre; simpa using hc), join_spl r]
      simp
/-- signs with a blank between -/
def J (cs : List Nat) : List Nat := TL.joinL [32] (sgs cs)
theorem J_cons2 (a b : Nat) (r : List Nat) : J (a :: b :: r) = a :: 32 :: J (b :: r) := rfl
theorem evs_J : ∀ cs : List Nat, evs (J cs) = cs
  | [] => rfl
  | [a] => rfl
  | a :: b :: r => by
    rw [J_cons2]
    show a :: evs (J (b :: r)) = _
    rw [evs_J (b :: r)]
theorem ods_cons2 (a b : Nat) (r : List Nat) : ods (a :: b :: r) = b :: ods r := by
  unfold ods
  cases r with
  | nil => rfl
  | cons c r => rfl
theorem ods_J : ∀ cs : List Nat, (ods (J cs)).filter (fun c => c != 32) = []
  | [] => rfl
  | [a] => rfl
  | a :: b :: r => by
    rw [J_cons2, ods_cons2]
    simpa using ods_J (b :: r)
theorem len_J : ∀ cs : List Nat, cs ≠ [] → (J cs).length % 2 = 1
  | [], h => absurd rfl h
  | [a], _ => rfl
  | a :: b :: r, _ => by
    rw [J_cons2]
    have := len_J (b :: r) (by simp)
    simp only [List.length_cons]
    omega
theorem eq_J : ∀ t : List Nat, t.length % 2 = 1 → (ods t).filter (fun c => c != 32) = [] → t = J (evs t)
  | [], h, _ => by simp at h
  | [a], _, _ => rfl
  | a :: b :: r, h, h2 => by
    rw [ods_cons2] at h2
    have hb : b = 32 := by
      cases hq : (b != 32) with
      | true => rw [List.filter_cons_of_pos (by simpa using hq)] at h2; cases h2
      | false => simpa using hq
    subst hb
    have h3 : (ods r).filter (fun c => c != 32) = [] := by simpa using h2
    have hr : r.length % 2 = 1 := by simp only [List.length_cons] at h; omega
    have ih := eq_J r hr h3
    show _ = J (a :: evs r)
    cases e : evs r with
    | nil =>
      have := congrArg List.length e
      rw [evs_len] at this
      simp at this
      omega
    | cons x xs =>
      rw [J_cons2, ← e, ← ih]
theorem wds_J {cs : List Nat} (hne : cs ≠ []) (h : ∀ c ∈ cs, c ≠ 32) : wds (J cs) = sgs cs := by
  unfold wds J
  refine SX.spl_join (sep := []) (fun z => hne (List.map_eq_nil_iff.mp z)) fun w hw => ?_
  obtain ⟨x, hx, rfl⟩ := List.mem_map.mp hw
  intro z
  exact h x hx (List.mem_singleton.mp z).symm
theorem good_J {p : Int} (hp : 2 ≤ p ∧ p ≤ 5) {t : List Nat} (h : ∀ w ∈ wds t, goodW p w = true) : ∃ cs : List Nat, cs ≠ [] ∧ t = J cs ∧ wds t = sgs cs ∧ ∀ c ∈ cs, c ∈ figs p := by
  have e : wds t = sgs ((wds t).map fun w => w.headD 0) := by
    unfold sgs
    rw [List.map_map]
    conv => lhs; rw [← List.map_id (wds t)]
    refine List.map_congr_left fun w hw => ?_
    obtain ⟨c, rfl, _⟩ := good_iff.mp (h w hw)
    rfl
  refine ⟨(wds t).map fun w => w.headD 0, fun z => spl_ne [32] t 0 [] (List.map_eq_nil_iff.mp z), ?_, e, fun c hc => ?_⟩
  · unfold J
    rw [← e]
    exact (join_spl t []).symm
  · obtain ⟨w, hw, rfl⟩ := List.mem_map.mp hc
    obtain ⟨c, rfl, h2⟩ := good_iff.mp (h w hw)
    exact h2
theorem all_good {p : Int} {t : List Nat} : (List.all ((wds t).map (goodW p)) id) = true ↔ ∀ w ∈ wds t, goodW p w = true := by
  rw [List.all_eq_true]
  constructor
  · intro h w hw
    exact h _ (List.mem_map_of_mem hw)
  · rintro h b hb
    obtain ⟨w, hw, rfl⟩ := List.mem_map.mp hb
    exact h w hw
theorem sgs_last {cs : List Nat} (h : cs ≠ []) : gt0 ([] : List Nat) (sgs cs) (-1) = [gtX cs (-1)] := by
  have hl := List.length_pos_iff.mpr h
  unfold gt0 gtX sgs
  rw [List.getElem?_map, List.length_map]
  have := (ixN_ixs (n := cs.length) (i := -1) (by omega) (by omega)).2
  rw [List.getElem?_eq_getElem this]
  rfl
theorem off_in {p : Int} {cs : List Nat} : ((((sgs cs).filter fun x => !subX x (figs p)).map fun x => x) = []) ↔ ∀ c ∈ cs, c ∈ figs p := by
  rw [List.map_eq_nil_iff, List.filter_eq_nil_iff]
  unfold sgs
  constructor
  · intro h c hc
    have := h [c] (List.mem_map_of_mem (f := fun c : Nat => [c]) hc)
    rw [subX_one] at this
    simpa using this
  · intro h x hx
    obtain ⟨c, hc, rfl⟩ := List.mem_map.mp hx
    rw [subX_one]
    simpa using h c hc
theorem due_rd {p : Int} (hp : 2 ≤ p ∧ p ≤ 5) (t : List Nat) (most : Int) : dueP p t most = rdP p t most := by
  unfold dueP rdP
  by_cases h45 : t = [45]
  · rw [if_pos h45, if_pos h45]
  rw [if_neg h45, if_neg h45]
  by_cases hg : ∀ w ∈ wds t, goodW p w = true
  · obtain ⟨cs, hne, rfl, hw, hf⟩ := good_J hp hg
    have e1 : off1 (J cs) most = decide (most < (cs.length : Int)) := by
      unfold off1
      rw [evs_J, ods_J, decide_eq_false (by have := len_J cs hne; omega)]
      simp
    have e2 : bad1 p (J cs) most = decide (most < (cs.length : Int)) := by
      unfold bad1
      rw [all_good.mpr hg, hw]
      unfold sgs
      rw [List.length_map]
      simp
    have e3 : off2 p (J cs) = decide ([gtX cs (-1)] = [48]) := by
      unfold off2
      rw [evs_J, decide_eq_true (off_in.mpr hf)]
      rfl
    rw [e1, e2, e3, hw, sgs_last hne, evs_J]
    simp only [decide_eq_true_eq]
  · have e2 : bad1 p t most = true := by
      unfold bad1
      rw [Bool.or_eq_true]
      right
      rw [Bool.not_eq_true']
      cases hq : List.all ((wds t).map (goodW p)) id with
      | true => exact absurd (all_good.mp hq) hg
      | false => rfl
    rw [e2, if_pos rfl]
    by_cases h1 : off1 t most = true
    · rw [if_pos h1]
    rw [if_neg h1]
    by_cases h2 : off2 p t = true
    · rw [if_pos h2]
    exfalso
    apply hg
    have h1' : off1 t most = false := by simpa using h1
    have h2' : off2 p t = false := by simpa using h2
    unfold off1 at h1'
    unfold off2 at h2'
    rw [Bool.or_eq_false_iff, Bool.or_eq_false_iff] at h1'
    rw [Bool.or_eq_false_iff] at h2'
    have a1 := of_decide_eq_false h1'.1
    have a2 : (ods t).filter (fun c => c != 32) = [] := by simpa using h1'.2.2
    have a3 := off_in.mp (of_decide_eq_true (by simpa using h2'.1))
    have ht := eq_J t (by omega) a2
    have hne : evs t ≠ [] := fun z => by
      have := congrArg List.length z
      rw [evs_len] at this
      simp at this
      omega
    intro w hw
    rw [ht, wds_J hne fun c hc z => by have := figs_mem hp (a3 c hc); omega] at hw
    obtain ⟨c, hc, rfl⟩ := List.mem_map.mp hw
    exact good_iff.mpr ⟨c, rfl, a3 c hc⟩
def offT (p : Int) (t : List Nat) : Bool := List.any ((txs t).map fun x => dueP p x 4) (fun z => decide (z = none)) || (decide (7 < (((txs t).map fun x => dueP p x 4).length : Int)) || decide (gt0 none ((txs t).map fun x => dueP p x 4) (-1) = some []))
def dueT (p : Int) (t : List Nat) : Option (List (List Int)) :=
  if t = [46] then some [] else if offT p t = true then none else some (((txs t).map fun x => dueP p x 4).map fun o => o.getD [])
theorem dueP_nil {p : Int} {x : List Nat} {most : Int} : dueP p x most = some [] ↔ x = [45] := by
  constructor
  · intro h
    unfold dueP at h
    by_cases h45 : x = [45]
    · exact h45
    rw [if_neg h45] at h
    by_cases h1 : off1 x most = true
    · rw [if_pos h1] at h; cases h
    rw [if_neg h1] at h
    by_cases h2 : off2 p x = true
    · rw [if_pos h2] at h; cases h
    rw [if_neg h2] at h
    exfalso
    have h3 := List.map_eq_nil_iff.mp (List.map_eq_nil_iff.mp (Option.some.inj h))
    have h4 := congrArg List.length h3
    rw [evs_len] at h4
    simp at h4
    apply h1
    unfold off1
    rw [decide_eq_true (by omega), Bool.true_or]
  · rintro rfl; rfl
theorem allO_none {α : Type} : ∀ {l : List (Option α)}, none ∈ l → allO l = none
  | [], h => by cases h
  | none :: _, _ => rfl
  | some x :: r, h => by
    show (allO r).map _ = none
    rw [allO_none (by simpa using h)]
    rfl
theorem allO_some {α : Type} {d : α} : ∀ {l : List (Option α)}, none ∉ l → allO l = some (l.map fun o => o.getD d)
  | [], h => rfl
  | none :: _, h => absurd (List.mem_cons_self ..) h
  | some x :: r, h => by
    show (allO r).map _ = _
    rw [allO_some (d := d) fun z => h (List.mem_cons_of_mem _ z)]
    rfl
theorem due_rdT {p : Int} (hp : 2 ≤ p ∧ p ≤ 5) (t : List Nat) : dueT p t = rdT p t 7 := by
  unfold dueT rdT
  by_cases h46 : t = [46]
  · rw [if_pos h46, if_pos h46]
  rw [if_neg h46, if_neg h46]
  have e0 : ((txs t).map fun x => rdP p x 4) = (txs t).map fun x => dueP p x 4 := List.map_congr_left fun x _ => (due_rd hp x 4).symm
  rw [e0]
  have hl : 0 < (txs t).length := List.length_pos_iff.mpr (spl_ne _ t 0 [])
  have e1 : decide (gt0 none ((txs t).map fun x => dueP p x 4) (-1) = some []) = decide (gt0 ([] : List Nat) (txs t) (-1) = [45]) := by
    unfold gt0
    rw [List.getElem?_map, List.length_map, List.getElem?_eq_getElem (ixN_ixs (n := (txs t).length) (i := -1) (by omega) (by omega)).2]
    exact decide_eq_decide.mpr dueP_nil
  by_cases hn : none ∈ (txs t).map fun x => dueP p x 4
  · have e2 : offT p t = true := by
      unfold offT
      rw [Bool.or_eq_true]
      left
      exact List.any_eq_true.mpr ⟨none, hn, by simp⟩
    rw [e2, allO_none hn, if_pos rfl]
    split <;> rfl
  · have e2 : offT p t = bad2 t 7 := by
      unfold offT bad2
      rw [e1, List.length_map]
      have : List.any ((txs t).map fun x => dueP p x 4) (fun z => decide (z = none)) = false := by
        rw [List.any_eq_false]
        intro z hz
        simp only [decide_eq_true_eq]
        rintro rfl
        exact hn hz
      rw [this, Bool.false_or]
    rw [e2, allO_some (d := []) hn]
end
section
theorem last_at {x hi : Int} {i : Nat} (h : x = 0 + (i : Int) ∧ 0 ≤ x ∧ x < hi) : some (V.int x) = some (V.int (((i + 1 : Nat) : Int) - 1)) := by
  congr 2
  omega
/-! ### bounds; a comprehension that may raise; things -/
theorem spl_bound (S : List Nat) : ∀ (t : List Nat) (k : Nat) (acc : List Nat), (TL.spl S k acc t).length ≤ t.length + 1 ∧ ∀ w ∈ TL.spl S k acc t, w.length ≤ acc.length + t.length
  | [], k, acc => by
    rw [TL.spl_nil]
    exact ⟨by simp, fun w hw => by rw [List.mem_singleton.mp hw]; simp⟩
  | c :: r, 0, acc => by
    cases h : TL.pre S (c :: r) with
    | true =>
      rw [TL.spl_hit h]
      obtain ⟨h1, h2⟩ := spl_bound S r (S.length - 1) []
      refine ⟨by simp only [List.length_cons]; omega, fun w hw => ?_⟩
      rcases List.mem_cons.mp hw with rfl | hw
      · simp
      · have := h2 w hw
        simp only [List.length_cons, List.length_nil] at this ⊢
        omega
    | false =>
      rw [TL.spl_miss h]
      obtain ⟨h1, h2⟩ := spl_bound S r 0 (acc ++ [c])
      refine ⟨by simp only [List.length_cons]; omega, fun w hw => ?_⟩
      have := h2 w hw
      simp only [List.length_append, List.length_cons, List.length_nil] at this ⊢
      omega
  | c :: r, k + 1, acc => by
    obtain ⟨h1, h2⟩ := spl_bound S r k acc
    refine ⟨Nat.le_trans h1 (by simp), fun w hw => Nat.le_trans (h2 w hw) (by simp)⟩
theorem wds_len (t : List Nat) : (wds t).length ≤ t.length + 1 := (spl_bound [32] t 0 []).1
theorem wds_mem {t w : List Nat} (h : w ∈ wds t) : w.length ≤ t.length := by simpa using (spl_bound [32] t 0 []).2 w h
theorem txs_len (t : List Nat) : (txs t).length ≤ t.length + 1 := (spl_bound [32, 59, 32] t 0 []).1
theorem txs_mem {t w : List Nat} (h : w ∈ txs t) : w.length ≤ t.length := by simpa using (spl_bound [32, 59, 32] t 0 []).2 w h
theorem wds_pos (t : List Nat) : 0 < (wds t).length := List.length_pos_iff.mpr (spl_ne _ t 0 [])
theorem txs_pos (t : List Nat) : 0 < (txs t).length := List.length_pos_iff.mpr (spl_ne _ t 0 [])
theorem digitsVal_one (c : Nat) : NumText.digitsVal [c] = c - 48 := by simp [NumText.digitsVal]
theorem one_int {p : Int} (hp : 2 ≤ p ∧ p ≤ 5) {c : Nat} (h : c ∈ figs p) : PySem.intText? (S [c]) = some (dgI [c]) := by
  have := figs_mem hp h
  rw [SX.int_S (by simp; omega) (by simp) (by simp), digitsVal_one]
  unfold dgI
  simp
  omega
theorem bad1_good {p : Int} {t : List Nat} {most : Int} (h : bad1 p t most = false) {w : List Nat} (hw : w ∈ wds t) : ∃ c, w = [c] ∧ c ∈ figs p := by
  unfold bad1 at h
  rw [Bool.or_eq_false_iff, Bool.not_eq_false'] at h
  exact good_iff.mp (all_good.mp h.2 w hw)
theorem rdP_0 {p : Int} {t : List Nat} {most : Int} (h : decide (t = ([45] : List Nat)) = true) : rdP p t most = some [] := by unfold rdP; rw [if_pos (of_decide_eq_true h)]
theorem rdP_n1 {p : Int} {t : List Nat} {most : Int} (h : decide (t = ([45] : List Nat)) = false) (h1 : bad1 p t most = true) : rdP p t most = none := by unfold rdP; rw [if_neg (of_decide_eq_false h), if_pos h1]
theorem rdP_n2 {p : Int} {t : List Nat} {most : Int} (h : decide (t = ([45] : List Nat)) = false) (h1 : bad1 p t most = false) (h2 : decide (gt0 ([] : List Nat) (wds t) (-1) = ([48] : List Nat)) = true) : rdP p t most = none := by
  unfold rdP; rw [if_neg (of_decide_eq_false h), if_neg (by rw [h1]; simp), if_pos (of_decide_eq_true h2)]
theorem rdP_s {p : Int} {t : List Nat} {most : Int} (h : decide (t = ([45] : List Nat)) = false) (h1 : bad1 p t most = false) (h2 : decide (gt0 ([] : List Nat) (wds t) (-1) = ([48] : List Nat)) = false) : rdP p t most = some ((wds t).map dgI) := by
  unfold rdP; rw [if_neg (of_decide_eq_false h), if_neg (by rw [h1]; simp), if_neg (of_decide_eq_false h2)]
theorem rdT_0 {p : Int} {t : List Nat} {most : Int} (h : decide (t = ([46] : List Nat)) = true) : rdT p t most = some [] := by unfold rdT; rw [if_pos (of_decide_eq_true h)]
theorem rdT_n1 {p : Int} {t : List Nat} {most : Int} (h : decide (t = ([46] : List Nat)) = false) (h1 : bad2 t most = true) : rdT p t most = none := by unfold rdT; rw [if_neg (of_decide_eq_false h), if_pos h1]
theorem rdT_s {p : Int} {t : List Nat} {most : Int} (h : decide (t = ([46] : List Nat)) = false) (h1 : bad2 t most = false) : rdT p t most = allO ((txs t).map fun x => rdP p x 4) := by
  unfold rdT; rw [if_neg (of_decide_eq_false h), if_neg (by rw [h1]; simp)]
theorem allO_snoc {α : Type} {y : α} : ∀ {l : List (Option α)} {ys : List α}, allO l = some ys → allO (l ++ [some y]) = some (ys ++ [y])
  | [], ys, h => by cases h; rfl
  | none :: _, _, h => by cases h
  | some x :: r, ys, h => by
    have h' : (allO r).map (x :: ·) = some ys := h
    cases e : allO r with
    | none => rw [e] at h'; cases h'
    | some zs =>
      rw [e] at h'
      cases h'
      show (allO (r ++ [some y])).map (x :: ·) = _
      rw [allO_snoc e]
      rfl
section
variable {K : PySem.W.Frag} {σ : L2.St} {H : Hp} {te tl ta tb : TE}
/-- [f(x) for x in texts] where f may raise -/
theorem lc_tryX {α : Type} {R : Rp α} [Me R] [Mkt K R] {vs : List Nat} {j : Nat} {p : Addr} {xs : List (List Nat)} {f : List Nat → Option α} {Z : Hp → Prop} {Q : VK} (htl : ∀ H1, Ex H H1 → ∀ Q' : VK, Q' (.ref p) H1 → tl σ H1 Q') (hl : Lt rX H p xs) (hb : xs.length < 1000000) (hw : ∀ x, wipe ((wipe σ vs).set j (some x)) vs = wipe σ vs)
    (he : ∀ x H1 (Q' : VK), Ex H H1 → x ∈ xs → (∀ y, f x = some y → ∀ v H2, Ex H1 H2 → R H2 y v → Q' v H2) → (f x = none → ∀ H2, Ex H1 H2 → Z H2) → te ((wipe σ vs).set j (some (.str (S x)))) H1 Q')
    (qs : ∀ ys, allO (xs.map f) = some ys → ∀ q H2, H q = none → Ex H H2 → Lt R H2 q ys → Q (.ref q) H2) (qn : allO (xs.map f) = none → ∀ H2, Ex H H2 → Z H2) : tLc (iList K tl) (gName j) tYes te vs σ H Q := by
  refine htl H (Ex.refl H) _ ?_
  obtain ⟨us, hs, hp⟩ := hl
  have hsq : SqL K H p us := SqL.of hs
  refine ⟨p, rfl, ⟨us, hsq⟩, fun D hD => ?_⟩
  have hlen := paired_len hp
  refine ⟨fun i m H' => m = xs.length - i ∧ i ≤ xs.length ∧ Ex H H' ∧ ∃ ys, allO ((xs.take i).map f) = some ys ∧ ys.length = i ∧ Lt R H' D ys, ⟨xs.length, rfl, Nat.zero_le _, Ex.new hD, [], rfl, rfl, ⟨[], upd_same, .nil⟩⟩, ?_⟩
  rintro i m H1 ⟨rfl, hi, e1, ys, hys, hyl, l1⟩
  by_cases hlt : i < xs.length
  · have hx : xs[i]? = some xs[i] := List.getElem?_eq_getElem hlt
    have tk : xs.take (i + 1) = xs.take i ++ [xs[i]] := by rw [List.take_add_one, hx]; rfl
    refine .inr ⟨⟨us, us[i]'(by omega), ex_l e1 hsq, List.getElem?_eq_getElem _⟩, fun H' => Ex H H' ∧ ∃ ys, allO ((xs.take (i + 1)).map f) = some ys ∧ ys.length = i + 1 ∧ Lt R H' D ys, fun H' h => ⟨xs.length - (i + 1), by omega, rfl, hlt, h⟩, fun u H2 y => ?_⟩
    obtain ⟨rfl, y⟩ := y
    obtain ⟨u', hu, ru⟩ := paired_get hp hx
    have eu := y us (ex_l e1 hsq)
    rw [hu] at eu
    cases eu
    cases ru
    refine ⟨hw _, ?_⟩
    show te _ H2 _
    refine he _ H2 _ e1 (List.mem_of_getElem? hx) (fun y hy v H3 e3 r => ?_) fun hn H3 e3 => ?_
    · obtain ⟨acc, a1, a2⟩ := l1.ex e3
      have la : acc.length = i := by rw [← paired_len a2]; exact hyl
      have kt1 : Kt K H3 (upd H3 D (.lst (acc ++ [v]))) := Kt.c1 a1 (C1.up (C1.refl D H3))
      refine ⟨acc, a1, sz0 (by omega), (fun a o h => ?_), ys ++ [y], ?_, by simp [hyl], ⟨acc ++ [v], upd_same, ?_⟩⟩
      · rw [upd_ne (ne_of_none h hD)]
        exact e3 _ _ (e1 _ _ h)
      · rw [tk, List.map_append]
        show allO (_ ++ [f xs[i]]) = _
        rw [hy]
        exact allO_snoc hys
      · exact paired_append (pm a2 fun _ _ z => Mkt.kt kt1 z) (.cons (Mkt.kt kt1 r) .nil)
    · refine qn (allO_none ?_) H3 (e1.trans e3)
      rw [← hn]
      exact List.mem_map_of_mem (List.mem_of_getElem? hx)
  · have hi2 : i = xs.length := by omega
    subst hi2
    rw [List.take_length] at hys
    exact .inl ⟨⟨us, ex_l e1 hsq, by omega⟩, qs ys hys D H1 hD e1 l1⟩
def rO {α : Type} (R : Rp α) : Rp (Option α) := fun H o v => match o with
  | none => v = .non
  | some x => R H x v
instance {α : Type} {R : Rp α} [Me R] : Me (rO R) := ⟨fun {H H' x v} e h => by cases x with | none => exact h | some x => exact Me.ex (R := R) e h⟩
instance {α : Type} {R : Rp α} [Mkt K R] : Mkt K (rO R) := ⟨fun {H H' x v} e h => by cases x with | none => exact h | some x => exact Mkt.kt (R := R) e h⟩
theorem er_oS {α : Type} {R : Rp α} {x : α} (h : Er R te σ H x) : Er (rO R) te σ H (some x) := h
theorem er_oN {α : Type} {R : Rp α} (h : Er rN te σ H ()) : Er (rO R) te σ H none := h
/-- texts of plain signs -/
def rXa : Rp (List Nat) := fun H a v => rX H a v ∧ ∀ c ∈ a, c < 128
instance : Me rXa := ⟨fun _ h => h⟩
instance : Mkt K rXa := ⟨fun _ h => h⟩
theorem strOkS {a : List Nat} (h : ∀ c ∈ a, c < 128) : PyData.strOk (S a) = true := by
  unfold PyData.strOk
  show (List.toArray a).all _ = true
  rw [List.all_toArray, List.all_eq_true]
  intro c hc
  exact decide_eq_true (Nat.lt_trans (h c hc) (by decide))
theorem plain_all {H : Hp} : ∀ {xs : List (List Nat)} {vs : List V}, Paired (rXa H) xs vs → DpAll K H vs (xs.map fun a => PyData.str (S a)) ∧ PyData.canLayAll0 (xs.map fun a => PyData.str (S a)) = true ∧ PyData.depthAll (xs.map fun a => PyData.str (S a)) ≤ 0
  | [], _, .nil => ⟨.nil, by simp only [List.map_nil, PyData.canLayAll0], by simp only [List.map_nil, PyData.depthAll]; omega⟩
  | x :: xs, _, .cons r t => by
    obtain ⟨h1, h2, h3⟩ := plain_all t
    obtain ⟨r1, r2⟩ := r
    cases r1
    refine ⟨.cons (.str _) h1, ?_, ?_⟩
    · simp only [List.map_cons, PyData.canLayAll0, PyData.canLay0, h2, strOkS r2, Bool.and_self]
    · simp only [List.map_cons, PyData.depthAll, PyData.depth]; omega
theorem er_neNil {xs : List (List Nat)} (ha : Er (rL K rXa) ta σ H xs) : Er rB (tOp (rNeD K) ta (tLst tNil)) σ H (!decide (xs = [])) := fun H1 e Q q =>
  ha H1 e _ fun v H2 e2 r => by
    refine ⟨(by show 0 ≤ sizeLine; decide), fun p np => ?_⟩
    have e3 := Ex.new (o := .lst []) np
    obtain ⟨a, vs, rfl, h1, h2⟩ := r
    obtain ⟨d1, d2, d3⟩ := plain_all (K := K) (pm h2 fun _ _ z => Me.ex (R := rXa) e3 z)
    have hs : SeqAt.shaped (.list (xs.map fun a => PyData.str (S a))) = true := by
      unfold SeqAt.shaped
      rw [Bool.and_eq_true]
      refine ⟨by simp only [PyData.canLay0]; exact d2, decide_eq_true ?_⟩
      simp only [PyData.depth]
      omega
    refine ⟨.list (xs.map fun a => PyData.str (S a)), .list [], .lst (ex_l e3 h1) d1, .lst (SqL.of upd_same) .nil, hs, by decide, ?_⟩
    have e4 : PyData.eqv (.list (xs.map fun a => PyData.str (S a))) (.list []) = decide (xs = []) := by
      cases xs with
      | nil => simp [PyData.eqv, PyData.eqvAll]
      | cons x xs => simp [PyData.eqv, PyData.eqvAll]
    rw [e4]
    exact q _ _ (e2.trans e3) rfl
/-- optional tuples as data -/
instance {α : Type} {R : Rp α} [r : Rd K (rT K R)] [q : Rd K R] : Rd K (rO (rT K R)) where
  to o := match o with
    | none => .none
    | some xs => .tuple (xs.map q.to)
  dep := q.dep + 1
  dp {H x v} h := by
    cases x with
    | none => cases (show v = .non from h); exact .non
    | some xs =>
      obtain ⟨a, vs, rfl, h1, h2⟩ := (show rT K R H xs v from h)
      exact .tup h1 (dpAll_of q.to (fun z => q.dp z) h2)
  lay x := by
    cases x with
    | none => simp only [PyData.canLay0]
    | some xs => simp only [PyData.canLay0]; exact layAll_of _ q.lay xs
  dle x := by
    cases x with
    | none => simp only [PyData.depth]; exact Nat.zero_le _
    | some xs => simp only [PyData.depth]; exact Nat.succ_le_succ (depAll_of _ q.dle xs)
  eqv x y := by
    cases x with
    | none => cases y with
      | none => simp only [PyData.eqv]
      | some ys => simp only [PyData.eqv]; simp
    | some xs => cases y with
      | none => simp only [PyData.eqv]; simp
      | some ys =>
        simp only [PyData.eqv, Option.some.injEq]
        exact eqvAll_of _ q.eqv xs ys
theorem er_xnotin {a b : List Nat} (ha : Er rX ta σ H a) (hb : Er rX tb σ H b) : Er rB (tOp (fun x y H Q => ∃ i j, x = .str i ∧ y = .str j ∧ Q (.bl (!(!(Builtin.Str.occurrences j i 0 j.length 1).isEmpty))) H) ta tb) σ H (!subX a b) := fun H1 e Q q =>
  ha H1 e _ fun v H2 e2 r1 => hb H2 (e.trans e2) _ fun w H3 e3 r2 => ⟨S a, S b, r1, r2, q _ H3 (e2.trans e3) rfl⟩
/-- None in a list of optional tuples -/
theorem er_noneIn {α : Type} {R : Rp α} [Me R] [q : Rd K R] {xs : List (Option (List α))} (ha : Er rN ta σ H ()) (hb : Er (rL K (rO (rT K R))) tb σ H xs) (hd : q.dep ≤ 60 := by exact Nat.le_of_ble_eq_true rfl) : Er rB (tOp (rInD K) ta tb) σ H (xs.any fun z => z.isNone) := fun H1 e Q k =>
  ha H1 e _ fun v H2 e2 r1 => hb H2 (e.trans e2) _ fun w H3 e3 r2 => by
    cases r1
    obtain ⟨a, vs, rfl, h1, h2⟩ := r2
    let O : Rd K (rO (rT K R)) := inferInstance
    let T : Rd K (rL K (rO (rT K R))) := inferInstance
    have hT : T.dep ≤ 64 := by show q.dep + 1 + 1 ≤ 64; omega
    refine ⟨.none, xs.map O.to, .non, T.dp (x := xs) ⟨a, vs, rfl, h1, h2⟩, by decide, Rd.shaped (r := T) hT xs, ?_⟩
    have e5 : (xs.map O.to).any (fun z => PyData.eqv z .none) = xs.any fun z => z.isNone := by
      rw [List.any_map]
      congr 1
      funext z
      cases z with
      | none => show PyData.eqv .none .none = true; simp only [PyData.eqv]
      | some ys => show PyData.eqv (.tuple (ys.map q.to)) .none = false; simp only [PyData.eqv]
    rw [e5]
    exact k _ H3 (e2.trans e3) rfl
theorem op_inDK {X : Cx} (K : PySem.W.Frag) (hu : X.A.units + 65 < cLine) (h : X.K = K := by rfl) : OpR X (compareOp .In) (rInD K) := by subst h; exact op_inD hu
end
/-- a thing that is no text -/
inductive NoS (K : PySem.W.Frag) (H : Hp) : V → Prop where
  | non : NoS K H .non
  | bl (b : Bool) : NoS K H (.bl b)
  | int (i : Int) : NoS K H (.int i)
  | tup {a : Addr} {xs : List V} (h : SqT K H a xs) : NoS K H (.ref a)
theorem NoS.kt {K : PySem.W.Frag} {H H' : Hp} {x : V} (e : Kt K H H') (h : NoS K H x) : NoS K H' x := by
  cases h with
  | non => exact .non
  | bl b => exact .bl b
  | int i => exact .int i
  | tup h => exact .tup (e _ _ h)
/-- a thing: a text, or none; pQ is the one list -/
def rTg (K : PySem.W.Frag) (pQ : Addr) : Rp (Option (List Nat)) := fun H o v => match o with
  | some s => v = .str (S s)
  | none => NoS K H v ∨ v = .ref pQ
instance {K : PySem.W.Frag} {pQ : Addr} : Mkt K (rTg K pQ) := ⟨fun {H H' x v} e h => by cases x with | some s => exact h | none => exact h.imp (NoS.kt e) id⟩
instance {K : PySem.W.Frag} {pQ : Addr} : Me (rTg K pQ) := ⟨fun {H H' x v} e h => Mkt.kt (K := K) (R := rTg K pQ) (Kt.ex e) h⟩
def oneL : List V := [.str (S [49])]
def rTgL (K : PySem.W.Frag) (pQ : Addr) : Rp (Option (List Nat)) := fun H o v => rTg K pQ H o v ∧ (o = none → Lt rX H pQ [[49]])
instance {K : PySem.W.Frag} {pQ : Addr} : Me (rTgL K pQ) := ⟨fun e h => ⟨Me.ex e h.1, fun z => (h.2 z).ex e⟩⟩
theorem rTgL.ty {K : PySem.W.Frag} {pQ : Addr} {H : Hp} {v : V} (h : rTgL K pQ H none v) : ∃ t : String, TyX K H v (.type t) ∧ kitB t "str" = some false := by
  rcases h.1 with h1 | h1
  · cases h1 with
    | non => exact ⟨_, .base .non, by decide +kernel⟩
    | bl b => exact ⟨_, .base (.bl b), by decide +kernel⟩
    | int i => exact ⟨_, .base (.int i), by decide +kernel⟩
    | tup h' => exact ⟨_, sqT_ty h', by decide +kernel⟩
  · subst h1
    obtain ⟨vs, h2, _⟩ := h.2 rfl
    exact ⟨_, .base (.lst h2), by decide +kernel⟩
section
variable {K : PySem.W.Frag} {σ : L2.St} {H : Hp} {te ta tb : TE} {pQ : Addr}
theorem er_dS {a : List Nat} (h : Er rX te σ H a) : Er (rTg K pQ) te σ H (some a) := h
theorem er_isSn (h : Er (rTgL K pQ) te σ H none) : Er rB (tCB (rIsi K) (tCons te (tCons (tC (.ty "str")) tNil))) σ H false := fun H1 e Q q =>
  h H1 e _ fun v H2 e2 r => by
    obtain ⟨t, ht, hk⟩ := rTgL.ty r
    exact ⟨v, .ty "str", .type t, .type "str", false, rfl, .ty "str", ht, kit_ty hk, q _ H2 e2 rfl⟩
theorem er_isSs {a : List Nat} (h : Er (rTgL K pQ) te σ H (some a)) : Er rB (tCB (rIsi K) (tCons te (tCons (tC (.ty "str")) tNil))) σ H true := er_isX (fun H1 e Q q => h H1 e Q fun v H2 e2 r => q v H2 e2 r.1)
/-- an answer: told, or refused as a text, for want of a prime, otherwise -/
def rTo {α : Type} (K : PySem.W.Frag) (R : Rp α) : Rp (Bool × Bool × Bool ⊕ α) := fun H x v => ∃ a, v = .ref a ∧ match x with
  | .inl (i, j, k) => SqT K H a [.str "refused", .bl i, .bl j, .bl k]
  | .inr y => ∃ u, SqT K H a [.str "told", u] ∧ R H y u
instance {α : Type} {R : Rp α} [Me R] : Me (rTo K R) := ⟨fun {H H' x v} e h => by
  obtain ⟨a, rfl, h⟩ := h
  refine ⟨a, rfl, ?_⟩
  cases x with
  | inl x => exact ex_t e h
  | inr y => obtain ⟨u, h1, h2⟩ := h; exact ⟨u, ex_t e h1, Me.ex e h2⟩⟩
instance {α : Type} {R : Rp α} [Mkt K R] : Mkt K (rTo K R) := ⟨fun {H H' x v} e h => by
  obtain ⟨a, rfl, h⟩ := h
  refine ⟨a, rfl, ?_⟩
  cases x with
  | inl x => exact e _ _ h
  | inr y => obtain ⟨u, h1, h2⟩ := h; exact ⟨u, e _ _ h1, Mkt.kt e h2⟩⟩
def toT {α : Type} (f : α → PyData) : Bool × Bool × Bool ⊕ α → PyData
  | .inl (i, j, k) => .tuple [.str "refused", .bool i, .bool j, .bool k]
  | .inr y => .tuple [.str "told", f y]
instance {α : Type} {R : Rp α} [r : Rd K R] : Rd K (rTo K R) where
  to := toT r.to
  dep := r.dep + 1
  dp {H x v} h := by
    obtain ⟨a, rfl, h⟩ := h
    cases x with
    | inl x => exact .tup h (.cons (.str _) (.cons (.bl _) (.cons (.bl _) (.cons (.bl _) .nil))))
    | inr y => obtain ⟨u, h1, h2⟩ := h; exact .tup h1 (.cons (.str _) (.cons (r.dp h2) .nil))
  lay x := by
    cases x with
    | inl x => simp only [toT, PyData.canLay0, PyData.canLayAll0, Bool.and_self]; decide +kernel
    | inr y => simp only [toT, PyData.canLay0, PyData.canLayAll0, r.lay, Bool.and_self]; decide +kernel
  dle x := by
    cases x with
    | inl x => simp only [toT, PyData.depth, PyData.depthAll]; omega
    | inr y => have := r.dle y; simp only [toT, PyData.depth, PyData.depthAll]; omega
  eqv x y := by
    cases x with
    | inl x =>
      obtain ⟨i, j, k⟩ := x
      cases y with
      | inl y =>
        obtain ⟨i', j', k'⟩ := y
        simp only [toT, PyData.eqv, PyData.eqvAll, Bool.and_eq_true, beq_iff_eq, Sum.inl.injEq, Prod.mk.injEq, and_true, true_and, beq_self_eq_true]
      | inr y =>
        simp only [toT, PyData.eqv, PyData.eqvAll, Bool.and_eq_true, reduceCtorEq, iff_false]
        intro h
        simp at h
    | inr x => cases y with
      | inl y =>
        obtain ⟨i, j, k⟩ := y
        simp only [toT, PyData.eqv, PyData.eqvAll, Bool.and_eq_true, reduceCtorEq, iff_false]
        intro h
        simp at h
      | inr y => simp only [toT, PyData.eqv, PyData.eqvAll, Bool.and_eq_true, beq_self_eq_true, true_and, and_true, r.eqv, Sum.inr.injEq]
theorem er_rf {α : Type} {R : Rp α} {a b c : TE} {i j k : Bool} (ha : Er rB a σ H i) (hb : Er rB b σ H j) (hc : Er rB c σ H k) : Er (rTo K R) (tTup (tCons (tC (.str "refused")) (tCons a (tCons b (tCons c tNil))))) σ H (.inl (i, j, k)) := fun H1 e Q q =>
  ha H1 e _ fun v1 H2 e2 r1 => hb H2 (e.trans e2) _ fun v2 H3 e3 r2 => hc H3 ((e.trans e2).trans e3) _ fun v3 H4 e4 r3 => by
    cases r1; cases r2; cases r3
    exact ⟨(by show 4 ≤ sizeLine; decide), fun p np => q _ _ (((e2.trans e3).trans e4).trans (Ex.new np)) ⟨p, rfl, SqT.of upd_same⟩⟩
theorem er_to {α : Type} {R : Rp α} [Me R] {a : TE} {x : α} (ha : Er R a σ H x) : Er (rTo K R) (tTup (tCons (tC (.str "told")) (tCons a tNil))) σ H (.inr x) := fun H1 e Q q =>
  ha H1 e _ fun v1 H2 e2 r1 => ⟨(by show 2 ≤ sizeLine; decide), fun p np => q _ _ (e2.trans (Ex.new np)) ⟨p, rfl, v1, SqT.of upd_same, Me.ex (Ex.new np) r1⟩⟩
end
end
section
variable {P : Program} {w : World} {K : PySem.W.Frag} {mg : Str → Option Value} {base : Heap}
def sp_poly_in (K : PySem.W.Frag) (C_NoText : Addr) : Sp := fun vs H Q E => ∃ (p : Int) (text : List Nat) (most : Int), vs = [.int p, .str (S text), .int most] ∧ (2 ≤ p ∧ p ≤ 5) ∧ text.length ≤ 1000 ∧
  (∀ xs, rdP p text most = some xs → ∀ v H', Ex H H' → rT K rI H' xs v → Q v H') ∧ (rdP p text most = none → ∀ H', Ex H H' → E (.ref C_NoText) none H')
theorem ok_poly_in {f : Addr} {fd : FuncData} (F : Fun K "poly_in" "poly_in" s_poly_in f fd) (n_tuple : mg "tuple" = none) (x_NoText : Xc K mg "NoText" C_NoText) (n_len : mg "len" = none) (n_all : mg "all" = none) (n_int : mg "int" = none) (c_FIGURES : Cg mg "FIGURES" (.str "01234")) : FnOk P w K mg base (L2N.CX P w) 1 f fd ["p", "text", "most"] (sp_poly_in K C_NoText) := by
  refine okN F sc_poly_in (fun vs H Q E h => ?_) (fun cdv A outer s H vs Q E hr h => ?_)
  · obtain ⟨p, text, most, rfl, _⟩ := h; rfl
  · obtain ⟨p, text, most, rfl, hp, hl, qs, qn⟩ := h
    refine ⟨_, (pss_cons (ps_if (pt_cmpR op_eq (pv 1) pe_str (nomark _)) (pss_one (ps_ret (pe_tup pa_nil))) pss_nil)
 (pss_cons (ps_set (i := 3) sc_poly_in.nd rfl (Or.inl rfl) (pe_split (pv 1) pe_str))
 (pss_cons (ps_if (PW.pt (pw_or (pt_cmpR op_gt (pe_callB (call_len_seqK K) (by rfl) n_len (by decide +kernel) (pa_cons (pv 3) pa_nil)) (pv 2) (nomark _)) (pw_or1 (pt_not (pt_val (pe_callB (cr_allK K rfl) (by rfl) n_all (by decide +kernel) (pa_cons (pe_lc (own := [("word", 4)]) (by rfl) sc_poly_in.nd (pi_listK K (pv 3)) (blkOk_by (own := [("word", 4)]) (N := ["p", "text", "most", "words", "word"]) (sc := defScope s_poly_in) (by decide +kernel)) (fun _ _ _ _ _ => (pg_name (i := 4) sc_poly_in.nd rfl (Or.inl rfl))) (fun _ _ _ _ _ => pts_nil) (fun _ _ _ _ _ => (pe_and (pe_cmpR op_ne (pv 4) pe_str (nomark _)) (pe_and (pe_cmpR op_in_str (pv 4) (pe_slice sl_str (C8.pe_gc (v := .str "01234") (by rfl) c_FIGURES) po_none (po_some (pv 0))) (by rfl)) (pe_one (pe_cmpR op_eq (pe_callB call_len_str (by rfl) n_len (by decide +kernel) (pa_cons (pv 4) pa_nil)) pe_int (nomark _))))))) pa_nil))))))) (pss_one (L2N.ps_raise rfl (L2N.takes_of rfl rfl rfl rfl) (L2N.pmk_own PySem.F.excBase_ValueError x_NoText.x x_NoText.g x_NoText.kp (raises_own x_NoText.sb x_NoText.ty) rfl))) pss_nil)
 (pss_cons (ps_if (pt_cmpR op_eq (pe_ix (ix_listK K) (pv 3) (pe_un un_neg pe_int) (fun _ _ => rfl)) pe_str (nomark _)) (pss_one (L2N.ps_raise rfl (L2N.takes_of rfl rfl rfl rfl) (L2N.pmk_own PySem.F.excBase_ValueError x_NoText.x x_NoText.g x_NoText.kp (raises_own x_NoText.sb x_NoText.ty) rfl))) pss_nil)
 (pss_one (ps_ret (pe_callTy (call_tuple_ofK K) (by rfl) n_tuple (by decide +kernel) (pa_cons (pe_lc (own := [("word", 4)]) (by rfl) sc_poly_in.nd (pi_listK K (pv 3)) (blkOk_by (own := [("word", 4)]) (N := ["p", "text", "most", "words", "word"]) (sc := defScope s_poly_in) (by decide +kernel)) (fun _ _ _ _ _ => (pg_name (i := 4) sc_poly_in.nd rfl (Or.inl rfl))) (fun _ _ _ _ _ => pts_nil) (fun _ _ _ _ _ => (pe_callTy call_int_str (by rfl) n_int (by decide +kernel) (pa_cons (pv 4) pa_nil)))) pa_nil)))))))), ?_⟩
    have F0 : Ex H H := Ex.refl H
    have hwl := wds_len text
    have hwm : ∀ {w}, w ∈ wds text → w.length ≤ text.length := wds_mem
    refine q_when (et_t (er_xeq er_xv (er_xc [45]))) (fun hb_1 H1 e2 => ?_) (fun hb_1 H1 e2 => ?_)
    ·
      have hb_1' := hb_1
      try simp only [Bool.and_eq_true, Bool.or_eq_true, Bool.not_eq_true', Bool.and_eq_false_iff, Bool.or_eq_false_iff, Bool.not_eq_false', decide_eq_true_eq, decide_eq_false_iff_not] at hb_1'
      replace F0 := F0.trans e2
      exact s_ret (R := rT K rI) (er_tup (R := rI) eas0 (by decide)) fun v H' e r => qs _ (rdP_0 hb_1) v H' (F0.trans e) r
    have hb_1' := hb_1
    try simp only [Bool.and_eq_true, Bool.or_eq_true, Bool.not_eq_true', Bool.and_eq_false_iff, Bool.or_eq_false_iff, Bool.not_eq_false', decide_eq_true_eq, decide_eq_false_iff_not] at hb_1'
    replace F0 := F0.trans e2
    refine q_asgL (el_xsplit er_xv (er_xc [32]) (by first | omega | assumption | (simp only [Bool.and_eq_true, Bool.or_eq_true, Bool.not_eq_true', Bool.and_eq_false_iff, Bool.or_eq_false_iff, Bool.not_eq_false', decide_eq_true_eq, decide_eq_false_iff_not, List.length_append, List.length_cons, List.length_nil, List.length_map, List.length_range, List.length_set, rng_len, enm_len, repL_len] at *; omega)) (by decide) (by decide)) fun p5 H3 n6 e4 l7 => ?_
    have n0p5 : _ = none := fresh_back F0 n6
    replace F0 := F0.trans e4
    refine q_when (et_or (et_t (er_cmp (er_lenL (er_var rfl (Lt.rl l7))) er_iv)) fun hc14 => (et_not (et_b (er_all (El.er (K := K) (el_lcLX (K := K) (er_var rfl (Lt.rl l7)) (Nat.lt_of_le_of_lt hwl (by omega)) (fun _ => rfl) (fun x8 H1 e9 hx10 => (er_andV (er_xne er_xv (er_xc [])) fun hc13 => (er_andV (er_xin er_xv (er_xsl (er_xc [48, 49, 50, 51, 52]) eo0 (eo1 er_iv) (by first | omega | assumption | (simp only [Bool.and_eq_true, Bool.or_eq_true, Bool.not_eq_true', Bool.and_eq_false_iff, Bool.or_eq_false_iff, Bool.not_eq_false', decide_eq_true_eq, decide_eq_false_iff_not, List.length_append, List.length_cons, List.length_nil, List.length_map, List.length_range, List.length_set, rng_len, enm_len, repL_len] at *; omega)))) fun hc12 => (er_eqI (er_xlen er_xv (by have := hwm (by assumption); omega)) er_int)))))))))) (fun hb_2 H15 e16 => ?_) (fun hb_2 H15 e16 => ?_)
    ·
      have hb_2' := hb_2
      try simp only [Bool.and_eq_true, Bool.or_eq_true, Bool.not_eq_true', Bool.and_eq_false_iff, Bool.or_eq_false_iff, Bool.not_eq_false', decide_eq_true_eq, decide_eq_false_iff_not] at hb_2'
      replace l7 := Lt.ex l7 e16
      replace F0 := F0.trans e16
      exact qn (rdP_n1 hb_1 hb_2) _ F0
    have hb_2' := hb_2
    try simp only [Bool.and_eq_true, Bool.or_eq_true, Bool.not_eq_true', Bool.and_eq_false_iff, Bool.or_eq_false_iff, Bool.not_eq_false', decide_eq_true_eq, decide_eq_false_iff_not] at hb_2'
    replace l7 := Lt.ex l7 e16
    replace F0 := F0.trans e16
    refine q_when (et_t (er_xeq (er_ixL0 [] (er_var rfl (Lt.rl l7)) (er_neg er_int) (by have := wds_pos text; exact (by omega : -((wds text).length : Int) ≤ -1)) (by have := wds_pos text; exact (by omega : (-1 : Int) < ((wds text).length : Int)))) (er_xc [48]))) (fun hb_3 H17 e18 => ?_) (fun hb_3 H17 e18 => ?_)
    ·
      have hb_3' := hb_3
      try simp only [Bool.and_eq_true, Bool.or_eq_true, Bool.not_eq_true', Bool.and_eq_false_iff, Bool.or_eq_false_iff, Bool.not_eq_false', decide_eq_true_eq, decide_eq_false_iff_not] at hb_3'
      replace l7 := Lt.ex l7 e18
      replace F0 := F0.trans e18
      exact qn (rdP_n2 hb_1 hb_2 hb_3) _ F0
    have hb_3' := hb_3
    try simp only [Bool.and_eq_true, Bool.or_eq_true, Bool.not_eq_true', Bool.and_eq_false_iff, Bool.or_eq_false_iff, Bool.not_eq_false', decide_eq_true_eq, decide_eq_false_iff_not] at hb_3'
    replace l7 := Lt.ex l7 e18
    replace F0 := F0.trans e18
    exact s_ret (R := rT K rI) (er_tupL (El.er (K := K) (el_lcLX (K := K) (er_var rfl (Lt.rl l7)) (Nat.lt_of_le_of_lt hwl (by omega)) (fun _ => rfl) (fun x19 H1 e20 hx21 => (er_xint (n := (dgI x19)) er_xv (by obtain ⟨c, rfl, hc⟩ := bad1_good hb_2 (by assumption); exact one_int hp hc) (by have := hwm (by assumption); have h3 := bad1_good hb_2 (by assumption); obtain ⟨c, h4, _⟩ := h3; rw [h4]; simp)))))) fun v H' e r => qs _ (rdP_s hb_1 hb_2 hb_3) v H' (F0.trans e) r

def sp_two_in (K : PySem.W.Frag) (C_NoText : Addr) : Sp := fun vs H Q E => ∃ (p : Int) (text : List Nat) (most : Int), vs = [.int p, .str (S text), .int most] ∧ (2 ≤ p ∧ p ≤ 5) ∧ text.length ≤ 1000 ∧
  (∀ xs, rdT p text most = some xs → ∀ v H', Ex H H' → rT K (rT K rI) H' xs v → Q v H') ∧ (rdT p text most = none → ∀ H', Ex H H' → E (.ref C_NoText) none H')
theorem ok_two_in {f : Addr} {fd : FuncData} (F : Fun K "two_in" "two_in" s_two_in f fd) (n_tuple : mg "tuple" = none) (x_NoText : Xc K mg "NoText" C_NoText) (n_len : mg "len" = none) (D_poly_in : Df P w K mg base (L2N.CX P w) 1 "poly_in" ["p", "text", "most"] (sp_poly_in K C_NoText)) (c_MOST_OF_TWO : Cg mg "MOST_OF_TWO" (.int 4)) : FnOk P w K mg base (L2N.CX P w) 2 f fd ["p", "text", "most"] (sp_two_in K C_NoText) := by
  refine okN F sc_two_in (fun vs H Q E h => ?_) (fun cdv A outer s H vs Q E hr h => ?_)
  · obtain ⟨p, text, most, rfl, _⟩ := h; rfl
  · obtain ⟨p, text, most, rfl, hp, hl, qs, qn⟩ := h
    refine ⟨_, (pss_cons (ps_if (pt_cmpR op_eq (pv 1) pe_str (nomark _)) (pss_one (ps_ret (pe_tup pa_nil))) pss_nil)
 (pss_cons (ps_set (i := 3) sc_two_in.nd rfl (Or.inl rfl) (pe_split (pv 1) pe_str))
 (pss_cons (ps_if (PW.pt (pw_or (pt_cmpR op_gt (pe_callB (call_len_seqK K) (by rfl) n_len (by decide +kernel) (pa_cons (pv 3) pa_nil)) (pv 2) (nomark _)) (pw_or1 (pt_cmpR op_eq (pe_ix (ix_listK K) (pv 3) (pe_un un_neg pe_int) (fun _ _ => rfl)) pe_str (nomark _))))) (pss_one (L2N.ps_raise rfl (L2N.takes_of rfl rfl rfl rfl) (L2N.pmk_own PySem.F.excBase_ValueError x_NoText.x x_NoText.g x_NoText.kp (raises_own x_NoText.sb x_NoText.ty) rfl))) pss_nil)
 (pss_one (ps_ret (pe_callTy (call_tuple_ofK K) (by rfl) n_tuple (by decide +kernel) (pa_cons (pe_lcX (own := [("one", 4)]) (E := E) rfl rfl (L2N.takes_of rfl rfl rfl rfl) (by rfl) sc_two_in.nd (pi_listK K (pv 3)) (blkOk_by (own := [("one", 4)]) (N := ["p", "text", "most", "texts", "one"]) (sc := defScope s_two_in) (by decide +kernel)) (fun _ _ _ _ _ => (pg_name (i := 4) sc_two_in.nd rfl (Or.inl rfl))) (fun _ _ _ _ _ => pts_nil) (fun _ _ _ _ _ => (pe_call D_poly_in.ok (hr.mono (by omega)) (by rfl) D_poly_in.g D_poly_in.kp D_poly_in.b .nil passX (pa_cons (pv 0) (pa_cons (pv 4) (pa_cons (C8.pe_gc (v := .int 4) (by rfl) c_MOST_OF_TWO) pa_nil)))))) pa_nil))))))), ?_⟩
    have F0 : Ex H H := Ex.refl H
    have hwl := txs_len text
    refine q_when (et_t (er_xeq er_xv (er_xc [46]))) (fun hb_1 H1 e2 => ?_) (fun hb_1 H1 e2 => ?_)
    ·
      have hb_1' := hb_1
      try simp only [Bool.and_eq_true, Bool.or_eq_true, Bool.not_eq_true', Bool.and_eq_false_iff, Bool.or_eq_false_iff, Bool.not_eq_false', decide_eq_true_eq, decide_eq_false_iff_not] at hb_1'
      replace F0 := F0.trans e2
      exact s_ret (R := rT K (rT K rI)) (er_tup (R := rT K rI) eas0 (by decide)) fun v H' e r => qs _ (rdT_0 hb_1) v H' (F0.trans e) r
    have hb_1' := hb_1
    try simp only [Bool.and_eq_true, Bool.or_eq_true, Bool.not_eq_true', Bool.and_eq_false_iff, Bool.or_eq_false_iff, Bool.not_eq_false', decide_eq_true_eq, decide_eq_false_iff_not] at hb_1'
    replace F0 := F0.trans e2
    refine q_asgL (el_xsplit er_xv (er_xc [32, 59, 32]) (by first | omega | assumption | (simp only [Bool.and_eq_true, Bool.or_eq_true, Bool.not_eq_true', Bool.and_eq_false_iff, Bool.or_eq_false_iff, Bool.not_eq_false', decide_eq_true_eq, decide_eq_false_iff_not, List.length_append, List.length_cons, List.length_nil, List.length_map, List.length_range, List.length_set, rng_len, enm_len, repL_len] at *; omega)) (by decide) (by decide)) fun p5 H3 n6 e4 l7 => ?_
    have n0p5 : _ = none := fresh_back F0 n6
    replace F0 := F0.trans e4
    refine q_when (et_or (et_t (er_cmp (er_lenL (er_var rfl (Lt.rl l7))) er_iv)) fun hc8 => (et_t (er_xeq (er_ixL0 [] (er_var rfl (Lt.rl l7)) (er_neg er_int) (by have := txs_pos text; exact (by omega : -((txs text).length : Int) ≤ -1)) (by have := txs_pos text; exact (by omega : (-1 : Int) < ((txs text).length : Int)))) (er_xc [45])))) (fun hb_2 H9 e10 => ?_) (fun hb_2 H9 e10 => ?_)
    ·
      have hb_2' := hb_2
      try simp only [Bool.and_eq_true, Bool.or_eq_true, Bool.not_eq_true', Bool.and_eq_false_iff, Bool.or_eq_false_iff, Bool.not_eq_false', decide_eq_true_eq, decide_eq_false_iff_not] at hb_2'
      replace l7 := Lt.ex l7 e10
      replace F0 := F0.trans e10
      exact qn (rdT_n1 hb_1 hb_2) _ F0
    have hb_2' := hb_2
    try simp only [Bool.and_eq_true, Bool.or_eq_true, Bool.not_eq_true', Bool.and_eq_false_iff, Bool.or_eq_false_iff, Bool.not_eq_false', decide_eq_true_eq, decide_eq_false_iff_not] at hb_2'
    replace l7 := Lt.ex l7 e10
    replace F0 := F0.trans e10
    refine s_ret0 (go_cbA (go_cons ?_))
    refine lc_tryX (K := K) (R := rT K rI) (f := fun x => rdP p x 4) (Z := fun H2 => E (.ref C_NoText) none H2) (fun H1 e Q2 k => ⟨_, rfl, k⟩) l7 (Nat.lt_of_le_of_lt (txs_len text) (by omega)) (fun _ => rfl) (fun x H1 Q2 e hx k1 k2 => ?_) (fun ys hys q9 H9 n9 e9 l9 => ?_) (fun hn H9 e9 => qn ((rdT_s hb_1 hb_2).trans hn) _ (F0.trans e9))
    · refine go_callA (go_cons ⟨_, rfl, go_cons ⟨_, rfl, go_cons ?_⟩⟩)
      refine go_I er_int fun H9 e9 => go_nil ?_
      exact ⟨p, x, 4, rfl, hp, Nat.le_trans (txs_mem hx) hl, fun xs hxs v H2 e2 r => k1 xs hxs v H2 (e9.trans e2) r, fun hn H2 e2 => k2 hn H2 (e9.trans e2)⟩
    · exact rtup_own l9 fun v H2 e2 r => qs ys ((rdT_s hb_1 hb_2).trans hys) v H2 ((F0.trans e9).trans e2) r

end
section
variable {P : Program} {w : World} {K : PySem.W.Frag} {mg : Str → Option Value} {base : Heap}
def sp_read_poly (K : PySem.W.Frag) (C_NoPrime C_NoText : Addr) : Sp := fun vs H Q E => ∃ (x t : V) (oc : Option (List Nat)) (pQ : Addr), vs = [x, t] ∧ Th K H x ∧ rTgL K pQ H oc t ∧ (∀ s, oc = some s → s.length ≤ 1000) ∧ (isPr x = false → ∀ H', Ex H H' → E (.ref C_NoPrime) none H') ∧
  (∀ p : Int, x = .int p → Pr p → (∀ xs, (oc.bind fun s => rdP p s 12) = some xs → ∀ v H', Ex H H' → rT K rI H' xs v → Q v H') ∧ ((oc.bind fun s => rdP p s 12) = none → ∀ H', Ex H H' → E (.ref C_NoText) none H'))
theorem ok_read_poly {f : Addr} {fd : FuncData} (F : Fun K "read_poly" "read_poly" s_read_poly f fd) {C_NoPrime C_NoText : Addr} (D_look_prime : Df P w K mg base (L2N.CX P w) 3 "look_prime" ["p"] (sp_look_prime K C_NoPrime)) (D_poly_in : Df P w K mg base (L2N.CX P w) 1 "poly_in" ["p", "text", "most"] (sp_poly_in K C_NoText))
    (c_MOST_NUMBERS : Cg mg "MOST_NUMBERS" (.int 12)) (n_isinstance : mg "isinstance" = none) (n_str : mg "str" = none) (x_NoText : Xc K mg "NoText" C_NoText) : FnOk P w K mg base (L2N.CX P w) 4 f fd ["p", "thing"] (sp_read_poly K C_NoPrime C_NoText) := by
  refine okN F sc_read_poly (fun vs H Q E h => ?_) (fun cdv A outer s H vs Q E hr h => ?_)
  · obtain ⟨x, t, oc, pQ, rfl, _⟩ := h; rfl
  · obtain ⟨x, t, oc, pQ, rfl, th, ht, hl, qP, qq⟩ := h
    refine ⟨_, (pss_cons (ps_expr (pe_call D_look_prime.ok (hr.mono (by omega)) (by rfl) D_look_prime.g D_look_prime.kp D_look_prime.b .nil (L2N.passes_call (L2N.takes_of rfl rfl rfl rfl) (fun _ _ _ _ h => h)) (pa_cons (pv 0) pa_nil)))
 (pss_cons (ps_if (pt_not (pt_val (pe_callB (call_isiK' K) (by rfl) n_isinstance (by decide +kernel) (pa_cons (pv 1) (pa_cons (pe_bltn (v := .ty "str") (by rfl) n_str (by decide +kernel) rfl) pa_nil))))) (pss_one (L2N.ps_raise rfl (L2N.takes_of rfl rfl rfl rfl) (L2N.pmk_own PySem.F.excBase_ValueError x_NoText.x x_NoText.g x_NoText.kp (raises_own x_NoText.sb x_NoText.ty) rfl))) pss_nil)
 (pss_one (ps_ret (pe_call D_poly_in.ok (hr.mono (by omega)) (by rfl) D_poly_in.g D_poly_in.kp D_poly_in.b .nil (L2N.passes_call (L2N.takes_of rfl rfl rfl rfl) (fun _ _ _ _ h => h)) (pa_cons (pv 0) (pa_cons (pv 1) (pa_cons (C8.pe_gc (v := .int 12) (by rfl) c_MOST_NUMBERS) pa_nil)))))))), ?_⟩
    refine s_look rfl th (fun p0 hx h3 H1 e1 => ?_) qP
    subst hx
    have hP := h3.pr
    obtain ⟨qs, qn⟩ := qq _ rfl hP
    clear h3
    generalize ((p0 : Nat) : Int) = p at *
    have ht1 := Me.ex e1 ht
    dsimp only
    cases oc with
    | none =>
      refine q_when (b := !false) ?_ (fun _ H2 e2 => ?_) (fun z => nomatch z)
      · refine et_not ?_
        refine et_b ?_
        refine er_isSn (pQ := pQ) ?_
        exact er_var rfl ht1
      exact qn rfl _ (e1.trans e2)
    | some s =>
      refine q_not (b := !true) ?_ rfl fun H2 e2 => ?_
      · exact et_not (et_b (er_isSs (pQ := pQ) (er_var rfl ht1)))
      have ht2 : t = .str (S s) := ht.1
      subst ht2
      refine s_ret0 (go_callA (go_cons ⟨_, rfl, go_cons ⟨_, rfl, go_cons ?_⟩⟩))
      refine go_I er_int fun H3 e3 => go_nil ?_
      exact ⟨p, s, 12, rfl, hP.le, hl s rfl, fun xs hxs v H4 e4 r => qs xs hxs v H4 (((e1.trans e2).trans e3).trans e4) r, fun hn H4 e4 => qn hn H4 (((e1.trans e2).trans e3).trans e4)⟩
def sp_read_two (K : PySem.W.Frag) (C_NoPrime C_NoText : Addr) : Sp := fun vs H Q E => ∃ (x t : V) (oc : Option (List Nat)) (pQ : Addr), vs = [x, t] ∧ Th K H x ∧ rTgL K pQ H oc t ∧ (∀ s, oc = some s → s.length ≤ 1000) ∧ (isPr x = false → ∀ H', Ex H H' → E (.ref C_NoPrime) none H') ∧
  (∀ p : Int, x = .int p → Pr p → (∀ xs, (oc.bind fun s => rdT p s 7) = some xs → ∀ v H', Ex H H' → rT K (rT K rI) H' xs v → Q v H') ∧ ((oc.bind fun s => rdT p s 7) = none → ∀ H', Ex H H' → E (.ref C_NoText) none H'))
theorem ok_read_two {f : Addr} {fd : FuncData} (F : Fun K "read_two" "read_two" s_read_two f fd) {C_NoPrime C_NoText : Addr} (D_look_prime : Df P w K mg base (L2N.CX P w) 3 "look_prime" ["p"] (sp_look_prime K C_NoPrime)) (D_two_in : Df P w K mg base (L2N.CX P w) 2 "two_in" ["p", "text", "most"] (sp_two_in K C_NoText))
    (c_MOST_POLYS : Cg mg "MOST_POLYS" (.int 7)) (n_isinstance : mg "isinstance" = none) (n_str : mg "str" = none) (x_NoText : Xc K mg "NoText" C_NoText) : FnOk P w K mg base (L2N.CX P w) 4 f fd ["p", "thing"] (sp_read_two K C_NoPrime C_NoText) := by
  refine okN F sc_read_two (fun vs H Q E h => ?_) (fun cdv A outer s H vs Q E hr h => ?_)
  · obtain ⟨x, t, oc, pQ, rfl, _⟩ := h; rfl
  · obtain ⟨x, t, oc, pQ, rfl, th, ht, hl, qP, qq⟩ := h
    refine ⟨_, (pss_cons (ps_expr (pe_call D_look_prime.ok (hr.mono (by omega)) (by rfl) D_look_prime.g D_look_prime.kp D_look_prime.b .nil (L2N.passes_call (L2N.takes_of rfl rfl rfl rfl) (fun _ _ _ _ h => h)) (pa_cons (pv 0) pa_nil)))
 (pss_cons (ps_if (pt_not (pt_val (pe_callB (call_isiK' K) (by rfl) n_isinstance (by decide +kernel) (pa_cons (pv 1) (pa_cons (pe_bltn (v := .ty "str") (by rfl) n_str (by decide +kernel) rfl) pa_nil))))) (pss_one (L2N.ps_raise rfl (L2N.takes_of rfl rfl rfl rfl) (L2N.pmk_own PySem.F.excBase_ValueError x_NoText.x x_NoText.g x_NoText.kp (raises_own x_NoText.sb x_NoText.ty) rfl))) pss_nil)
 (pss_one (ps_ret (pe_call D_two_in.ok (hr.mono (by omega)) (by rfl) D_two_in.g D_two_in.kp D_two_in.b .nil (L2N.passes_call (L2N.takes_of rfl rfl rfl rfl) (fun _ _ _ _ h => h)) (pa_cons (pv 0) (pa_cons (pv 1) (pa_cons (C8.pe_gc (v := .int 7) (by rfl) c_MOST_POLYS) pa_nil)))))))), ?_⟩
    refine s_look rfl th (fun p0 hx h3 H1 e1 => ?_) qP
    subst hx
    have hP := h3.pr
    obtain ⟨qs, qn⟩ := qq _ rfl hP
    clear h3
    generalize ((p0 : Nat) : Int) = p at *
    have ht1 := Me.ex e1 ht
    dsimp only
    cases oc with
    | none =>
      refine q_when (b := !false) ?_ (fun _ H2 e2 => ?_) (fun z => nomatch z)
      · refine et_not ?_
        refine et_b ?_
        refine er_isSn (pQ := pQ) ?_
        exact er_var rfl ht1
      exact qn rfl _ (e1.trans e2)
    | some s =>
      refine q_not (b := !true) ?_ rfl fun H2 e2 => ?_
      · exact et_not (et_b (er_isSs (pQ := pQ) (er_var rfl ht1)))
      have ht2 : t = .str (S s) := ht.1
      subst ht2
      refine s_ret0 (go_callA (go_cons ⟨_, rfl, go_cons ⟨_, rfl, go_cons ?_⟩⟩))
      refine go_I er_int fun H3 e3 => go_nil ?_
      exact ⟨p, s, 7, rfl, hP.le, hl s rfl, fun xs hxs v H4 e4 r => qs xs hxs v H4 (((e1.trans e2).trans e3).trans e4) r, fun hn H4 e4 => qn hn H4 (((e1.trans e2).trans e3).trans e4)⟩
end

section
variable {P : Program} {w : World} {K : PySem.W.Frag} {mg : Str → Option Value} {base : Heap}
theorem dueP_0 {p : Int} {t : List Nat} {most : Int} (h : decide (t = ([45] : List Nat)) = true) : dueP p t most = some [] := by unfold dueP; rw [if_pos (of_decide_eq_true h)]
theorem dueP_n1 {p : Int} {t : List Nat} {most : Int} (h : decide (t = ([45] : List Nat)) = false) (h1 : off1 t most = true) : dueP p t most = none := by unfold dueP; rw [if_neg (of_decide_eq_false h), if_pos h1]
theorem dueP_n2 {p : Int} {t : List Nat} {most : Int} (h : decide (t = ([45] : List Nat)) = false) (h1 : off1 t most = false) (h2 : off2 p t = true) : dueP p t most = none := by
  unfold dueP; rw [if_neg (of_decide_eq_false h), if_neg (by rw [h1]; simp), if_pos h2]
theorem dueP_s {p : Int} {t : List Nat} {most : Int} (h : decide (t = ([45] : List Nat)) = false) (h1 : off1 t most = false) (h2 : off2 p t = false) : dueP p t most = some ((sgs (evs t)).map dgI) := by
  unfold dueP; rw [if_neg (of_decide_eq_false h), if_neg (by rw [h1]; simp), if_neg (by rw [h2]; simp)]
theorem dueT_0 {p : Int} {t : List Nat} (h : decide (t = ([46] : List Nat)) = true) : dueT p t = some [] := by unfold dueT; rw [if_pos (of_decide_eq_true h)]
theorem dueT_n {p : Int} {t : List Nat} (h : decide (t = ([46] : List Nat)) = false) (h1 : offT p t = true) : dueT p t = none := by unfold dueT; rw [if_neg (of_decide_eq_false h), if_pos h1]
theorem dueT_s {p : Int} {t : List Nat} (h : decide (t = ([46] : List Nat)) = false) (h1 : offT p t = false) : dueT p t = some (((txs t).map fun x => dueP p x 4).map fun o => o.getD []) := by unfold dueT; rw [if_neg (of_decide_eq_false h), if_neg (by rw [h1]; simp)]
theorem off1_pos {t : List Nat} {most : Int} (h : off1 t most = false) : 0 < (evs t).length := by
  unfold off1 at h
  rw [Bool.or_eq_false_iff] at h
  have := of_decide_eq_false h.1
  rw [evs_len]
  omega
theorem evs_mem : ∀ {t : List Nat} {c : Nat}, c ∈ evs t → c ∈ t
  | [a], c, h => h
  | a :: b :: r, c, h => by
    rcases List.mem_cons.mp (show c ∈ a :: evs r from h) with rfl | h
    · exact List.mem_cons_self ..
    · exact List.mem_cons_of_mem _ (List.mem_cons_of_mem _ (evs_mem h))
theorem off2_fig {p : Int} {t : List Nat} (h : off2 p t = false) {c : Nat} (hc : c ∈ evs t) : c ∈ figs p := by
  unfold off2 at h
  rw [Bool.or_eq_false_iff] at h
  exact off_in.mp (of_decide_eq_true (by simpa using h.1)) c hc
def sp__law_poly_due (K : PySem.W.Frag) : Sp := fun vs H Q _ => ∃ (p : Int) (text : List Nat) (most : Int), vs = [.int p, .str (S text), .int most] ∧ (2 ≤ p ∧ p ≤ 5) ∧ text.length ≤ 1000 ∧ (∀ c ∈ text, c < 128) ∧ ∀ v H', Ex H H' → rO (rT K rI) H' (dueP p text most) v → Q v H'
theorem ok__law_poly_due {f : Addr} {fd : FuncData} (F : Fun K "_law_poly_due" "_law_poly_due" s__law_poly_due f fd) (n_tuple : mg "tuple" = none) (n_len : mg "len" = none) (n_int : mg "int" = none) : FnOk P w K mg base CX0 1 f fd ["_law_p", "_law_text", "_law_most"] (sp__law_poly_due K) := by
  refine F.ok sc__law_poly_due (fun vs H Q E h => ?_) (fun cdv A outer s H vs Q E hr h => ?_)
  · obtain ⟨p, text, most, rfl, _⟩ := h; rfl
  · obtain ⟨p, text, most, rfl, hp, hl, ha, q⟩ := h
    refine ⟨_, (pss_cons (ps_if (pt_cmpR op_eq (pv 1) pe_str (nomark _)) (pss_one (ps_ret (pe_tup pa_nil))) pss_nil)
 (pss_cons (ps_set (i := 3) sc__law_poly_due.nd rfl (Or.inl rfl) (pek_x2 (pv 1) po_none pe_int).pe)
 (pss_cons (ps_if (PW.pt (pw_or (pt_cmpR op_eq (pe_op op_mod (pe_callB call_len_str (by rfl) n_len (by decide +kernel) (pa_cons (pv 1) pa_nil)) pe_int) pe_int (nomark _)) (pw_or (pt_cmpR op_gt (pe_callB call_len_str (by rfl) n_len (by decide +kernel) (pa_cons (pv 3) pa_nil)) (pv 2) (nomark _)) (pw_or1 (pt_cmpR op_ne (pe_replK (pek_x2 (pv 1) (po_some pe_int) pe_int)) pe_str (nomark _)))))) (pss_one (ps_ret pe_non)) pss_nil)
 (pss_cons (ps_if (PW.pt (pw_or (pt_cmpR (op_neDK K hr.units) (pe_lc (own := [("_law_sign", 4)]) (by rfl) sc__law_poly_due.nd (pi_str (pv 3)) (blkOk_by (own := [("_law_sign", 4)]) (N := ["_law_p", "_law_text", "_law_most", "_law_signs", "_law_sign"]) (sc := defScope s__law_poly_due) (by decide +kernel)) (fun _ _ _ _ _ => (pg_name (i := 4) sc__law_poly_due.nd rfl (Or.inl rfl))) (fun _ _ _ _ _ => (pts_one (pt_cmpR op_notin_str (pv 4) (pe_slice sl_str pe_str po_none (po_some (pv 0))) (by rfl)))) (fun _ _ _ _ _ => (pv 4))) (pe_lst pa_nil) (nomark _)) (pw_or1 (pt_cmpR op_eq (pe_ix ix_str (pv 3) (pe_un un_neg pe_int) (fun _ _ => rfl)) pe_str (nomark _))))) (pss_one (ps_ret pe_non)) pss_nil)
 (pss_one (ps_ret (pe_callTy (call_tuple_ofK K) (by rfl) n_tuple (by decide +kernel) (pa_cons (pe_lc (own := [("_law_sign", 4)]) (by rfl) sc__law_poly_due.nd (pi_str (pv 3)) (blkOk_by (own := [("_law_sign", 4)]) (N := ["_law_p", "_law_text", "_law_most", "_law_signs", "_law_sign"]) (sc := defScope s__law_poly_due) (by decide +kernel)) (fun _ _ _ _ _ => (pg_name (i := 4) sc__law_poly_due.nd rfl (Or.inl rfl))) (fun _ _ _ _ _ => pts_nil) (fun _ _ _ _ _ => (pe_callTy call_int_str (by rfl) n_int (by decide +kernel) (pa_cons (pv 4) pa_nil)))) pa_nil)))))))), ?_⟩
    have hel := evs_len text
    refine q_when (et_t (er_xeq er_xv (er_xc [45]))) (fun h0 H1 e1 => ?_) (fun h0 H1 e1 => ?_)
    · exact s_ret (R := rO (rT K rI)) (er_oS (er_tup (R := rI) eas0 (by decide))) fun v H' e r => q v H' (e1.trans e) (by rw [dueP_0 h0]; exact r)
    refine q_asgX (er_x20 er_xv er_int (by omega)) fun H2 e2 => ?_
    refine q_when (et_or (et_t (er_eqI (er_op (er_xlen er_xv (by omega)) er_int (by omega)) er_int)) fun _ => et_or (et_t (er_cmp (er_xlen er_xv (by omega)) er_iv)) fun _ => et_t (er_xne (er_xblank (er_x21 er_xv er_int er_int (by omega)) (by unfold ods; rw [evs_len, List.length_tail]; omega)) (er_xc []))) (fun h1 H3 e3 => ?_) (fun h1 H3 e3 => ?_)
    · exact s_ret (R := rO (rT K rI)) (er_oN er_non) fun v H' e r => q v H' (((e1.trans e2).trans e3).trans e) (by rw [dueP_n1 h0 h1]; exact r)
    have hpos := off1_pos h1
    refine q_when (et_or (et_t (er_neNil (El.er (K := K) (el_lcSc (K := K) (R := rXa) (f := fun x => x) er_xv (by omega) (fun _ => rfl) (fun x H1 e hx => et_t (er_xnotin er_xv (er_xsl (er_xc [48, 49, 50, 51, 52]) eo0 (eo1 er_iv) (by decide)))) (fun x H1 e hx _ => (fun H4 e4 Q4 q4 => ⟨_, rfl, q4 _ H4 (Ex.refl H4) ⟨rfl, by
      obtain ⟨c, hc, rfl⟩ := List.mem_map.mp hx
      intro d hd
      rw [List.mem_singleton.mp hd]
      exact ha c (evs_mem hc)⟩⟩)))))) fun _ => et_t (er_xeq (er_xix0 er_xv (er_neg er_int) (by omega) (by omega) (by omega)) (er_xc [48]))) (fun h2 H4 e4 => ?_) (fun h2 H4 e4 => ?_)
    · exact s_ret (R := rO (rT K rI)) (er_oN er_non) fun v H' e r => q v H' ((((e1.trans e2).trans e3).trans e4).trans e) (by rw [dueP_n2 h0 h1 h2]; exact r)
    refine s_ret (R := rO (rT K rI)) (er_oS (er_tupL (El.er (el_lcS (K := K) er_xv (by omega) (fun _ => rfl) (fun x H1 e hx => (er_xint (n := dgI x) er_xv (by
      obtain ⟨c, hc, rfl⟩ := List.mem_map.mp hx
      exact one_int hp (off2_fig h2 hc)) (by
      obtain ⟨c, hc, rfl⟩ := List.mem_map.mp hx
      simp))))))) fun v H' e r => q v H' ((((e1.trans e2).trans e3).trans e4).trans e) ?_
    rw [dueP_s h0 h1 h2]
    exact r
theorem gv__law_poly_due {p : Int} {text : List Nat} {most : Int} (h0 : 2 ≤ p ∧ p ≤ 5) (h1 : text.length ≤ 1000) (h2 : ∀ c ∈ text, c < 128) : Gv (sp__law_poly_due K) (Ac rI p (Ac rX text (Ac rI most A0))) (rO (rT K rI)) (dueP p text most) := by
  intro vs H1 hp Q E k
  obtain ⟨v0, w0, rfl, f0, hp⟩ := hp
  cases f0
  obtain ⟨v1, w1, rfl, f1, hp⟩ := hp
  cases f1
  obtain ⟨v2, w2, rfl, f2, hp⟩ := hp
  cases f2
  cases hp
  exact ⟨_, _, _, rfl, h0, h1, h2, fun v H2 e r => k v H2 e r⟩
theorem spl_plain (S : List Nat) : ∀ (t : List Nat) (k : Nat) (acc : List Nat), (∀ c ∈ t, c < 128) → (∀ c ∈ acc, c < 128) → ∀ w ∈ TL.spl S k acc t, ∀ c ∈ w, c < 128
  | [], k, acc, _, ha => by
    rw [TL.spl_nil]
    intro w hw
    rw [List.mem_singleton.mp hw]
    exact ha
  | c :: r, 0, acc, ht, ha => by
    have htr : ∀ c ∈ r, c < 128 := fun x hx => ht x (List.mem_cons_of_mem _ hx)
    cases h : TL.pre S (c :: r) with
    | true =>
      rw [TL.spl_hit h]
      intro w hw
      rcases List.mem_cons.mp hw with rfl | hw
      · exact ha
      · exact spl_plain S r _ [] htr (fun _ z => by cases z) w hw
    | false =>
      rw [TL.spl_miss h]
      refine spl_plain S r 0 (acc ++ [c]) htr fun x hx => ?_
      rcases List.mem_append.mp hx with hx | hx
      · exact ha x hx
      · rw [List.mem_singleton.mp hx]; exact ht c (List.mem_cons_self ..)
  | c :: r, k + 1, acc, ht, ha => spl_plain S r k acc (fun x hx => ht x (List.mem_cons_of_mem _ hx)) ha
theorem rO_all {H : Hp} {vs : List V} : ∀ {l : List (Option (List Int))} {vs : List V}, none ∉ l → Paired (rO (rT K rI) H) l vs → Paired (rT K rI H) (l.map fun o => o.getD []) vs
  | [], _, _, .nil => .nil
  | none :: _, _, h, _ => absurd (List.mem_cons_self ..) h
  | some x :: r, _, h, .cons a b => .cons a (rO_all (vs := []) (fun z => h (List.mem_cons_of_mem _ z)) b)
theorem offT_none {p : Int} {t : List Nat} (h : offT p t = false) : none ∉ (txs t).map fun x => dueP p x 4 := by
  unfold offT at h
  rw [Bool.or_eq_false_iff, List.any_eq_false] at h
  intro z
  have := h.1 _ z
  simp at this
def sp__law_two_due (K : PySem.W.Frag) : Sp := fun vs H Q _ => ∃ (p : Int) (text : List Nat), vs = [.int p, .str (S text)] ∧ (2 ≤ p ∧ p ≤ 5) ∧ text.length ≤ 1000 ∧ (∀ c ∈ text, c < 128) ∧ ∀ v H', Ex H H' → rO (rT K (rT K rI)) H' (dueT p text) v → Q v H'
theorem ok__law_two_due {f : Addr} {fd : FuncData} (F : Fun K "_law_two_due" "_law_two_due" s__law_two_due f fd) (n_tuple : mg "tuple" = none) (D__law_poly_due : Df P w K mg base CX0 1 "_law_poly_due" ["_law_p", "_law_text", "_law_most"] (sp__law_poly_due K)) (n_len : mg "len" = none) : FnOk P w K mg base CX0 2 f fd ["_law_p", "_law_text"] (sp__law_two_due K) := by
  refine F.ok sc__law_two_due (fun vs H Q E h => ?_) (fun cdv A outer s H vs Q E hr h => ?_)
  · obtain ⟨p, text, rfl, _⟩ := h; rfl
  · obtain ⟨p, text, rfl, hp, hl, ha, q⟩ := h
    refine ⟨_, (pss_cons (ps_if (pt_cmpR op_eq (pv 1) pe_str (nomark _)) (pss_one (ps_ret (pe_tup pa_nil))) pss_nil)
 (pss_cons (ps_setLc (i := 2) (own := [("_law_part", 3)]) (by rfl) sc__law_two_due.nd rfl rfl (sw_true rfl rfl rfl (by decide +kernel)) (pi_listK K (pe_split (pv 1) pe_str)) (blkOk_by (own := [("_law_part", 3)]) (N := ["_law_p", "_law_text", "_law_polys", "_law_part"]) (sc := defScope s__law_two_due) (by decide +kernel)) (fun _ _ _ _ _ => (pg_name (i := 3) sc__law_two_due.nd rfl (Or.inl rfl))) (fun _ _ _ _ _ => pts_nil) (fun _ _ _ _ _ => (pe_call D__law_poly_due.ok (hr.mono (by omega)) (by rfl) D__law_poly_due.g D__law_poly_due.kp D__law_poly_due.b .nil pass0 (pa_cons (pv 0) (pa_cons (pv 3) (pa_cons pe_int pa_nil))))))
 (pss_cons (ps_if (PW.pt (pw_or (pt_cmpR (op_inDK K (by have := hr.un; show (A.deeper _).units + 65 < cLine; omega)) pe_non (pv 2) (by rfl)) (pw_or (pt_cmpR op_gt (pe_callB (call_len_seqK K) (by rfl) n_len (by decide +kernel) (pa_cons (pv 2) pa_nil)) pe_int (nomark _)) (pw_or1 (pt_cmpR (op_eqDK K hr.units) (pe_ix (ix_listK K) (pv 2) (pe_un un_neg pe_int) (fun _ _ => rfl)) (pe_tup pa_nil) (nomark _)))))) (pss_one (ps_ret pe_non)) pss_nil)
 (pss_one (ps_ret (pe_callTy (call_tuple_ofK K) (by rfl) n_tuple (by decide +kernel) (pa_cons (pv 2) pa_nil))))))), ?_⟩
    have hwl := txs_len text
    have hwp := txs_pos text
    refine q_when (et_t (er_xeq er_xv (er_xc [46]))) (fun h0 H1 e1 => ?_) (fun h0 H1 e1 => ?_)
    · exact s_ret (R := rO (rT K (rT K rI))) (er_oS (er_tup (R := rT K rI) eas0 (by decide))) fun v H' e r => q v H' (e1.trans e) (by rw [dueT_0 h0]; exact r)
    refine q_asgL (R := rO (rT K rI)) (el_lcLX (K := K) (f := fun x => dueP p x 4) (El.er (K := K) (el_xsplit er_xv (er_xc [32, 59, 32]) (by omega) (by decide) (by decide))) (Nat.lt_of_le_of_lt hwl (by omega)) (fun _ => rfl) fun x H1 e hx => er_call (eac er_iv (eac er_xv (eac er_int ea0))) (gv__law_poly_due hp (Nat.le_trans (txs_mem hx) hl) (spl_plain _ _ _ _ ha (fun _ z => by cases z) x hx))) fun p2 H2 n2 e2 l2 => ?_
    have hln : (((txs text).map fun x => dueP p x 4).length) = (txs text).length := List.length_map ..
    refine q_when (et_or (et_t (er_noneIn (R := rI) er_non (er_var rfl (Lt.rl l2)))) fun _ => et_or (et_t (er_cmp (er_lenL (er_var rfl (Lt.rl l2))) er_int)) fun _ => et_t (er_eqD (K := K) (er_ixL0 none (er_var rfl (Lt.rl l2)) (er_neg er_int) (by rw [List.length_map]; show -((txs text).length : Int) ≤ -1; omega) (by rw [List.length_map]; show (-1 : Int) < ((txs text).length : Int); omega)) (er_oS (er_tup (R := rI) eas0 (by decide))))) (fun h1 H3 e3 => ?_) (fun h1 H3 e3 => ?_)
    · exact s_ret (R := rO (rT K (rT K rI))) (er_oN er_non) fun v H' e r => q v H' (((e1.trans e2).trans e3).trans e) (by rw [dueT_n h0 (by unfold offT; rw [← h1]; congr 2; funext z; cases z <;> rfl)]; exact r)
    have h1' : offT p text = false := by unfold offT; rw [← h1]; congr 2; funext z; cases z <;> rfl
    refine s_ret (R := rO (rT K (rT K rI))) (er_oS (er_tupL (R := rT K rI) (er_var rfl ?_))) fun v H' e r => q v H' (((e1.trans e2).trans e3).trans e) (by rw [dueT_s h0 h1']; exact r)
    obtain ⟨vs, l2a, l2b⟩ := l2.ex e3
    exact ⟨p2, vs, rfl, SqL.of l2a, rO_all (vs := []) (offT_none h1') l2b⟩
end

section
open L2N (Zn)
open L2H HotX
variable {P : Program} {w : World} {K : PySem.W.Frag} {mg : Str → Option Value} {base : Heap}
/-! ### _law_told, _law_good -/
/-- what the law's look at a refusal needs: its class is CT (b) or C0 -/
structure Kw (K : PySem.W.Frag) (C CT C0 CD : Addr) (zs : List Addr) (b : Bool) : Prop where
  e : PySem.W.exmOne K (.ref C) (.ref CD) = some true
  ec : ExcC K C
  ha : PySem.W.kitAny K (.ref C) (zs.map Value.ref) = some false
  h1 : PySem.W.kitOne K (.ref C) (.ref CT) = some b
  h2 : PySem.W.kitOne K (.ref C) (.ref C0) = some (!b)
  hv : PySem.W.kitOne K (.ref C) (.type "ValueError") = some true
theorem kitAny_no {K : PySem.W.Frag} {t : Value} : ∀ {cs : List Value}, (∀ c ∈ cs, PySem.W.kitOne K t c = some false) → PySem.W.kitAny K t cs = some false
  | [], _ => rfl
  | c :: cs, h => by
    unfold PySem.W.kitAny
    rw [h c (List.mem_cons_self ..)]
    exact kitAny_no fun d hd => h d (List.mem_cons_of_mem _ hd)
def resT {α : Type} : Option α → Bool × Bool × Bool ⊕ α
  | none => .inl (true, false, false)
  | some x => .inr x
def sp__law_told (K : PySem.W.Frag) : Sp := fun vs H Q _ => ∃ (way : Int) (x t : V) (oc : Option (List Nat)) (pQ : Addr), vs = [.int way, x, t] ∧ (way = 0 ∨ way = 1) ∧ Th K H x ∧ rTgL K pQ H oc t ∧ (∀ s, oc = some s → s.length ≤ 1000) ∧
  (isPr x = false → ∀ l H', H l = none → Ex H H' → Lt (rTo K rI) H' l [.inl (false, true, false)] → Q (.ref l) H') ∧
  (∀ p : Int, x = .int p → Pr p → (way = 0 → ∀ l H', H l = none → Ex H H' → Lt (rTo K (rT K rI)) H' l [resT (oc.bind fun s => rdP p s 12)] → Q (.ref l) H') ∧ (way = 1 → ∀ l H', H l = none → Ex H H' → Lt (rTo K (rT K (rT K rI))) H' l [resT (oc.bind fun s => rdT p s 7)] → Q (.ref l) H'))
abbrev tIs (K : PySem.W.Frag) (D a c : Addr) : TE := tCB (rIsE K D a) (tCons (tVar 4) (tCons (tC (.ref c)) tNil))
abbrev tIsV (K : PySem.W.Frag) (D a : Addr) : TE := tCB (rIsE K D a) (tCons (tVar 4) (tCons (tC (.ty "ValueError")) tNil))
theorem er_isW {a C : Addr} {σ : L2.St} {H : Hp} {c : Addr} {b : Bool} (h0 : σ[4]? = some (some (.ref a))) (hk : PySem.W.kitOne K (.ref C) (.ref c) = some b) : Er rB (tIs K C a c) σ H b := fun H1 e Q q =>
  ⟨_, h0, .ref c, .ref c, b, rfl, fun u r => r, hk, q _ H1 (Ex.refl H1) rfl⟩
theorem er_isWv {a C : Addr} {σ : L2.St} {H : Hp} {b : Bool} (h0 : σ[4]? = some (some (.ref a))) (hk : PySem.W.kitOne K (.ref C) (.type "ValueError") = some b) : Er rB (tIsV K C a) σ H b := fun H1 e Q q =>
  ⟨_, h0, .ty "ValueError", .type "ValueError", b, rfl, fun u r => r, hk, q _ H1 (Ex.refl H1) rfl⟩
theorem go_C {v : V} {σ : L2.St} {H : Hp} {Q : VK} (h : Q v H) : tC v σ H Q := h
/-- what the suite tells -/
def tSuite (K : PySem.W.Frag) (C CT C0 a : Addr) (z1 z2 z3 z4 z5 z6 z7 z8 : Addr) : TS :=
  tSeq (tAsg (tCB (rIsEt K C a) (tCons (tVar 4) (tCons (tTup (tCons (tC (.ref z1)) (tCons (tC (.ref z2)) (tCons (tC (.ref z3)) (tCons (tC (.ref z4)) (tCons (tC (.ref z5)) (tCons (tC (.ref z6)) (tCons (tC (.ref z7)) (tCons (tC (.ref z8)) tNil))))))))) tNil))) (gName 3))
    (tRet (tLst (tCons (tTup (tCons (tC (.str "refused")) (tCons (tIs K C a CT) (tCons (tIs K C a C0) (tCons (tOrV (tVar 3) (tNotV (tIsV K C a))) tNil))))) tNil)))
theorem suite_tells {α : Type} {R : Rp α} [Me R] {C CT C0 CD a : Addr} {b : Bool} {z1 z2 z3 z4 z5 z6 z7 z8 : Addr} (X : Kw K C CT C0 CD [z1, z2, z3, z4, z5, z6, z7, z8] b) {D : Ends} {v0 v1 v2 j3 : Option V} {H : Hp}
    (k : ∀ l H', H l = none → Ex H H' → Lt (rTo K R) H' l [.inl (b, !b, false)] → D.rt (.ref l) H') : tSuite K C CT C0 a z1 z2 z3 z4 z5 z6 z7 z8 D [v0, v1, v2, j3, some (.ref a)] H := by
  refine q_asg0 ?_
  refine go_cbA (go_cons ⟨_, rfl, go_cons ?_⟩)
  refine ⟨(by show 8 ≤ sizeLine; decide), fun t nt => go_nil ?_⟩
  refine ⟨t, _, _, _, rfl, upd_same, .cons (.own _) (.cons (.own _) (.cons (.own _) (.cons (.own _) (.cons (.own _) (.cons (.own _) (.cons (.own _) (.cons (.own _) .nil))))))), X.ha, ?_⟩
  have e3 := Ex.new (o := .tup [.ref z1, .ref z2, .ref z3, .ref z4, .ref z5, .ref z6, .ref z7, .ref z8]) nt
  refine s_ret0 ?_
  refine go_L (R := rTo K R) (el_lst (R := rTo K R) (eas (er_rf (er_isW rfl X.h1) (er_isW rfl X.h2) (er_is (er_orV er_bv fun _ => er_notV (er_isWv rfl X.hv)) rfl)) eas0) (by simp)) fun l H4 n4 e4 l4 => ?_
  exact k l H4 (fresh_back e3 n4) (e3.trans e4) l4
theorem ok__law_told {f : Addr} {fd : FuncData} (F : Fun K "_law_told" "_law_told" s__law_told f fd) {C0 CT CD z1 z2 z3 z4 z5 z6 z7 z8 : Addr} (D_read_poly : Df P w K mg base (L2N.CX P w) 4 "read_poly" ["p", "thing"] (sp_read_poly K C0 CT)) (D_read_two : Df P w K mg base (L2N.CX P w) 4 "read_two" ["p", "thing"] (sp_read_two K C0 CT))
    (XT : Kw K CT CT C0 CD [z1, z2, z3, z4, z5, z6, z7, z8] true) (X0 : Kw K C0 CT C0 CD [z1, z2, z3, z4, z5, z6, z7, z8] false) (g_DigitError : mg "DigitError" = some (.ref CD)) (n_isinstance : mg "isinstance" = none) (n_ValueError : mg "ValueError" = none) (g_NoText : mg "NoText" = some (.ref CT)) (g_NoPrime : mg "NoPrime" = some (.ref C0))
    (g1 : mg "NoMatch" = some (.ref z1)) (g2 : mg "NoName" = some (.ref z2)) (g3 : mg "NoOver" = some (.ref z3)) (g4 : mg "NoRoot" = some (.ref z4)) (g5 : mg "NoRow" = some (.ref z5)) (g6 : mg "NoSaying" = some (.ref z6)) (g7 : mg "TooGreat" = some (.ref z7)) (g8 : mg "TooMany" = some (.ref z8)) :
    FnOk P w K mg base CX0 5 f fd ["_law_way", "_law_p", "_law_thing"] (sp__law_told K) := by
  refine F.ok sc__law_told (fun vs H Q E h => ?_) (fun cdv A outer s H vs Q E hr h => ?_)
  · obtain ⟨way, x, t, oc, pQ, rfl, _⟩ := h; rfl
  · obtain ⟨way, x, t, oc, pQ, rfl, hw, th, ht, hl, q0, q1⟩ := h
    refine ⟨_, pss_one (L2N.ps_try_as (i := 4) (tb := fun W => tSeq (tIfS (tTest (tOp rEq (tVar 0) (tC (.int 0)))) (tRet (tLst (tCons (tTup (tCons (tC (.str "told")) (tCons (tCallS (sp_read_poly K C0 CT) (WE W) (tCons (tVar 1) (tCons (tVar 2) tNil))) tNil))) tNil))) tNext) (tRet (tLst (tCons (tTup (tCons (tC (.str "told")) (tCons (tCallS (sp_read_two K C0 CT) (WE W) (tCons (tVar 1) (tCons (tVar 2) tNil))) tNil))) tNil))))
      (ts := fun a cls d D σ H => ∃ b : Bool, (cls = .ref (if b then CT else C0) ∧ d = none) ∧ tSuite K (if b then CT else C0) CT C0 a z1 z2 z3 z4 z5 z6 z7 z8 D σ H)
      (Wout := fun _ _ _ _ => False) rfl rfl sc__law_told.nd rfl rfl ⟨rfl, by decide, Or.inl g_DigitError⟩ takes0N
        (fun W pn xe tk _ => pss_cons (ps_if (pt_cmpR op_eq (pv 0) pe_int (nomark _)) (pss_one (ps_ret (pe_lst (pa_cons (pe_tup (pa_cons pe_str (pa_cons (by exact (pe_callS D_read_poly.ok (hr.mono (by omega)) (by rfl) D_read_poly.g D_read_poly.kp D_read_poly.b (fun σ => L2N.passAt tk σ) (by exact (pa_cons (pv 1) (pa_cons (pv 2) pa_nil))))) pa_nil))) pa_nil)))) pss_nil)
          (pss_one (ps_ret (pe_lst (pa_cons (pe_tup (pa_cons pe_str (pa_cons (by exact (pe_callS D_read_two.ok (hr.mono (by omega)) (by rfl) D_read_two.g D_read_two.kp D_read_two.b (fun σ => L2N.passAt tk σ) (by exact (pa_cons (pv 1) (pa_cons (pv 2) pa_nil))))) pa_nil))) pa_nil)))))
        (fun a oe cls d pn hz hf => pss_ex fun b hc => ?_)), ?_⟩
    · obtain ⟨rfl, rfl⟩ := hc
      have hq : (a, oe) ∈ (a, oe) :: pn := List.mem_cons_self
      have ec : ExcC K (if b then CT else C0) := by cases b; exact X0.ec; exact XT.ec
      exact pss_cons (ps_set (i := 3) sc__law_told.nd rfl (Or.inl rfl) (pe_callB (call_isQt (q := (a, oe)) ec hq hz hf) (by rfl) n_isinstance (by decide +kernel) (pa_cons (pv 4) (pa_cons (pe_tup (pa_cons (pe_glob (v := .ref z1) (by rfl) g1 rfl) (pa_cons (pe_glob (v := .ref z2) (by rfl) g2 rfl) (pa_cons (pe_glob (v := .ref z3) (by rfl) g3 rfl) (pa_cons (pe_glob (v := .ref z4) (by rfl) g4 rfl) (pa_cons (pe_glob (v := .ref z5) (by rfl) g5 rfl) (pa_cons (pe_glob (v := .ref z6) (by rfl) g6 rfl) (pa_cons (pe_glob (v := .ref z7) (by rfl) g7 rfl) (pa_cons (pe_glob (v := .ref z8) (by rfl) g8 rfl) pa_nil))))))))) pa_nil))))
        (pss_one (ps_ret (pe_lst (pa_cons (pe_tup (pa_cons pe_str (pa_cons (pe_callB (call_isQ (q := (a, oe)) ec hq hz hf) (by rfl) n_isinstance (by decide +kernel) (pa_cons (pv 4) (pa_cons (pe_glob (v := .ref CT) (by rfl) g_NoText rfl) pa_nil)))
          (pa_cons (pe_callB (call_isQ (q := (a, oe)) ec hq hz hf) (by rfl) n_isinstance (by decide +kernel) (pa_cons (pv 4) (pa_cons (pe_glob (v := .ref C0) (by rfl) g_NoPrime rfl) pa_nil)))
          (pa_cons (pe_or (pv 3) (pe_one (pe_not (pe_callB (call_isQ (q := (a, oe)) ec hq hz hf) (by rfl) n_isinstance (by decide +kernel) (pa_cons (pv 4) (pa_cons (pe_bltn (v := .ty "ValueError") (by rfl) n_ValueError (by decide +kernel) rfl) pa_nil)))))) pa_nil))))) pa_nil))))
    · rcases hw with rfl | rfl
      · refine q_when (b := decide ((0 : Int) = 0)) (et_t (er_eqI er_iv er_int)) (fun _ H1 e1 => ?_) (fun z => absurd z (by decide))
        refine s_ret0 (go_lstA (go_cons (go_tupA (go_cons (go_C ?_)))))
        refine go_cons ?_
        refine ⟨_, rfl, _, rfl, ?_⟩
        refine ⟨x, t, oc, pQ, rfl, th.mono e1, Me.ex e1 ht, hl, fun hx H2 e2 => ?_, fun p hx hP => ?_⟩
        · refine ⟨true, X0.e, fun _ a na => ⟨false, ⟨rfl, rfl⟩, ?_⟩, fun z => nomatch z⟩
          exact suite_tells (R := rI) X0 fun l H' n e l1 => q0 hx l H' (fresh_back (e1.trans e2) n) ((e1.trans e2).trans e) l1
        · obtain ⟨qs, _⟩ := q1 p hx hP
          refine ⟨fun xs hxs v H2 e2 r => ?_, fun hn H2 e2 => ?_⟩
          · refine go_nil ?_
            refine ⟨(by show 2 ≤ sizeLine; decide), fun t1 n1 => ?_⟩
            refine go_nil ?_
            refine ⟨(by show 1 ≤ sizeLine; decide), fun l n2 => ?_⟩
            have e3 := Ex.new (o := .tup [.str "told", v]) n1
            have e4 := Ex.new (o := .lst [.ref t1]) n2
            refine qs rfl l _ (fresh_back ((e1.trans e2).trans e3) n2) (((e1.trans e2).trans e3).trans e4) ⟨[.ref t1], upd_same, .cons ?_ .nil⟩
            rw [hxs]
            exact ⟨t1, rfl, v, ex_t e4 (SqT.of upd_same), Me.ex (e3.trans e4) r⟩
          · refine ⟨true, XT.e, fun _ a na => ⟨true, ⟨rfl, rfl⟩, ?_⟩, fun z => nomatch z⟩
            exact suite_tells (R := rT K rI) XT fun l H' n e l1 => qs rfl l H' (fresh_back (e1.trans e2) n) ((e1.trans e2).trans e) (by rw [hn]; exact l1)
      · refine q_not (b := decide ((1 : Int) = 0)) (et_t (er_eqI er_iv er_int)) (by decide) fun H1 e1 => ?_
        refine s_ret0 (go_lstA (go_cons (go_tupA (go_cons (go_C ?_)))))
        refine go_cons ?_
        refine ⟨_, rfl, _, rfl, ?_⟩
        refine ⟨x, t, oc, pQ, rfl, th.mono e1, Me.ex e1 ht, hl, fun hx H2 e2 => ?_, fun p hx hP => ?_⟩
        · refine ⟨true, X0.e, fun _ a na => ⟨false, ⟨rfl, rfl⟩, ?_⟩, fun z => nomatch z⟩
          exact suite_tells (R := rI) X0 fun l H' n e l1 => q0 hx l H' (fresh_back (e1.trans e2) n) ((e1.trans e2).trans e) l1
        · obtain ⟨_, qs⟩ := q1 p hx hP
          refine ⟨fun xs hxs v H2 e2 r => ?_, fun hn H2 e2 => ?_⟩
          · refine go_nil ?_
            refine ⟨(by show 2 ≤ sizeLine; decide), fun t1 n1 => ?_⟩
            refine go_nil ?_
            refine ⟨(by show 1 ≤ sizeLine; decide), fun l n2 => ?_⟩
            have e3 := Ex.new (o := .tup [.str "told", v]) n1
            have e4 := Ex.new (o := .lst [.ref t1]) n2
            refine qs rfl l _ (fresh_back ((e1.trans e2).trans e3) n2) (((e1.trans e2).trans e3).trans e4) ⟨[.ref t1], upd_same, .cons ?_ .nil⟩
            rw [hxs]
            exact ⟨t1, rfl, v, ex_t e4 (SqT.of upd_same), Me.ex (e3.trans e4) r⟩
          · refine ⟨true, XT.e, fun _ a na => ⟨true, ⟨rfl, rfl⟩, ?_⟩, fun z => nomatch z⟩
            exact suite_tells (R := rT K (rT K rI)) XT fun l H' n e l1 => qs rfl l H' (fresh_back (e1.trans e2) n) ((e1.trans e2).trans e) (by rw [hn]; exact l1)
end
section
variable {P : Program} {w : World} {K : PySem.W.Frag} {mg : Str → Option Value} {base : Heap}
theorem gv_told0 {p : Int} {oc : Option (List Nat)} {pQ : Addr} (hP : Pr p) (hl : ∀ s, oc = some s → s.length ≤ 1000) : Gv (sp__law_told K) (Ac rI 0 (Ac rI p (Ac (rTgL K pQ) oc A0))) (rL K (rTo K (rT K rI))) [resT (oc.bind fun s => rdP p s 12)] := by
  intro vs H1 hp Q E k
  obtain ⟨v0, w0, rfl, f0, hp⟩ := hp
  cases f0
  obtain ⟨v1, w1, rfl, f1, hp⟩ := hp
  cases f1
  obtain ⟨v2, w2, rfl, f2, hp⟩ := hp
  cases hp
  refine ⟨0, .int p, v2, oc, pQ, rfl, .inl rfl, .int _, f2, hl, fun z => ?_, fun p' e hp' => ?_⟩
  · rw [hP.is] at z; cases z
  · cases e
    exact ⟨fun _ l H' n e l1 => k _ H' e l1.rl, fun z => absurd z (by decide)⟩
theorem gv_told1 {p : Int} {oc : Option (List Nat)} {pQ : Addr} (hP : Pr p) (hl : ∀ s, oc = some s → s.length ≤ 1000) : Gv (sp__law_told K) (Ac rI 1 (Ac rI p (Ac (rTgL K pQ) oc A0))) (rL K (rTo K (rT K (rT K rI)))) [resT (oc.bind fun s => rdT p s 7)] := by
  intro vs H1 hp Q E k
  obtain ⟨v0, w0, rfl, f0, hp⟩ := hp
  cases f0
  obtain ⟨v1, w1, rfl, f1, hp⟩ := hp
  cases f1
  obtain ⟨v2, w2, rfl, f2, hp⟩ := hp
  cases hp
  refine ⟨1, .int p, v2, oc, pQ, rfl, .inr rfl, .int _, f2, hl, fun z => ?_, fun p' e hp' => ?_⟩
  · rw [hP.is] at z; cases z
  · cases e
    exact ⟨fun z => absurd z (by decide), fun _ l H' n e l1 => k _ H' e l1.rl⟩
/-- what is no prime -/
theorem gv_told_bad {way : Int} {u : Unit} {s : List Nat} (hw : way = 0 ∨ way = 1) (hl : s.length ≤ 1000) : Gv (sp__law_told K) (Ac rI way (Ac (rBad K) u (Ac rX s A0))) (rL K (rTo K rI)) [.inl (false, true, false)] := by
  intro vs H1 hp Q E k
  obtain ⟨v0, w0, rfl, f0, hp⟩ := hp
  cases f0
  obtain ⟨v1, w1, rfl, f1, hp⟩ := hp
  obtain ⟨v2, w2, rfl, f2, hp⟩ := hp
  cases f2
  cases hp
  refine ⟨way, v1, .str (S s), some s, 0, rfl, hw, f1.1, ⟨rfl, fun z => nomatch z⟩, fun s' e => by cases e; exact hl, fun _ l H' n e l1 => k _ H' e l1.rl, fun p hx hP => ?_⟩
  subst hx
  have := f1.2
  rw [hP.is] at this
  cases this
def rDu (K : PySem.W.Frag) : Rp (Option (List Int) ⊕ Option (List (List Int))) := fun H x v => match x with
  | .inl o => rO (rT K rI) H o v
  | .inr o => rO (rT K (rT K rI)) H o v
instance : Me (rDu K) := ⟨fun {H H' x v} e h => by cases x with | inl o => exact Me.ex (R := rO (rT K rI)) e h | inr o => exact Me.ex (R := rO (rT K (rT K rI))) e h⟩
theorem er_du0 {t : TE} {σ : L2.St} {H : Hp} {o : Option (List Int)} (h : Er (rO (rT K rI)) t σ H o) : Er (rDu K) t σ H (.inl o) := h
theorem er_du1 {t : TE} {σ : L2.St} {H : Hp} {o : Option (List (List Int))} (h : Er (rO (rT K (rT K rI))) t σ H o) : Er (rDu K) t σ H (.inr o) := h
theorem gv__law_two_due {p : Int} {text : List Nat} (h0 : 2 ≤ p ∧ p ≤ 5) (h1 : text.length ≤ 1000) (h2 : ∀ c ∈ text, c < 128) : Gv (sp__law_two_due K) (Ac rI p (Ac rX text A0)) (rO (rT K (rT K rI))) (dueT p text) := by
  intro vs H1 hp Q E k
  obtain ⟨v0, w0, rfl, f0, hp⟩ := hp
  cases f0
  obtain ⟨v1, w1, rfl, f1, hp⟩ := hp
  cases f1
  cases hp
  exact ⟨_, _, rfl, h0, h1, h2, fun v H2 e r => k v H2 e r⟩
theorem no_non {α : Type} {R : Rp α} {x : List α} : ∀ v H, rT K R H x v → v ≠ .non := by intro v H r; obtain ⟨_, _, rfl, _⟩ := r; exact fun z => nomatch z
def sp__law_good (K : PySem.W.Frag) : Sp := fun vs H Q _ => ∃ (way p : Int) (t : V) (oc : Option (List Nat)) (pQ : Addr), vs = [.int way, .int p, t] ∧ (way = 0 ∨ way = 1) ∧ Pr p ∧ rTgL K pQ H oc t ∧ (∀ s, oc = some s → s.length ≤ 1000 ∧ ∀ c ∈ s, c < 128) ∧ ∀ H', Ex H H' → Q (.bl true) H'
theorem ok__law_good {f : Addr} {fd : FuncData} (F : Fun K "_law_good" "_law_good" s__law_good f fd) (n_isinstance : mg "isinstance" = none) (n_str : mg "str" = none) (D__law_told : Df P w K mg base CX0 5 "_law_told" ["_law_way", "_law_p", "_law_thing"] (sp__law_told K))
    (D__law_poly_due : Df P w K mg base CX0 1 "_law_poly_due" ["_law_p", "_law_text", "_law_most"] (sp__law_poly_due K)) (D__law_two_due : Df P w K mg base CX0 2 "_law_two_due" ["_law_p", "_law_text"] (sp__law_two_due K)) : FnOk P w K mg base CX0 6 f fd ["_law_way", "_law_p", "_law_thing"] (sp__law_good K) := by
  refine F.ok sc__law_good (fun vs H Q E h => ?_) (fun cdv A outer s H vs Q E hr h => ?_)
  · obtain ⟨way, p, t, oc, pQ, rfl, _⟩ := h; rfl
  · obtain ⟨way, p, t, oc, pQ, rfl, hw, hP, ht, hs, q⟩ := h
    refine ⟨_, (pss_cons (ps_set (i := 3) sc__law_good.nd rfl (Or.inl rfl) pe_non)
 (Evl.pss_cut (ps_if (pt_val (pe_callB (call_isiK' K) (by rfl) n_isinstance (by decide +kernel) (pa_cons (pv 2) (pa_cons (pe_bltn (v := .ty "str") (by rfl) n_str (by decide +kernel) rfl) pa_nil)))) (pss_one (ps_set (i := 3) sc__law_good.nd rfl (Or.inl rfl) (pe_ix (ix_listK K) (pe_lst (pa_cons (pe_call D__law_poly_due.ok (hr.mono (by omega)) (by rfl) D__law_poly_due.g D__law_poly_due.kp D__law_poly_due.b .nil pass0 (pa_cons (pv 1) (pa_cons (pv 2) (pa_cons pe_int pa_nil)))) (pa_cons (pe_call D__law_two_due.ok (hr.mono (by omega)) (by rfl) D__law_two_due.g D__law_two_due.kp D__law_two_due.b .nil pass0 (pa_cons (pv 1) (pa_cons (pv 2) pa_nil))) pa_nil))) (pv 0) (fun _ _ => rfl)))) pss_nil)
 (pss_cons (ps_if (pt_cmpR op_isN (pv 3) pe_non (nomark _)) (pss_one (ps_ret (pe_cmpR (op_eqDK K hr.units) (pe_call D__law_told.ok (hr.mono (by omega)) (by rfl) D__law_told.g D__law_told.kp D__law_told.b .nil pass0 (pa_cons (pv 0) (pa_cons (pv 1) (pa_cons (pv 2) pa_nil)))) (pe_lst (pa_cons (pe_tup (pa_cons pe_str (pa_cons pe_bl (pa_cons pe_bl (pa_cons pe_bl pa_nil))))) pa_nil)) (nomark _)))) pss_nil)
 (pss_one (ps_ret (pe_cmpR (op_eqDK K hr.units) (pe_call D__law_told.ok (hr.mono (by omega)) (by rfl) D__law_told.g D__law_told.kp D__law_told.b .nil pass0 (pa_cons (pv 0) (pa_cons (pv 1) (pa_cons (pv 2) pa_nil)))) (pe_lst (pa_cons (pe_tup (pa_cons pe_str (pa_cons (pv 3) pa_nil))) pa_nil)) (nomark _))))))), ?_⟩
    have hp := hP.le
    have hl : ∀ s, oc = some s → s.length ≤ 1000 := fun s e => (hs s e).1
    -- the end, by what is due
    have refd0 : ∀ {H1 : Hp} {σ : L2.St} {D : Ends}, way = 0 → Ex H H1 → σ[0]? = some (some (.int way)) → σ[1]? = some (some (.int p)) → σ[2]? = some (some t) → (∀ H', Ex H1 H' → D.rt (.bl true) H') → (oc.bind fun s => rdP p s 12) = none →
        tRet (tOp (rEqD K) (tCall (sp__law_told K) [] E0 (tCons (tVar 0) (tCons (tVar 1) (tCons (tVar 2) tNil)))) (tLst (tCons (tTup (tCons (tC (.str "refused")) (tCons (tC (.bl true)) (tCons (tC (.bl false)) (tCons (tC (.bl false)) tNil))))) tNil))) D σ H1 := by
      intro H1 σ D hw e h0 h1 h2 k hn
      subst hw
      refine s_ret (R := rB) (er_eqD (K := K) (er_call (eac (er_iv h0) (eac (er_iv h1) (eac (er_var h2 (Me.ex e ht)) ea0))) (gv_told0 hP hl)) (El.er (K := K) (el_lst (R := rTo K (rT K rI)) (eas (er_rf er_bl er_bl er_bl) eas0) (by simp)))) fun v H' e' r => ?_
      cases r
      rw [hn]
      exact k H' e'
    have refd1 : ∀ {H1 : Hp} {σ : L2.St} {D : Ends}, way = 1 → Ex H H1 → σ[0]? = some (some (.int way)) → σ[1]? = some (some (.int p)) → σ[2]? = some (some t) → (∀ H', Ex H1 H' → D.rt (.bl true) H') → (oc.bind fun s => rdT p s 7) = none →
        tRet (tOp (rEqD K) (tCall (sp__law_told K) [] E0 (tCons (tVar 0) (tCons (tVar 1) (tCons (tVar 2) tNil)))) (tLst (tCons (tTup (tCons (tC (.str "refused")) (tCons (tC (.bl true)) (tCons (tC (.bl false)) (tCons (tC (.bl false)) tNil))))) tNil))) D σ H1 := by
      intro H1 σ D hw e h0 h1 h2 k hn
      subst hw
      refine s_ret (R := rB) (er_eqD (K := K) (er_call (eac (er_iv h0) (eac (er_iv h1) (eac (er_var h2 (Me.ex e ht)) ea0))) (gv_told1 hP hl)) (El.er (K := K) (el_lst (R := rTo K (rT K (rT K rI))) (eas (er_rf er_bl er_bl er_bl) eas0) (by simp)))) fun v H' e' r => ?_
      cases r
      rw [hn]
      exact k H' e'
    refine q_asg (R := rN) er_non fun v0 H0 e0 r0 => ?_
    cases r0
    cases oc with
    | none =>
      refine ⟨fun σ' H' => σ' = [some (.int way), some (.int p), some t, some .non] ∧ Ex H H', ?_, ?_⟩
      · exact s_not (et_b (er_isSn (pQ := pQ) (er_var rfl (Me.ex e0 ht)))) rfl fun H1 e1 => ⟨rfl, e0.trans e1⟩
      · rintro _ H1 ⟨rfl, e1⟩
        refine q_when (et_t (er_isNn (er_nv rfl))) (fun _ H2 e2 => ?_) (fun z => nomatch z)
        rcases hw with hw | hw
        · exact refd0 hw (e1.trans e2) rfl rfl rfl (fun H' e => q H' ((e1.trans e2).trans e)) rfl
        · exact refd1 hw (e1.trans e2) rfl rfl rfl (fun H' e => q H' ((e1.trans e2).trans e)) rfl
    | some s =>
      obtain ⟨hs1, hs2⟩ := hs s rfl
      have ht2 : t = .str (S s) := ht.1
      subst ht2
      have ht0 := ht
      refine ⟨fun σ' H' => ∃ v, σ' = [some (.int way), some (.int p), some (.str (S s)), some v] ∧ Ex H H' ∧ rDu K H' (gt0 (.inl none) [.inl (dueP p s 12), .inr (dueT p s)] way) v, ?_, ?_⟩
      · refine s_if (et_b (er_isSs (pQ := pQ) (er_var rfl (Me.ex e0 ht)))) (fun _ H1 e1 => ?_) (fun z => nomatch z)
        exact s_asg (R := rDu K) (er_ixL0 (.inl none) (El.er (K := K) (el_lst (R := rDu K) (eas (er_du0 (er_call (eac er_iv (eac er_xv (eac er_int ea0))) (gv__law_poly_due hp hs1 hs2))) (eas (er_du1 (er_call (eac er_iv (eac er_xv ea0)) (gv__law_two_due hp hs1 hs2))) eas0)) (by simp))) er_iv (by simp only [List.length_cons, List.length_nil]; omega) (by simp only [List.length_cons, List.length_nil]; omega)) fun v H2 e2 r => ⟨v, rfl, (e0.trans e1).trans e2, r⟩
      · rintro _ H1 ⟨v, rfl, e1, r⟩
        rcases hw with rfl | rfl
        · have r' : rO (rT K rI) H1 (dueP p s 12) v := r
          have hd : ((some s).bind fun s => rdP p s 12) = dueP p s 12 := (due_rd hp s 12).symm
          cases hdue : dueP p s 12 with
          | none =>
            rw [hdue] at r' hd
            have hv : v = .non := r'
            subst hv
            refine q_when (et_t (er_isNn (er_nv rfl))) (fun _ H2 e2 => ?_) (fun z => nomatch z)
            exact refd0 rfl (e1.trans e2) rfl rfl rfl (fun H' e => q H' ((e1.trans e2).trans e)) hd
          | some xs =>
            rw [hdue] at r' hd
            have rv : rT K rI H1 xs v := r'
            refine q_not (et_t (er_isNr (R := rT K rI) (er_var rfl rv) no_non)) rfl fun H2 e2 => ?_
            refine s_ret (R := rB) (er_eqD (K := K) (er_call (eac er_iv (eac er_iv (eac (er_var rfl (Me.ex (e1.trans e2) ht)) ea0))) (gv_told0 hP hl)) (El.er (K := K) (el_lst (R := rTo K (rT K rI)) (eas (er_to (R := rT K rI) (er_var rfl (Me.ex e2 rv))) eas0) (by simp)))) fun v H' e' r => ?_
            cases r
            rw [hd, show decide ([resT (some xs)] = [Sum.inr xs]) = true from decide_eq_true rfl]
            exact q H' ((e1.trans e2).trans e')
        · have r' : rO (rT K (rT K rI)) H1 (dueT p s) v := r
          have hd : ((some s).bind fun s => rdT p s 7) = dueT p s := (due_rdT hp s).symm
          cases hdue : dueT p s with
          | none =>
            rw [hdue] at r' hd
            have hv : v = .non := r'
            subst hv
            refine q_when (et_t (er_isNn (er_nv rfl))) (fun _ H2 e2 => ?_) (fun z => nomatch z)
            exact refd1 rfl (e1.trans e2) rfl rfl rfl (fun H' e => q H' ((e1.trans e2).trans e)) hd
          | some xs =>
            rw [hdue] at r' hd
            have rv : rT K (rT K rI) H1 xs v := r'
            refine q_not (et_t (er_isNr (R := rT K (rT K rI)) (er_var rfl rv) no_non)) rfl fun H2 e2 => ?_
            refine s_ret (R := rB) (er_eqD (K := K) (er_call (eac er_iv (eac er_iv (eac (er_var rfl (Me.ex (e1.trans e2) ht)) ea0))) (gv_told1 hP hl)) (El.er (K := K) (el_lst (R := rTo K (rT K (rT K rI))) (eas (er_to (R := rT K (rT K rI)) (er_var rfl (Me.ex e2 rv))) eas0) (by simp)))) fun v H' e' r => ?_
            cases r
            rw [hd, show decide ([resT (some xs)] = [Sum.inr xs]) = true from decide_eq_true rfl]
            exact q H' ((e1.trans e2).trans e')
theorem gv__law_good {way p : Int} {oc : Option (List Nat)} {pQ : Addr} (hw : way = 0 ∨ way = 1) (hP : Pr p) (hs : ∀ s, oc = some s → s.length ≤ 1000 ∧ ∀ c ∈ s, c < 128) : Gv (sp__law_good K) (Ac rI way (Ac rI p (Ac (rTgL K pQ) oc A0))) rB true := by
  intro vs H1 hp Q E k
  obtain ⟨v0, w0, rfl, f0, hp⟩ := hp
  cases f0
  obtain ⟨v1, w1, rfl, f1, hp⟩ := hp
  cases f1
  obtain ⟨v2, w2, rfl, f2, hp⟩ := hp
  cases hp
  exact ⟨_, _, _, _, _, rfl, hw, hP, f2, hs, fun H2 e => k _ H2 e rfl⟩
end

section
theorem go_lcTK {K : PySem.W.Frag} {tl te : TE} {g : TG} {tt : TT} {vs : List Nat} {σ : L2.St} {H : Hp} {Q : VK} (h : tl σ H fun x H1 => tLc (iTup K (tK x)) g tt te vs σ H1 Q) : tLc (iTup K tl) g tt te vs σ H Q := h
theorem go_m1K {r : V → List V → Hp → VK → Prop} {ta tb : TE} {σ : L2.St} {H : Hp} {Q : VK} (h : ta σ H fun x H1 => (∃ a, x = .str a) ∧ tb σ H1 fun y H2 => r x [y] H2 Q) : tM1 r ta tb σ H Q := h
theorem go_m1E {r : V → List V → Hp → VK → Prop} {x y : V} {H : Hp} {Q : VK} (h : tM1 r (tK x) (tK y) [] H Q) : r x [y] H Q := h.2
theorem num_small {ys : List Int} {x q : Int} (h : ∀ y ∈ ys, 0 ≤ y ∧ y < q) (hx : x ∈ ys) (hq : q < 1000000) : 0 ≤ x ∧ x < 1000000 := by have := h x hx; omega
theorem sum_bound {k : Nat} : ∀ {ws : List (List Nat)}, (∀ w ∈ ws, w.length ≤ k) → (ws.map List.length).sum ≤ ws.length * k
  | [], _ => by simp
  | w :: ws, h => by
    have h1 := h w (List.mem_cons_self ..)
    have h2 := sum_bound (ws := ws) fun x hx => h x (List.mem_cons_of_mem _ hx)
    simp only [List.map_cons, List.sum_cons, List.length_cons, Nat.add_mul, Nat.one_mul]
    omega
theorem joinL_bound {k : Nat} {s : List Nat} (hs : ∀ c ∈ s, c < 128) : ∀ {ws : List (List Nat)}, (∀ w ∈ ws, w.length ≤ k ∧ ∀ c ∈ w, c < 128) → (TL.joinL s ws).length ≤ ws.length * (k + s.length) ∧ ∀ c ∈ TL.joinL s ws, c < 128
  | [], _ => ⟨by simp [TL.joinL], fun c h => by cases h⟩
  | [w], h => by
    obtain ⟨h1, h2⟩ := h w (List.mem_cons_self ..)
    exact ⟨by show w.length ≤ 1 * (k + s.length); omega, h2⟩
  | w :: v :: ws, h => by
    obtain ⟨h1, h2⟩ := h w (List.mem_cons_self ..)
    obtain ⟨h3, h4⟩ := joinL_bound hs (ws := v :: ws) fun x hx => h x (List.mem_cons_of_mem _ hx)
    have e : TL.joinL s (w :: v :: ws) = w ++ (s ++ TL.joinL s (v :: ws)) := rfl
    rw [e]
    refine ⟨?_, fun c hc => ?_⟩
    · rw [List.length_append, List.length_append, List.length_cons, Nat.add_mul, Nat.one_mul]
      omega
    · rcases List.mem_append.mp hc with hc | hc
      · exact h2 c hc
      · rcases List.mem_append.mp hc with hc | hc
        · exact hs c hc
        · exact h4 c hc
/-- the parts of a polynomial's text -/
theorem parts_ok {ys : List Int} {q m : Int} (h : ∀ y ∈ ys, 0 ≤ y ∧ y < q) (hq : q ≤ 6) (hl : ys.length = m.toNat) (hm : 0 ≤ m ∧ m < 15) (b : Bool) :
    (∀ w ∈ (ys.map fun x : Int => TL.numL x.toNat) ++ repL [[45]] (if b then 1 else 0), w.length ≤ 1 ∧ ∀ c ∈ w, c < 128) ∧ ((ys.map fun x : Int => TL.numL x.toNat) ++ repL [[45]] (if b then 1 else 0)).length ≤ 16 := by
  constructor
  · intro w hw
    rcases List.mem_append.mp hw with hw | hw
    · obtain ⟨x, hx, rfl⟩ := List.mem_map.mp hw
      have := h x hx
      rw [TL.numL_lt (by omega)]
      refine ⟨by simp, fun c hc => ?_⟩
      rw [List.mem_singleton.mp hc]
      omega
    · rw [repL_one] at hw
      rw [List.eq_of_mem_replicate hw]
      exact ⟨by simp, fun c hc => by rw [List.mem_singleton.mp hc]; decide⟩
  · rw [List.length_append, List.length_map, repL_one, List.length_replicate, hl]
    cases b <;> simp <;> omega
end
section
theorem polyT_sum {ys : List Int} {q m : Int} {b : Bool} (h : ∀ y ∈ ys, 0 ≤ y ∧ y < q) (hq : q ≤ 6) (hl : ys.length = m.toNat) (hm : 0 ≤ m ∧ m < 15) :
    (((ys.map fun x : Int => TL.numL x.toNat) ++ repL [[45]] (if b = true then 1 else 0)).map List.length).sum + ((ys.map fun x : Int => TL.numL x.toNat) ++ repL [[45]] (if b = true then 1 else 0)).length * [32].length ≤ 1000000 := by
  obtain ⟨h1, h2⟩ := parts_ok h hq hl hm b
  have := sum_bound (k := 1) fun w hw => (h1 w hw).1
  simp only [List.length_cons, List.length_nil] at *
  omega
theorem polyT_post {ys : List Int} {q m : Int} {b : Bool} (h : ∀ y ∈ ys, 0 ≤ y ∧ y < q) (hq : q ≤ 6) (hl : ys.length = m.toNat) (hm : 0 ≤ m ∧ m < 15) :
    (TL.joinL [32] ((ys.map fun x : Int => TL.numL x.toNat) ++ repL [[45]] (if b = true then 1 else 0))).length ≤ 40 ∧ ∀ c ∈ TL.joinL [32] ((ys.map fun x : Int => TL.numL x.toNat) ++ repL [[45]] (if b = true then 1 else 0)), c < 128 := by
  obtain ⟨h1, h2⟩ := parts_ok h hq hl hm b
  obtain ⟨h3, h4⟩ := joinL_bound (k := 1) (s := [32]) (by intro c hc; rw [List.mem_singleton.mp hc]; decide) h1
  exact ⟨by simp only [List.length_cons, List.length_nil] at *; omega, h4⟩
theorem twoT_sum {ys : List (List Nat)} {m : Int} (h : ∀ y ∈ ys, y.length ≤ 40 ∧ ∀ c ∈ y, c < 128) (hl : ys.length = m.toNat) (hm : 0 ≤ m ∧ m ≤ 8) : (ys.map List.length).sum + ys.length * [32, 59, 32].length ≤ 1000000 := by
  have := sum_bound (k := 40) fun w hw => (h w hw).1
  simp only [List.length_cons, List.length_nil] at *
  omega
theorem twoT_post {ys : List (List Nat)} {m : Int} (h : ∀ y ∈ ys, y.length ≤ 40 ∧ ∀ c ∈ y, c < 128) (hl : ys.length = m.toNat) (hm : 0 ≤ m ∧ m ≤ 8) : (TL.joinL [32, 59, 32] ys).length ≤ 400 ∧ ∀ c ∈ TL.joinL [32, 59, 32] ys, c < 128 := by
  obtain ⟨h3, h4⟩ := joinL_bound (k := 40) (s := [32, 59, 32]) (by intro c hc; simp at hc; omega) h
  exact ⟨by simp only [List.length_cons, List.length_nil] at *; omega, h4⟩
def sgnL : List Nat := [32, 48, 49, 50, 51, 52, 57, 45, 46, 59, 97, 98, 43]
theorem cut_mem {t : List Nat} {a b : Option Int} {c : Nat} (h : c ∈ cutL t a b) : c ∈ t := by
  unfold cutL at h
  exact List.mem_of_mem_drop (List.mem_of_mem_take h)
theorem sp_a {t s : List Nat} {a b : Option Int} (ht : t.length ≤ 400) (hs : s.length ≤ 1) : (cutL t a b).length + s.length ≤ 1000000 := by have := cutL_len t a b; omega
theorem sp_b {t s : List Nat} {a b c d : Option Int} (ht : t.length ≤ 400) (hs : s.length ≤ 1) : (cutL t a b ++ s).length + (cutL t c d).length ≤ 1000000 := by have := cutL_len t a b; have := cutL_len t c d; rw [List.length_append]; omega
theorem sp_c {t : List Nat} {a b c d : Option Int} (ht : t.length ≤ 400) : (cutL t a b).length + (cutL t c d).length ≤ 1000000 := by have := cutL_len t a b; have := cutL_len t c d; omega
theorem sp_d {t : List Nat} {c d : Option Int} (ht : t.length ≤ 400) : t.length + (cutL t c d).length ≤ 1000000 := by have := cutL_len t c d; omega
theorem gtX_plain {a : List Nat} {i : Int} (h0 : 0 ≤ i) (ha : ∀ c ∈ a, c < 128) : gtX a i < 128 := by
  unfold gtX
  cases e : a[ixs a.length i]? with
  | none => decide
  | some c => exact ha c (List.mem_of_getElem? e)
theorem sp_post1 {t s : List Nat} {a b c d : Option Int} (ht : t.length ≤ 400) (hp : ∀ c ∈ t, c < 128) (hs : s.length ≤ 1) (hq : ∀ c ∈ s, c < 128) : (cutL t a b ++ s ++ cutL t c d).length ≤ 1000 ∧ ∀ x ∈ cutL t a b ++ s ++ cutL t c d, x < 128 := by
  have := cutL_len t a b; have := cutL_len t c d
  refine ⟨by rw [List.length_append, List.length_append]; omega, fun x hx => ?_⟩
  rcases List.mem_append.mp hx with hx | hx
  · rcases List.mem_append.mp hx with hx | hx
    · exact hp x (cut_mem hx)
    · exact hq x hx
  · exact hp x (cut_mem hx)
theorem sp_post2 {t : List Nat} {a b c d : Option Int} (ht : t.length ≤ 400) (hp : ∀ c ∈ t, c < 128) : (cutL t a b ++ cutL t c d).length ≤ 1000 ∧ ∀ x ∈ cutL t a b ++ cutL t c d, x < 128 := by
  have := sp_post1 (s := []) (a := a) (b := b) (c := c) (d := d) ht hp (by simp) (fun _ z => by cases z)
  simpa using this
theorem sp_post3 {t : List Nat} {c d : Option Int} (ht : t.length ≤ 400) (hp : ∀ c ∈ t, c < 128) : (t ++ cutL t c d).length ≤ 1000 ∧ ∀ x ∈ t ++ cutL t c d, x < 128 := by
  have := cutL_len t c d
  refine ⟨by rw [List.length_append]; omega, fun x hx => ?_⟩
  rcases List.mem_append.mp hx with hx | hx
  · exact hp x hx
  · exact hp x (cut_mem hx)
end
section
variable {P : Program} {w : World} {K : PySem.W.Frag} {mg : Str → Option Value} {base : Heap}
def sp__law_numbers (K : PySem.W.Frag) : Sp := fun vs H Q _ => ∃ (l_p : Int) (l_many : Int) (b : Addr), (vs = [.ref b, .int l_p, .int l_many]) ∧ (Bag H b) ∧ (0 < l_p ∧ l_p < 1000000) ∧ (0 ≤ l_many ∧ l_many < 1000) ∧ (∀ (r : (List Int)) (v : V) H', C1 b H H' → Bag H' b → (rT K rI) H' r v → (r.length = l_many.toNat) → (∀ x ∈ r, 0 ≤ x ∧ x < l_p) → Q v H')
theorem ok__law_numbers {f : Addr} {fd : FuncData} (F : Fun K "_law_numbers" "_law_numbers" s__law_numbers f fd) (n_tuple : mg "tuple" = none) (D__law_take : Df P w K mg base CX0 1 "_law_take" ["_law_bag_here", "_law_many"] (sp__law_take K)) (n_range : mg "range" = none) : FnOk P w K mg base CX0 2 f fd ["_law_bag_here", "_law_p", "_law_many"] (sp__law_numbers K) := by
  refine F.ok sc__law_numbers (fun vs H Q E h => ?_) (fun cdv A outer s H vs Q E hr h => ?_)
  · obtain ⟨l_p, l_many, b, rfl, _⟩ := h; rfl
  · obtain ⟨l_p, l_many, b, rfl, B0, hpre0, hpre1, q⟩ := h
    refine ⟨_, (pss_one (ps_ret (pe_callTy (call_tuple_ofK K) (by rfl) n_tuple (by decide +kernel) (pa_cons (pe_lc (own := [("_law_k", 3)]) (by rfl) sc__law_numbers.nd (pi_range1 (by rfl) n_range (pa_cons (pv 2) pa_nil)) (blkOk_by (own := [("_law_k", 3)]) (N := ["_law_bag_here", "_law_p", "_law_many", "_law_k"]) (sc := defScope s__law_numbers) (by decide +kernel)) (fun _ _ _ _ _ => (pg_name (i := 3) sc__law_numbers.nd rfl (Or.inl rfl))) (fun _ _ _ _ _ => pts_nil) (fun _ _ _ _ _ => (pe_call D__law_take.ok (hr.mono (by omega)) (by rfl) D__law_take.g D__law_take.kp D__law_take.b .nil pass0 (pa_cons (pv 0) (pa_cons (pv 1) pa_nil))))) pa_nil)))), ?_⟩
    have F0 : C1 b H H := C1.refl b H
    refine s_ret0 ?_
    refine go_cbA ?_
    refine go_cons ?_
    refine go_lcR1B (K := K) (R := rI) ((fun y => 0 ≤ y ∧ y < l_p)) B0 er_iv ⟨by omega, by omega⟩ (fun _ => rfl) (fun x1 H4 C5 c6 B7 hx8 k9 => ?_) fun p10 H11 ys15 n12 c13 B14 hl16 hy17 l18 => ?_
    ·
      have kt19 : Kt K _ _ := Bag.kt B0 c6
      replace F0 := F0.trans c6
      replace B0 := B7
      have G0 : C1 b _ _ := C1.refl b H4
      refine go_callA ?_
      refine go_cons ?_
      refine ⟨_, rfl, ?_⟩
      refine go_cons ?_
      refine ⟨_, rfl, ?_⟩
      refine go_nil ?_
      refine ⟨b, _, rfl, B0, (by first | assumption | omega | (simp only [Bool.and_eq_true, Bool.or_eq_true, Bool.not_eq_true', Bool.and_eq_false_iff, Bool.or_eq_false_iff, Bool.not_eq_false', decide_eq_true_eq, decide_eq_false_iff_not, List.length_append, List.length_cons, List.length_nil, List.length_map, List.length_range, List.length_set, rng_len, enm_len, repL_len] at *; omega)), (by first | assumption | omega | (simp only [Bool.and_eq_true, Bool.or_eq_true, Bool.not_eq_true', Bool.and_eq_false_iff, Bool.or_eq_false_iff, Bool.not_eq_false', decide_eq_true_eq, decide_eq_false_iff_not, List.length_append, List.length_cons, List.length_nil, List.length_map, List.length_range, List.length_set, rng_len, enm_len, repL_len] at *; omega)), fun y23 H22 c24 B25 hqy23_0 => ?_⟩
      have kt26 : Kt K _ _ := Bag.kt B0 c24
      replace F0 := F0.trans c24
      replace B0 := B25
      replace G0 := G0.trans c24
      exact k9 _ _ y23 G0 B0 rfl (by first | assumption | omega | (simp only [Bool.and_eq_true, Bool.or_eq_true, Bool.not_eq_true', Bool.and_eq_false_iff, Bool.or_eq_false_iff, Bool.not_eq_false', decide_eq_true_eq, decide_eq_false_iff_not, List.length_append, List.length_cons, List.length_nil, List.length_map, List.length_range, List.length_set, rng_len, enm_len, repL_len] at *; omega))
    have nebp10 : b ≠ p10 := B0.ne n12
    have n0p10 : _ = none := fb F0 B0 n12
    have kt27 : Kt K _ _ := Bag.kt B0 c13
    replace F0 := F0.trans c13
    replace B0 := B14
    refine go_nil ?_
    refine go_R (R := (rT K rI)) (er_tupL (er_K (Lt.rl l18))) fun v31 H29 e30 f32 => ?_
    replace B0 := Bag.ex B0 e30
    replace l18 := Lt.ex l18 e30
    replace F0 := F0.trans (C1.ex e30)
    exact q _ v31 _ F0 B0 f32 (by first | assumption | omega | (simp only [Bool.and_eq_true, Bool.or_eq_true, Bool.not_eq_true', Bool.and_eq_false_iff, Bool.or_eq_false_iff, Bool.not_eq_false', decide_eq_true_eq, decide_eq_false_iff_not, List.length_append, List.length_cons, List.length_nil, List.length_map, List.length_range, List.length_set, rng_len, enm_len, repL_len] at *; omega)) (by first | assumption | omega | (simp only [Bool.and_eq_true, Bool.or_eq_true, Bool.not_eq_true', Bool.and_eq_false_iff, Bool.or_eq_false_iff, Bool.not_eq_false', decide_eq_true_eq, decide_eq_false_iff_not, List.length_append, List.length_cons, List.length_nil, List.length_map, List.length_range, List.length_set, rng_len, enm_len, repL_len] at *; omega))

def sp__law_poly_text (K : PySem.W.Frag) : Sp := fun vs H Q _ => ∃ (l_p : Int) (l_most : Int) (b : Addr), (vs = [.ref b, .int l_p, .int l_most]) ∧ (Bag H b) ∧ (2 ≤ l_p ∧ l_p ≤ 5) ∧ (0 ≤ l_most ∧ l_most ≤ 12) ∧ (∀ (r : (List Nat)) H', C1 b H H' → Bag H' b → (r.length ≤ 40) → (∀ c ∈ r, c < 128) → Q (.str <| S r) H')
theorem ok__law_poly_text {f : Addr} {fd : FuncData} (F : Fun K "_law_poly_text" "_law_poly_text" s__law_poly_text f fd) (D__law_take : Df P w K mg base CX0 1 "_law_take" ["_law_bag_here", "_law_many"] (sp__law_take K)) (n_str : mg "str" = none) (n_int : mg "int" = none) (D__law_numbers : Df P w K mg base CX0 2 "_law_numbers" ["_law_bag_here", "_law_p", "_law_many"] (sp__law_numbers K)) : FnOk P w K mg base CX0 3 f fd ["_law_bag_here", "_law_p", "_law_most"] (sp__law_poly_text K) := by
  refine F.ok sc__law_poly_text (fun vs H Q E h => ?_) (fun cdv A outer s H vs Q E hr h => ?_)
  · obtain ⟨l_p, l_most, b, rfl, _⟩ := h; rfl
  · obtain ⟨l_p, l_most, b, rfl, B0, hpre0, hpre1, q⟩ := h
    refine ⟨_, (pss_cons (ps_set (i := 3) sc__law_poly_text.nd rfl (Or.inl rfl) (pe_call D__law_take.ok (hr.mono (by omega)) (by rfl) D__law_take.g D__law_take.kp D__law_take.b .nil pass0 (pa_cons (pv 0) (pa_cons (pe_op op_add (pv 2) pe_int) pa_nil))))
 (pss_one (ps_ret (pe_join pe_str (pe_op op_cat (pe_lc (own := [("_law_number", 4)]) (by rfl) sc__law_poly_text.nd (pi_tupK K (pe_call D__law_numbers.ok (hr.mono (by omega)) (by rfl) D__law_numbers.g D__law_numbers.kp D__law_numbers.b .nil pass0 (pa_cons (pv 0) (pa_cons (pe_op op_add (pv 1) (pe_call D__law_take.ok (hr.mono (by omega)) (by rfl) D__law_take.g D__law_take.kp D__law_take.b .nil pass0 (pa_cons (pv 0) (pa_cons pe_int pa_nil)))) (pa_cons (pv 3) pa_nil))))) (blkOk_by (own := [("_law_number", 4)]) (N := ["_law_bag_here", "_law_p", "_law_most", "_law_many", "_law_number"]) (sc := defScope s__law_poly_text) (by decide +kernel)) (fun _ _ _ _ _ => (pg_name (i := 4) sc__law_poly_text.nd rfl (Or.inl rfl))) (fun _ _ _ _ _ => pts_nil) (fun _ _ _ _ _ => (pe_callTy call_str_int (by rfl) n_str (by decide +kernel) (pa_cons (pv 4) pa_nil)))) (pe_op op_rep (pe_lst (pa_cons pe_str pa_nil)) (pe_callTy call_int1 (by rfl) n_int (by decide +kernel) (pa_cons (pe_cmpR op_eq (pv 3) pe_int (nomark _)) pa_nil)))))))), ?_⟩
    have F0 : C1 b H H := C1.refl b H
    refine q_asg0 ?_
    refine go_callA ?_
    refine go_cons ?_
    refine ⟨_, rfl, ?_⟩
    refine go_cons ?_
    refine go_I (er_op0 er_iv er_int) fun H2 e3 => ?_
    replace B0 := Bag.ex B0 e3
    replace F0 := F0.trans (C1.ex e3)
    refine go_nil ?_
    refine ⟨b, _, rfl, B0, (by first | assumption | omega | (simp only [Bool.and_eq_true, Bool.or_eq_true, Bool.not_eq_true', Bool.and_eq_false_iff, Bool.or_eq_false_iff, Bool.not_eq_false', decide_eq_true_eq, decide_eq_false_iff_not, List.length_append, List.length_cons, List.length_nil, List.length_map, List.length_range, List.length_set, rng_len, enm_len, repL_len] at *; omega)), (by first | assumption | omega | (simp only [Bool.and_eq_true, Bool.or_eq_true, Bool.not_eq_true', Bool.and_eq_false_iff, Bool.or_eq_false_iff, Bool.not_eq_false', decide_eq_true_eq, decide_eq_false_iff_not, List.length_append, List.length_cons, List.length_nil, List.length_map, List.length_range, List.length_set, rng_len, enm_len, repL_len] at *; omega)), fun y6 H5 c7 B8 hqy6_0 => ?_⟩
    have kt9 : Kt K _ _ := Bag.kt B0 c7
    replace F0 := F0.trans c7
    replace B0 := B8
    refine s_ret0 ?_
    refine go_m1K ?_
    refine go_X (er_xc [32]) fun H10 e11 => ?_
    replace B0 := Bag.ex B0 e11
    replace F0 := F0.trans (C1.ex e11)
    refine ⟨⟨_, rfl⟩, ?_⟩
    refine go_opK ?_
    refine go_lcTK ?_
    refine go_callA ?_
    refine go_cons ?_
    refine ⟨_, rfl, ?_⟩
    refine go_cons ?_
    refine go_opK ?_
    refine ⟨_, rfl, ?_⟩
    refine go_callA ?_
    refine go_cons ?_
    refine ⟨_, rfl, ?_⟩
    refine go_cons ?_
    refine go_I er_int fun H16 e17 => ?_
    replace B0 := Bag.ex B0 e17
    replace F0 := F0.trans (C1.ex e17)
    refine go_nil ?_
    refine ⟨b, _, rfl, B0, (by first | assumption | omega | (simp only [Bool.and_eq_true, Bool.or_eq_true, Bool.not_eq_true', Bool.and_eq_false_iff, Bool.or_eq_false_iff, Bool.not_eq_false', decide_eq_true_eq, decide_eq_false_iff_not, List.length_append, List.length_cons, List.length_nil, List.length_map, List.length_range, List.length_set, rng_len, enm_len, repL_len] at *; omega)), (by first | assumption | omega | (simp only [Bool.and_eq_true, Bool.or_eq_true, Bool.not_eq_true', Bool.and_eq_false_iff, Bool.or_eq_false_iff, Bool.not_eq_false', decide_eq_true_eq, decide_eq_false_iff_not, List.length_append, List.length_cons, List.length_nil, List.length_map, List.length_range, List.length_set, rng_len, enm_len, repL_len] at *; omega)), fun y20 H19 c21 B22 hqy20_0 => ?_⟩
    have kt23 : Kt K _ _ := Bag.kt B0 c21
    replace F0 := F0.trans c21
    replace B0 := B22
    refine go_I (er_op0 er_iK er_iK) fun H25 e26 => ?_
    replace B0 := Bag.ex B0 e26
    replace F0 := F0.trans (C1.ex e26)
    refine go_cons ?_
    refine ⟨_, rfl, ?_⟩
    refine go_nil ?_
    refine ⟨_, _, b, rfl, B0, (by first | assumption | omega | (simp only [Bool.and_eq_true, Bool.or_eq_true, Bool.not_eq_true', Bool.and_eq_false_iff, Bool.or_eq_false_iff, Bool.not_eq_false', decide_eq_true_eq, decide_eq_false_iff_not, List.length_append, List.length_cons, List.length_nil, List.length_map, List.length_range, List.length_set, rng_len, enm_len, repL_len] at *; omega)), (by first | assumption | omega | (simp only [Bool.and_eq_true, Bool.or_eq_true, Bool.not_eq_true', Bool.and_eq_false_iff, Bool.or_eq_false_iff, Bool.not_eq_false', decide_eq_true_eq, decide_eq_false_iff_not, List.length_append, List.length_cons, List.length_nil, List.length_map, List.length_range, List.length_set, rng_len, enm_len, repL_len] at *; omega)), fun y30 v33 H29 c31 B32 f34 hqy30_0 hqy30_1 => ?_⟩
    have kt35 : Kt K _ _ := Bag.kt B0 c31
    replace F0 := F0.trans c31
    replace B0 := B32
    refine go_L (el_lcTI (K := K) (er_K f34) (by first | omega | assumption | (simp only [Bool.and_eq_true, Bool.or_eq_true, Bool.not_eq_true', Bool.and_eq_false_iff, Bool.or_eq_false_iff, Bool.not_eq_false', decide_eq_true_eq, decide_eq_false_iff_not, List.length_append, List.length_cons, List.length_nil, List.length_map, List.length_range, List.length_set, rng_len, enm_len, repL_len] at *; omega)) (fun _ => rfl) (fun x39 H1 e40 hx41 => (er_xstr er_iv (num_small (by assumption) (by assumption) (by omega))))) fun p43 H37 n44 e38 l45 => ?_
    have nebp43 : b ≠ p43 := B0.ne n44
    have n0p43 : _ = none := fb F0 B0 n44
    replace B0 := Bag.ex B0 e38
    replace f34 := Me.ex e38 f34
    replace F0 := F0.trans (C1.ex e38)
    refine go_L (el_rep (el_lst (R := rX) (eas (er_xc [45]) eas0) (by first | decide | simp)) (er_intB (er_eqI er_iv er_int)) (by first | omega | assumption | (simp only [Bool.and_eq_true, Bool.or_eq_true, Bool.not_eq_true', Bool.and_eq_false_iff, Bool.or_eq_false_iff, Bool.not_eq_false', decide_eq_true_eq, decide_eq_false_iff_not, List.length_append, List.length_cons, List.length_nil, List.length_map, List.length_range, List.length_set, rng_len, enm_len, repL_len] at *; omega)) (by first | omega | assumption | (simp only [Bool.and_eq_true, Bool.or_eq_true, Bool.not_eq_true', Bool.and_eq_false_iff, Bool.or_eq_false_iff, Bool.not_eq_false', decide_eq_true_eq, decide_eq_false_iff_not, List.length_append, List.length_cons, List.length_nil, List.length_map, List.length_range, List.length_set, rng_len, enm_len, repL_len] at *; omega))) fun p49 H47 n50 e48 l51 => ?_
    have nebp49 : b ≠ p49 := B0.ne n50
    have nep43p49 : p43 ≠ p49 := l45.ne n50
    have n0p49 : _ = none := fb F0 B0 n50
    replace B0 := Bag.ex B0 e48
    replace l45 := Lt.ex l45 e48
    replace F0 := F0.trans (C1.ex e48)
    refine go_L (el_catW (ew_K l45) (ew_K l51) (by first | omega | assumption | (simp only [Bool.and_eq_true, Bool.or_eq_true, Bool.not_eq_true', Bool.and_eq_false_iff, Bool.or_eq_false_iff, Bool.not_eq_false', decide_eq_true_eq, decide_eq_false_iff_not, List.length_append, List.length_cons, List.length_nil, List.length_map, List.length_range, List.length_set, rng_len, enm_len, repL_len] at *; omega))) fun p55 H53 n56 e54 l57 => ?_
    have nebp55 : b ≠ p55 := B0.ne n56
    have nep43p55 : p43 ≠ p55 := l45.ne n56
    have nep49p55 : p49 ≠ p55 := l51.ne n56
    have n0p55 : _ = none := fb F0 B0 n56
    replace B0 := Bag.ex B0 e54
    replace l45 := Lt.ex l45 e54
    replace l51 := Lt.ex l51 e54
    replace F0 := F0.trans (C1.ex e54)
    refine go_m1E (r := rJoinS K) ?_
    refine go_X (er_xjoin (K := K) er_xK (er_K (Lt.rl l57)) (polyT_sum (by assumption) (by omega) (by assumption) (by omega))) fun H59 e60 => ?_
    replace B0 := Bag.ex B0 e60
    replace l57 := Lt.ex l57 e60
    replace F0 := F0.trans (C1.ex e60)
    exact q _ _ F0 B0 (polyT_post (by assumption) (by omega) (by assumption) (by omega)).1 (polyT_post (by assumption) (by omega) (by assumption) (by omega)).2

def sp__law_two_text (K : PySem.W.Frag) : Sp := fun vs H Q _ => ∃ (l_p : Int) (b : Addr), (vs = [.ref b, .int l_p]) ∧ (Bag H b) ∧ (2 ≤ l_p ∧ l_p ≤ 5) ∧ (∀ (r : (List Nat)) H', C1 b H H' → Bag H' b → (r.length ≤ 400) → (∀ c ∈ r, c < 128) → Q (.str <| S r) H')
theorem ok__law_two_text {f : Addr} {fd : FuncData} (F : Fun K "_law_two_text" "_law_two_text" s__law_two_text f fd) (D__law_poly_text : Df P w K mg base CX0 3 "_law_poly_text" ["_law_bag_here", "_law_p", "_law_most"] (sp__law_poly_text K)) (n_range : mg "range" = none) (D__law_take : Df P w K mg base CX0 1 "_law_take" ["_law_bag_here", "_law_many"] (sp__law_take K)) : FnOk P w K mg base CX0 4 f fd ["_law_bag_here", "_law_p"] (sp__law_two_text K) := by
  refine F.ok sc__law_two_text (fun vs H Q E h => ?_) (fun cdv A outer s H vs Q E hr h => ?_)
  · obtain ⟨l_p, b, rfl, _⟩ := h; rfl
  · obtain ⟨l_p, b, rfl, B0, hpre0, q⟩ := h
    refine ⟨_, (pss_one (ps_ret (pe_join pe_str (pe_lc (own := [("_law_turn", 2)]) (by rfl) sc__law_two_text.nd (pi_range1 (by rfl) n_range (pa_cons (pe_op op_add pe_int (pe_call D__law_take.ok (hr.mono (by omega)) (by rfl) D__law_take.g D__law_take.kp D__law_take.b .nil pass0 (pa_cons (pv 0) (pa_cons pe_int pa_nil)))) pa_nil)) (blkOk_by (own := [("_law_turn", 2)]) (N := ["_law_bag_here", "_law_p", "_law_turn"]) (sc := defScope s__law_two_text) (by decide +kernel)) (fun _ _ _ _ _ => (pg_name (i := 2) sc__law_two_text.nd rfl (Or.inl rfl))) (fun _ _ _ _ _ => pts_nil) (fun _ _ _ _ _ => (pe_call D__law_poly_text.ok (hr.mono (by omega)) (by rfl) D__law_poly_text.g D__law_poly_text.kp D__law_poly_text.b .nil pass0 (pa_cons (pv 0) (pa_cons (pv 1) (pa_cons pe_int pa_nil))))))))), ?_⟩
    have F0 : C1 b H H := C1.refl b H
    refine s_ret0 ?_
    refine go_m1K ?_
    refine go_X (er_xc [32, 59, 32]) fun H1 e2 => ?_
    replace B0 := Bag.ex B0 e2
    replace F0 := F0.trans (C1.ex e2)
    refine ⟨⟨_, rfl⟩, ?_⟩
    refine lc_open ?_
    refine go_opK ?_
    refine go_I er_int fun H22 e23 => ?_
    replace B0 := Bag.ex B0 e23
    replace F0 := F0.trans (C1.ex e23)
    refine go_callA ?_
    refine go_cons ?_
    refine ⟨_, rfl, ?_⟩
    refine go_cons ?_
    refine go_I er_int fun H26 e27 => ?_
    replace B0 := Bag.ex B0 e27
    replace F0 := F0.trans (C1.ex e27)
    refine go_nil ?_
    refine ⟨b, _, rfl, B0, (by first | assumption | omega | (simp only [Bool.and_eq_true, Bool.or_eq_true, Bool.not_eq_true', Bool.and_eq_false_iff, Bool.or_eq_false_iff, Bool.not_eq_false', decide_eq_true_eq, decide_eq_false_iff_not, List.length_append, List.length_cons, List.length_nil, List.length_map, List.length_range, List.length_set, rng_len, enm_len, repL_len] at *; omega)), (by first | assumption | omega | (simp only [Bool.and_eq_true, Bool.or_eq_true, Bool.not_eq_true', Bool.and_eq_false_iff, Bool.or_eq_false_iff, Bool.not_eq_false', decide_eq_true_eq, decide_eq_false_iff_not, List.length_append, List.length_cons, List.length_nil, List.length_map, List.length_range, List.length_set, rng_len, enm_len, repL_len] at *; omega)), fun y30 H29 c31 B32 hqy30_0 => ?_⟩
    have kt33 : Kt K _ _ := Bag.kt B0 c31
    replace F0 := F0.trans c31
    replace B0 := B32
    refine go_I (er_op0 er_iK er_iK) fun H35 e36 => ?_
    replace B0 := Bag.ex B0 e36
    replace F0 := F0.trans (C1.ex e36)
    refine ⟨_, rfl, by omega, by omega, lcR1B (K := K) (R := rX) (hi := ((1 : Int) + y30)) ((fun y => y.length ≤ 40 ∧ ∀ c ∈ y, c < 128)) B0 (by omega) (fun _ => rfl) (fun x4 H7 C8 c9 B10 hx11 k12 => ?_) fun p13 H14 ys18 n15 c16 B17 hl19 hy20 l21 => ?_⟩
    ·
      have kt37 : Kt K _ _ := Bag.kt B0 c9
      replace F0 := F0.trans c9
      replace B0 := B10
      have G0 : C1 b _ _ := C1.refl b H7
      refine go_callA ?_
      refine go_cons ?_
      refine ⟨_, rfl, ?_⟩
      refine go_cons ?_
      refine ⟨_, rfl, ?_⟩
      refine go_cons ?_
      refine go_I er_int fun H40 e41 => ?_
      replace B0 := Bag.ex B0 e41
      replace F0 := F0.trans (C1.ex e41)
      replace G0 := G0.trans (C1.ex e41)
      refine go_nil ?_
      refine ⟨_, _, b, rfl, B0, (by first | assumption | omega | (simp only [Bool.and_eq_true, Bool.or_eq_true, Bool.not_eq_true', Bool.and_eq_false_iff, Bool.or_eq_false_iff, Bool.not_eq_false', decide_eq_true_eq, decide_eq_false_iff_not, List.length_append, List.length_cons, List.length_nil, List.length_map, List.length_range, List.length_set, rng_len, enm_len, repL_len] at *; omega)), (by first | assumption | omega | (simp only [Bool.and_eq_true, Bool.or_eq_true, Bool.not_eq_true', Bool.and_eq_false_iff, Bool.or_eq_false_iff, Bool.not_eq_false', decide_eq_true_eq, decide_eq_false_iff_not, List.length_append, List.length_cons, List.length_nil, List.length_map, List.length_range, List.length_set, rng_len, enm_len, repL_len] at *; omega)), fun y44 H43 c45 B46 hqy44_0 hqy44_1 => ?_⟩
      have kt47 : Kt K _ _ := Bag.kt B0 c45
      replace F0 := F0.trans c45
      replace B0 := B46
      replace G0 := G0.trans c45
      exact k12 _ _ y44 G0 B0 rfl ⟨(by assumption), (by assumption)⟩
    have nebp13 : b ≠ p13 := B0.ne n15
    have n0p13 : _ = none := fb F0 B0 n15
    have kt48 : Kt K _ _ := Bag.kt B0 c16
    replace F0 := F0.trans c16
    replace B0 := B17
    refine go_m1E (r := rJoinS K) ?_
    refine go_X (er_xjoin (K := K) er_xK (er_K (Lt.rl l21)) (twoT_sum (by assumption) (by assumption) (by omega))) fun H50 e51 => ?_
    replace B0 := Bag.ex B0 e51
    replace l21 := Lt.ex l21 e51
    replace F0 := F0.trans (C1.ex e51)
    exact q _ _ F0 B0 (twoT_post (by assumption) (by assumption) (by omega)).1 (twoT_post (by assumption) (by assumption) (by omega)).2

def sp__law_spoilt (K : PySem.W.Frag) : Sp := fun vs H Q _ => ∃ (l_text : (List Nat)) (b : Addr), (vs = [.ref b, .str (S l_text)]) ∧ (Bag H b) ∧ (l_text.length ≤ 400) ∧ (∀ c ∈ l_text, c < 128) ∧ (∀ (r : (List Nat)) H', C1 b H H' → Bag H' b → (r.length ≤ 1000) → (∀ c ∈ r, c < 128) → Q (.str <| S r) H')
theorem ok__law_spoilt {f : Addr} {fd : FuncData} (F : Fun K "_law_spoilt" "_law_spoilt" s__law_spoilt f fd) (D__law_take : Df P w K mg base CX0 1 "_law_take" ["_law_bag_here", "_law_many"] (sp__law_take K)) (n_len : mg "len" = none) : FnOk P w K mg base CX0 2 f fd ["_law_bag_here", "_law_text"] (sp__law_spoilt K) := by
  refine F.ok sc__law_spoilt (fun vs H Q E h => ?_) (fun cdv A outer s H vs Q E hr h => ?_)
  · obtain ⟨l_text, b, rfl, _⟩ := h; rfl
  · obtain ⟨l_text, b, rfl, B0, hpre0, hpre1, q⟩ := h
    refine ⟨_, (pss_cons (ps_set (i := 2) sc__law_spoilt.nd rfl (Or.inl rfl) (pe_call D__law_take.ok (hr.mono (by omega)) (by rfl) D__law_take.g D__law_take.kp D__law_take.b .nil pass0 (pa_cons (pv 0) (pa_cons (pe_op op_add (pe_callB call_len_str (by rfl) n_len (by decide +kernel) (pa_cons (pv 1) pa_nil)) pe_int) pa_nil))))
 (pss_cons (ps_set (i := 3) sc__law_spoilt.nd rfl (Or.inl rfl) (pe_call D__law_take.ok (hr.mono (by omega)) (by rfl) D__law_take.g D__law_take.kp D__law_take.b .nil pass0 (pa_cons (pv 0) (pa_cons pe_int pa_nil))))
 (pss_cons (ps_set (i := 4) sc__law_spoilt.nd rfl (Or.inl rfl) (pe_ix ix_str pe_str (pe_call D__law_take.ok (hr.mono (by omega)) (by rfl) D__law_take.g D__law_take.kp D__law_take.b .nil pass0 (pa_cons (pv 0) (pa_cons pe_int pa_nil))) (fun _ _ => rfl)))
 (pss_cons (ps_if (pt_cmpR op_eq (pv 3) pe_int (nomark _)) (pss_one (ps_ret (pe_op op_add_str (pe_op op_add_str (pe_slice sl_str (pv 1) po_none (po_some (pv 2))) (pv 4)) (pe_slice sl_str (pv 1) (po_some (pv 2)) po_none)))) pss_nil)
 (pss_cons (ps_if (pt_cmpR op_eq (pv 3) pe_int (nomark _)) (pss_one (ps_ret (pe_op op_add_str (pe_slice sl_str (pv 1) po_none (po_some (pv 2))) (pe_slice sl_str (pv 1) (po_some (pe_op op_add (pv 2) pe_int)) po_none)))) pss_nil)
 (pss_cons (ps_if (pt_cmpR op_eq (pv 3) pe_int (nomark _)) (pss_one (ps_ret (pe_op op_add_str (pe_op op_add_str (pe_slice sl_str (pv 1) po_none (po_some (pv 2))) (pv 4)) (pe_slice sl_str (pv 1) (po_some (pe_op op_add (pv 2) pe_int)) po_none)))) pss_nil)
 (pss_cons (ps_if (pt_cmpR op_eq (pv 3) pe_int (nomark _)) (pss_one (ps_ret (pe_op op_add_str (pv 1) (pe_slice sl_str (pv 1) (po_some (pv 2)) po_none)))) pss_nil)
 (pss_one (ps_ret (pv 1)))))))))), ?_⟩
    have F0 : C1 b H H := C1.refl b H
    refine q_asg0 ?_
    refine go_callA ?_
    refine go_cons ?_
    refine ⟨_, rfl, ?_⟩
    refine go_cons ?_
    refine go_I (er_op0 (er_xlen er_xv (by first | omega | assumption | (simp only [Bool.and_eq_true, Bool.or_eq_true, Bool.not_eq_true', Bool.and_eq_false_iff, Bool.or_eq_false_iff, Bool.not_eq_false', decide_eq_true_eq, decide_eq_false_iff_not, List.length_append, List.length_cons, List.length_nil, List.length_map, List.length_range, List.length_set, rng_len, enm_len, repL_len] at *; omega))) er_int) fun H2 e3 => ?_
    replace B0 := Bag.ex B0 e3
    replace F0 := F0.trans (C1.ex e3)
    refine go_nil ?_
    refine ⟨b, _, rfl, B0, (by first | assumption | omega | (simp only [Bool.and_eq_true, Bool.or_eq_true, Bool.not_eq_true', Bool.and_eq_false_iff, Bool.or_eq_false_iff, Bool.not_eq_false', decide_eq_true_eq, decide_eq_false_iff_not, List.length_append, List.length_cons, List.length_nil, List.length_map, List.length_range, List.length_set, rng_len, enm_len, repL_len] at *; omega)), (by first | assumption | omega | (simp only [Bool.and_eq_true, Bool.or_eq_true, Bool.not_eq_true', Bool.and_eq_false_iff, Bool.or_eq_false_iff, Bool.not_eq_false', decide_eq_true_eq, decide_eq_false_iff_not, List.length_append, List.length_cons, List.length_nil, List.length_map, List.length_range, List.length_set, rng_len, enm_len, repL_len] at *; omega)), fun y6 H5 c7 B8 hqy6_0 => ?_⟩
    have kt9 : Kt K _ _ := Bag.kt B0 c7
    replace F0 := F0.trans c7
    replace B0 := B8
    refine q_asg0 ?_
    refine go_callA ?_
    refine go_cons ?_
    refine ⟨_, rfl, ?_⟩
    refine go_cons ?_
    refine go_I er_int fun H11 e12 => ?_
    replace B0 := Bag.ex B0 e12
    replace F0 := F0.trans (C1.ex e12)
    refine go_nil ?_
    refine ⟨b, _, rfl, B0, (by first | assumption | omega | (simp only [Bool.and_eq_true, Bool.or_eq_true, Bool.not_eq_true', Bool.and_eq_false_iff, Bool.or_eq_false_iff, Bool.not_eq_false', decide_eq_true_eq, decide_eq_false_iff_not, List.length_append, List.length_cons, List.length_nil, List.length_map, List.length_range, List.length_set, rng_len, enm_len, repL_len] at *; omega)), (by first | assumption | omega | (simp only [Bool.and_eq_true, Bool.or_eq_true, Bool.not_eq_true', Bool.and_eq_false_iff, Bool.or_eq_false_iff, Bool.not_eq_false', decide_eq_true_eq, decide_eq_false_iff_not, List.length_append, List.length_cons, List.length_nil, List.length_map, List.length_range, List.length_set, rng_len, enm_len, repL_len] at *; omega)), fun y15 H14 c16 B17 hqy15_0 => ?_⟩
    have kt18 : Kt K _ _ := Bag.kt B0 c16
    replace F0 := F0.trans c16
    replace B0 := B17
    refine q_asg0 ?_
    refine go_opK ?_
    refine go_X (er_xc [32, 48, 49, 50, 51, 52, 53, 57, 45, 46, 59, 97, 98, 43]) fun H19 e20 => ?_
    replace B0 := Bag.ex B0 e20
    replace F0 := F0.trans (C1.ex e20)
    refine go_callA ?_
    refine go_cons ?_
    refine ⟨_, rfl, ?_⟩
    refine go_cons ?_
    refine go_I er_int fun H23 e24 => ?_
    replace B0 := Bag.ex B0 e24
    replace F0 := F0.trans (C1.ex e24)
    refine go_nil ?_
    refine ⟨b, _, rfl, B0, (by first | assumption | omega | (simp only [Bool.and_eq_true, Bool.or_eq_true, Bool.not_eq_true', Bool.and_eq_false_iff, Bool.or_eq_false_iff, Bool.not_eq_false', decide_eq_true_eq, decide_eq_false_iff_not, List.length_append, List.length_cons, List.length_nil, List.length_map, List.length_range, List.length_set, rng_len, enm_len, repL_len] at *; omega)), (by first | assumption | omega | (simp only [Bool.and_eq_true, Bool.or_eq_true, Bool.not_eq_true', Bool.and_eq_false_iff, Bool.or_eq_false_iff, Bool.not_eq_false', decide_eq_true_eq, decide_eq_false_iff_not, List.length_append, List.length_cons, List.length_nil, List.length_map, List.length_range, List.length_set, rng_len, enm_len, repL_len] at *; omega)), fun y27 H26 c28 B29 hqy27_0 => ?_⟩
    have kt30 : Kt K _ _ := Bag.kt B0 c28
    replace F0 := F0.trans c28
    replace B0 := B29
    refine go_X (er_xix0 er_xK er_iK (by first | omega | assumption | (simp; omega) | (simp only [Bool.and_eq_true, Bool.or_eq_true, Bool.not_eq_true', Bool.and_eq_false_iff, Bool.or_eq_false_iff, Bool.not_eq_false', decide_eq_true_eq, decide_eq_false_iff_not, List.length_append, List.length_cons, List.length_nil, List.length_map, List.length_range, List.length_set, rng_len, enm_len, repL_len] at *; omega)) (by first | omega | assumption | (simp; omega) | (simp only [Bool.and_eq_true, Bool.or_eq_true, Bool.not_eq_true', Bool.and_eq_false_iff, Bool.or_eq_false_iff, Bool.not_eq_false', decide_eq_true_eq, decide_eq_false_iff_not, List.length_append, List.length_cons, List.length_nil, List.length_map, List.length_range, List.length_set, rng_len, enm_len, repL_len] at *; omega)) (by first | omega | assumption | (simp only [Bool.and_eq_true, Bool.or_eq_true, Bool.not_eq_true', Bool.and_eq_false_iff, Bool.or_eq_false_iff, Bool.not_eq_false', decide_eq_true_eq, decide_eq_false_iff_not, List.length_append, List.length_cons, List.length_nil, List.length_map, List.length_range, List.length_set, rng_len, enm_len, repL_len] at *; omega))) fun H32 e33 => ?_
    replace B0 := Bag.ex B0 e33
    replace F0 := F0.trans (C1.ex e33)
    refine q_when (et_t (er_eqI er_iv er_int)) (fun hb_1 H34 e35 => ?_) (fun hb_1 H34 e35 => ?_)
    ·
      have hb_1' := hb_1
      try simp only [Bool.and_eq_true, Bool.or_eq_true, Bool.not_eq_true', Bool.and_eq_false_iff, Bool.or_eq_false_iff, Bool.not_eq_false', decide_eq_true_eq, decide_eq_false_iff_not] at hb_1'
      replace B0 := Bag.ex B0 e35
      replace F0 := F0.trans (C1.ex e35)
      refine s_ret0 ?_
      refine go_X (er_xadd (er_xadd (er_xsl er_xv eo0 (eo1 er_iv) (by first | omega | assumption | (simp only [Bool.and_eq_true, Bool.or_eq_true, Bool.not_eq_true', Bool.and_eq_false_iff, Bool.or_eq_false_iff, Bool.not_eq_false', decide_eq_true_eq, decide_eq_false_iff_not, List.length_append, List.length_cons, List.length_nil, List.length_map, List.length_range, List.length_set, rng_len, enm_len, repL_len] at *; omega))) er_xv (sp_a hpre0 (by simp))) (er_xsl er_xv (eo1 er_iv) eo0 (by first | omega | assumption | (simp only [Bool.and_eq_true, Bool.or_eq_true, Bool.not_eq_true', Bool.and_eq_false_iff, Bool.or_eq_false_iff, Bool.not_eq_false', decide_eq_true_eq, decide_eq_false_iff_not, List.length_append, List.length_cons, List.length_nil, List.length_map, List.length_range, List.length_set, rng_len, enm_len, repL_len] at *; omega))) (sp_b hpre0 (by simp))) fun H36 e37 => ?_
      replace B0 := Bag.ex B0 e37
      replace F0 := F0.trans (C1.ex e37)
      exact q _ _ F0 B0 (sp_post1 hpre0 hpre1 (by simp) (by intro c hc; rw [List.mem_singleton.mp hc]; exact gtX_plain (by omega) (by decide))).1 (sp_post1 hpre0 hpre1 (by simp) (by intro c hc; rw [List.mem_singleton.mp hc]; exact gtX_plain (by omega) (by decide))).2
    have hb_1' := hb_1
    try simp only [Bool.and_eq_true, Bool.or_eq_true, Bool.not_eq_true', Bool.and_eq_false_iff, Bool.or_eq_false_iff, Bool.not_eq_false', decide_eq_true_eq, decide_eq_false_iff_not] at hb_1'
    replace B0 := Bag.ex B0 e35
    replace F0 := F0.trans (C1.ex e35)
    refine q_when (et_t (er_eqI er_iv er_int)) (fun hb_2 H38 e39 => ?_) (fun hb_2 H38 e39 => ?_)
    ·
      have hb_2' := hb_2
      try simp only [Bool.and_eq_true, Bool.or_eq_true, Bool.not_eq_true', Bool.and_eq_false_iff, Bool.or_eq_false_iff, Bool.not_eq_false', decide_eq_true_eq, decide_eq_false_iff_not] at hb_2'
      replace B0 := Bag.ex B0 e39
      replace F0 := F0.trans (C1.ex e39)
      refine s_ret0 ?_
      refine go_X (er_xadd (er_xsl er_xv eo0 (eo1 er_iv) (by first | omega | assumption | (simp only [Bool.and_eq_true, Bool.or_eq_true, Bool.not_eq_true', Bool.and_eq_false_iff, Bool.or_eq_false_iff, Bool.not_eq_false', decide_eq_true_eq, decide_eq_false_iff_not, List.length_append, List.length_cons, List.length_nil, List.length_map, List.length_range, List.length_set, rng_len, enm_len, repL_len] at *; omega))) (er_xsl er_xv (eo1 (er_op0 er_iv er_int)) eo0 (by first | omega | assumption | (simp only [Bool.and_eq_true, Bool.or_eq_true, Bool.not_eq_true', Bool.and_eq_false_iff, Bool.or_eq_false_iff, Bool.not_eq_false', decide_eq_true_eq, decide_eq_false_iff_not, List.length_append, List.length_cons, List.length_nil, List.length_map, List.length_range, List.length_set, rng_len, enm_len, repL_len] at *; omega))) (sp_c hpre0)) fun H40 e41 => ?_
      replace B0 := Bag.ex B0 e41
      replace F0 := F0.trans (C1.ex e41)
      exact q _ _ F0 B0 (sp_post2 hpre0 hpre1).1 (sp_post2 hpre0 hpre1).2
    have hb_2' := hb_2
    try simp only [Bool.and_eq_true, Bool.or_eq_true, Bool.not_eq_true', Bool.and_eq_false_iff, Bool.or_eq_false_iff, Bool.not_eq_false', decide_eq_true_eq, decide_eq_false_iff_not] at hb_2'
    replace B0 := Bag.ex B0 e39
    replace F0 := F0.trans (C1.ex e39)
    refine q_when (et_t (er_eqI er_iv er_int)) (fun hb_3 H42 e43 => ?_) (fun hb_3 H42 e43 => ?_)
    ·
      have hb_3' := hb_3
      try simp only [Bool.and_eq_true, Bool.or_eq_true, Bool.not_eq_true', Bool.and_eq_false_iff, Bool.or_eq_false_iff, Bool.not_eq_false', decide_eq_true_eq, decide_eq_false_iff_not] at hb_3'
      replace B0 := Bag.ex B0 e43
      replace F0 := F0.trans (C1.ex e43)
      refine s_ret0 ?_
      refine go_X (er_xadd (er_xadd (er_xsl er_xv eo0 (eo1 er_iv) (by first | omega | assumption | (simp only [Bool.and_eq_true, Bool.or_eq_true, Bool.not_eq_true', Bool.and_eq_false_iff, Bool.or_eq_false_iff, Bool.not_eq_false', decide_eq_true_eq, decide_eq_false_iff_not, List.length_append, List.length_cons, List.length_nil, List.length_map, List.length_range, List.length_set, rng_len, enm_len, repL_len] at *; omega))) er_xv (sp_a hpre0 (by simp))) (er_xsl er_xv (eo1 (er_op0 er_iv er_int)) eo0 (by first | omega | assumption | (simp only [Bool.and_eq_true, Bool.or_eq_true, Bool.not_eq_true', Bool.and_eq_false_iff, Bool.or_eq_false_iff, Bool.not_eq_false', decide_eq_true_eq, decide_eq_false_iff_not, List.length_append, List.length_cons, List.length_nil, List.length_map, List.length_range, List.length_set, rng_len, enm_len, repL_len] at *; omega))) (sp_b hpre0 (by simp))) fun H44 e45 => ?_
      replace B0 := Bag.ex B0 e45
      replace F0 := F0.trans (C1.ex e45)
      exact q _ _ F0 B0 (sp_post1 hpre0 hpre1 (by simp) (by intro c hc; rw [List.mem_singleton.mp hc]; exact gtX_plain (by omega) (by decide))).1 (sp_post1 hpre0 hpre1 (by simp) (by intro c hc; rw [List.mem_singleton.mp hc]; exact gtX_plain (by omega) (by decide))).2
    have hb_3' := hb_3
    try simp only [Bool.and_eq_true, Bool.or_eq_true, Bool.not_eq_true', Bool.and_eq_false_iff, Bool.or_eq_false_iff, Bool.not_eq_false', decide_eq_true_eq, decide_eq_false_iff_not] at hb_3'
    replace B0 := Bag.ex B0 e43
    replace F0 := F0.trans (C1.ex e43)
    refine q_when (et_t (er_eqI er_iv er_int)) (fun hb_4 H46 e47 => ?_) (fun hb_4 H46 e47 => ?_)
    ·
      have hb_4' := hb_4
      try simp only [Bool.and_eq_true, Bool.or_eq_true, Bool.not_eq_true', Bool.and_eq_false_iff, Bool.or_eq_false_iff, Bool.not_eq_false', decide_eq_true_eq, decide_eq_false_iff_not] at hb_4'
      replace B0 := Bag.ex B0 e47
      replace F0 := F0.trans (C1.ex e47)
      refine s_ret0 ?_
      refine go_X (er_xadd er_xv (er_xsl er_xv (eo1 er_iv) eo0 (by first | omega | assumption | (simp only [Bool.and_eq_true, Bool.or_eq_true, Bool.not_eq_true', Bool.and_eq_false_iff, Bool.or_eq_false_iff, Bool.not_eq_false', decide_eq_true_eq, decide_eq_false_iff_not, List.length_append, List.length_cons, List.length_nil, List.length_map, List.length_range, List.length_set, rng_len, enm_len, repL_len] at *; omega))) (sp_d hpre0)) fun H48 e49 => ?_
      replace B0 := Bag.ex B0 e49
      replace F0 := F0.trans (C1.ex e49)
      exact q _ _ F0 B0 (sp_post3 hpre0 hpre1).1 (sp_post3 hpre0 hpre1).2
    have hb_4' := hb_4
    try simp only [Bool.and_eq_true, Bool.or_eq_true, Bool.not_eq_true', Bool.and_eq_false_iff, Bool.or_eq_false_iff, Bool.not_eq_false', decide_eq_true_eq, decide_eq_false_iff_not] at hb_4'
    replace B0 := Bag.ex B0 e47
    replace F0 := F0.trans (C1.ex e47)
    refine s_ret0 ?_
    refine ⟨_, rfl, ?_⟩
    exact q _ _ F0 B0 (Nat.le_trans hpre0 (by decide)) hpre1

end
section
variable {K : PySem.W.Frag} {σ : L2.St} {H : Hp} {te : TE}
theorem q_par0 {i j : Nat} {ta : TA} {tz : TS} {D : Ends} (h : ta σ H fun vs H1 => ∃ u v, vs = [u, v] ∧ tz D ((σ.set i (some u)).set j (some v)) H1) : tSeq (tPar i j ta) tz D σ H := h
inductive Odd where
  | txt (s : List Nat)
  | nil
  | lst
def Odd.get : Odd → Option (List Nat)
  | .txt s => some s
  | _ => none
def rTgE (K : PySem.W.Frag) : Rp Odd := fun H o v => match o with
  | .txt s => v = .str (S s)
  | .nil => NoS K H v
  | .lst => ∃ p, v = .ref p ∧ Lt rX H p [[49]]
instance : Me (rTgE K) := ⟨fun {H H' x v} e h => by
  cases x with
  | txt s => exact h
  | nil => exact NoS.kt (Kt.ex e) h
  | lst => obtain ⟨p, h1, h2⟩ := h; exact ⟨p, h1, h2.ex e⟩⟩
def odds3 : List Odd := [.nil, .nil, .nil, .nil, .lst, .nil, .txt [], .txt [32], .txt [45], .txt [46], .txt [45, 32, 59, 32, 49], .txt [49, 32, 59, 32, 45], .txt [32, 59, 32], .txt [48]]
def odds : List (Option (List Nat)) := [none, none, none, none, none, none, some [], some [32], some [45], some [46], some [45, 32, 59, 32, 49], some [49, 32, 59, 32, 45], some [32, 59, 32], some [48]]
theorem er_gN (h : Er rN te σ H ()) : Er (rTgE K) te σ H .nil := fun H1 e Q q => h H1 e Q fun v H2 e2 r => q v H2 e2 (by cases r; exact .non)
theorem er_gI {i : Int} (h : Er rI te σ H i) : Er (rTgE K) te σ H .nil := fun H1 e Q q => h H1 e Q fun v H2 e2 r => q v H2 e2 (by cases r; exact .int i)
theorem er_gB {i : Bool} (h : Er rB te σ H i) : Er (rTgE K) te σ H .nil := fun H1 e Q q => h H1 e Q fun v H2 e2 r => q v H2 e2 (by cases r; exact .bl i)
theorem er_gT {α : Type} {R : Rp α} {x : List α} (h : Er (rT K R) te σ H x) : Er (rTgE K) te σ H .nil := fun H1 e Q q => h H1 e Q fun v H2 e2 r => q v H2 e2 (by obtain ⟨a, vs, rfl, h2, _⟩ := r; exact .tup h2)
theorem er_gL (h : El rX te σ H [[49]]) : Er (rTgE K) te σ H .lst := fun H1 e Q q => h H1 e Q fun p H2 _ e2 l => q _ H2 e2 ⟨p, rfl, l⟩
theorem er_gS {s : List Nat} (h : Er rX te σ H s) : Er (rTgE K) te σ H (.txt s) := h
def Odd.isL : Odd → Bool
  | .lst => true
  | _ => false
theorem odd_conv {pQ : Addr} : ∀ {xs : List Odd} {vs : List V}, xs.all (fun o => !o.isL) = true → Paired (rTgE K H) xs vs → Paired (rTg K pQ H) (xs.map Odd.get) vs
  | [], _, _, .nil => .nil
  | x :: xs, _, h, .cons r t => by
    rw [List.all_cons, Bool.and_eq_true] at h
    refine .cons ?_ (odd_conv h.2 t)
    cases x with
    | txt s => exact r
    | nil => exact .inl r
    | lst => cases h.1
theorem odd_split' : ∀ {a c : List Odd} {vs : List V}, a.all (fun o => !o.isL) = true → c.all (fun o => !o.isL) = true → Paired (rTgE K H) (a ++ .lst :: c) vs → ∃ pQ, Lt rX H pQ [[49]] ∧ Paired (rTg K pQ H) ((a ++ .lst :: c).map Odd.get) vs
  | [], c, _, _, hc, .cons r t => by
    obtain ⟨p, rfl, l⟩ := r
    exact ⟨p, l, .cons (.inr rfl) (odd_conv hc t)⟩
  | x :: a, c, _, ha, hc, .cons r t => by
    rw [List.all_cons, Bool.and_eq_true] at ha
    obtain ⟨p, l, t'⟩ := odd_split' ha.2 hc t
    refine ⟨p, l, .cons ?_ t'⟩
    cases x with
    | txt s => exact r
    | nil => exact .inl r
    | lst => cases ha.1
theorem odd_split {p : Addr} (l : Lt (rTgE K) H p odds3) : ∃ pQ, Lt rX H pQ [[49]] ∧ Lt (rTg K pQ) H p odds := by
  obtain ⟨vs, hv, hp⟩ := l
  obtain ⟨pQ, l, h⟩ := odd_split' (a := [.nil, .nil, .nil, .nil]) (c := [.nil, .txt [], .txt [32], .txt [45], .txt [46], .txt [45, 32, 59, 32, 49], .txt [49, 32, 59, 32, 45], .txt [32, 59, 32], .txt [48]]) rfl rfl hp
  exact ⟨pQ, l, vs, hv, h⟩
theorem bag_ne {b p : Addr} (h : Bag H b) (l : Lt rX H p [[49]]) : b ≠ p := by
  rintro rfl
  obtain ⟨b0, b1, pr, c, ⟨vs, h1, h2⟩, _⟩ := h
  obtain ⟨ws, h3, h4⟩ := l
  rw [h1] at h3
  cases h3
  have := paired_len h2
  have := paired_len h4
  simp at *
  omega
def ThOk (o : Option (List Nat)) : Prop := ∀ s, o = some s → s.length ≤ 1000 ∧ ∀ c ∈ s, c < 128
theorem odd_all : ∀ o ∈ odds, ThOk o := by
  intro o ho s hs
  subst hs
  unfold odds at ho
  simp only [List.mem_cons, Option.some.injEq, List.not_mem_nil, or_false, reduceCtorEq, false_or] at ho
  rcases ho with rfl | rfl | rfl | rfl | rfl | rfl | rfl | rfl <;> exact ⟨by decide, by decide⟩
theorem odd_ok {i : Int} (h : 0 ≤ i ∧ i < 14) : ThOk (gt0 none odds i) := by
  unfold gt0
  cases e : odds[ixs odds.length i]? with
  | none => intro s hs; cases hs
  | some o => exact odd_all o (List.mem_of_getElem? e)
theorem th6 {a b c d : List Nat} {o x : Option (List Nat)} (h : x ∈ [some a, some b, some c, some d, o, some a]) (ha : a.length ≤ 40) (ha' : ∀ c ∈ a, c < 128) (hb : b.length ≤ 400) (hb' : ∀ c ∈ b, c < 128) (hc : c.length ≤ 1000) (hc' : ∀ x ∈ c, x < 128) (hd : d.length ≤ 1000) (hd' : ∀ c ∈ d, c < 128) (ho : ThOk o) : ThOk x := by
  have mk : ∀ {s : List Nat}, s.length ≤ 1000 → (∀ c ∈ s, c < 128) → ThOk (some s) := fun h1 h2 t e => by cases e; exact ⟨h1, h2⟩
  simp only [List.mem_cons, List.not_mem_nil, or_false] at h
  rcases h with rfl | rfl | rfl | rfl | rfl | rfl
  · exact mk (by omega) ha'
  · exact mk (by omega) hb'
  · exact mk hc hc'
  · exact mk hd hd'
  · exact ho
  · exact mk (by omega) ha'
def ref0 : List (Bool × Bool × Bool ⊕ Int) := [.inl (false, true, false)]
theorem gv__law_told {way : Int} {u : Unit} {s : List Nat} (hw : way = 0 ∨ way = 1) (hl : s.length ≤ 1000) : Gv (sp__law_told K) (Ac rI way (Ac (rBad K) u (Ac rX s A0))) (rL K (rTo K rI)) ref0 := gv_told_bad hw hl
end
section
variable {P : Program} {w : World} {K : PySem.W.Frag} {mg : Str → Option Value} {base : Heap}
def spLaw (K : PySem.W.Frag) : Sp := fun vs H Q _ => ∃ (a : Addr) (ns : List Int), vs = [.ref a] ∧ SqL K H a (ns.map V.int) ∧ ns.length ≤ 63 ∧ ∀ H', Q (.bl true) H'
theorem ok_law {f : Addr} {fd : FuncData} (F : Fun K "law" "law" s_law f fd) (n_range : mg "range" = none) (n_max : mg "max" = none) (D__law_bag : Df P w K mg base CX0 1 "_law_bag" ["_law_script", "_law_at"] (sp__law_bag K)) (n_min : mg "min" = none) (D__law_take : Df P w K mg base CX0 1 "_law_take" ["_law_bag_here", "_law_many"] (sp__law_take K)) (D__law_told : Df P w K mg base CX0 5 "_law_told" ["_law_way", "_law_p", "_law_thing"] (sp__law_told K)) (n_len : mg "len" = none) (D__law_poly_text : Df P w K mg base CX0 3 "_law_poly_text" ["_law_bag_here", "_law_p", "_law_most"] (sp__law_poly_text K)) (D__law_two_text : Df P w K mg base CX0 4 "_law_two_text" ["_law_bag_here", "_law_p"] (sp__law_two_text K)) (D__law_spoilt : Df P w K mg base CX0 2 "_law_spoilt" ["_law_bag_here", "_law_text"] (sp__law_spoilt K)) (D__law_good : Df P w K mg base CX0 6 "_law_good" ["_law_way", "_law_p", "_law_thing"] (sp__law_good K)) : FnOk P w K mg base CX0 7 f fd ["_law_script"] (spLaw K) := by
  refine F.ok sc_law (fun vs H Q E h => ?_) (fun cdv A outer s H vs Q E hr h => ?_)
  · obtain ⟨a, ns, rfl, _⟩ := h; rfl
  · obtain ⟨a, ns, rfl, hS, hlen, q⟩ := h
    refine ⟨_, (pss_cons (ps_for PassesOwn.never rfl (pi_range1 (by rfl) n_range (pa_cons (pe_callB (call_max2 rfl) (by rfl) n_max (by decide +kernel) (pa_cons pe_int (pa_cons (pe_callB (call_min2 rfl) (by rfl) n_min (by decide +kernel) (pa_cons pe_int (pa_cons (pe_callB (call_len_seqK K) (by rfl) n_len (by decide +kernel) (pa_cons (pv 0) pa_nil)) pa_nil))) pa_nil))) pa_nil)) (pg_name (i := 1) sc_law.nd rfl (Or.inl rfl))
 (pss_cons (ps_set (i := 2) sc_law.nd rfl (Or.inl rfl) (pe_call D__law_bag.ok (hr.mono (by omega)) (by rfl) D__law_bag.g D__law_bag.kp D__law_bag.b .nil pass0 (pa_cons (pv 0) (pa_cons (pv 1) pa_nil))))
 (pss_cons (ps_set (i := 3) sc_law.nd rfl (Or.inl rfl) (pe_ix (ix_listK K) (pe_lst (pa_cons pe_int (pa_cons pe_int (pa_cons pe_int pa_nil)))) (pe_call D__law_take.ok (hr.mono (by omega)) (by rfl) D__law_take.g D__law_take.kp D__law_take.b .nil pass0 (pa_cons (pv 2) (pa_cons pe_int pa_nil))) (fun _ _ => rfl)))
 (pss_cons (ps_for PassesOwn.never rfl (pi_range1 (by rfl) n_range (pa_cons pe_int pa_nil)) (pg_name (i := 4) sc_law.nd rfl (Or.inl rfl))
 (pss_cons (ps_par (i := 5) (j := 6) rfl sc_law.nd rfl rfl (by decide) rfl rfl (pa_cons (pe_call D__law_poly_text.ok (hr.mono (by omega)) (by rfl) D__law_poly_text.g D__law_poly_text.kp D__law_poly_text.b .nil pass0 (pa_cons (pv 2) (pa_cons (pv 3) (pa_cons pe_int pa_nil)))) (pa_cons (pe_call D__law_two_text.ok (hr.mono (by omega)) (by rfl) D__law_two_text.g D__law_two_text.kp D__law_two_text.b .nil pass0 (pa_cons (pv 2) (pa_cons (pv 3) pa_nil))) pa_nil)) (by rfl))
 (pss_cons (ps_set (i := 7) sc_law.nd rfl (Or.inl rfl) (pe_lst (pa_cons pe_non (pa_cons pe_int (pa_cons pe_bl (pa_cons (pe_tup pa_nil) (pa_cons (pe_lst (pa_cons pe_str pa_nil)) (pa_cons (pe_tup (pa_cons pe_str pa_nil)) (pa_cons pe_str (pa_cons pe_str (pa_cons pe_str (pa_cons pe_str (pa_cons pe_str (pa_cons pe_str (pa_cons pe_str (pa_cons pe_str pa_nil))))))))))))))))
 (pss_cons (ps_set (i := 7) sc_law.nd rfl (Or.inl rfl) (pe_ix (ix_listK K) (pv 7) (pe_call D__law_take.ok (hr.mono (by omega)) (by rfl) D__law_take.g D__law_take.kp D__law_take.b .nil pass0 (pa_cons (pv 2) (pa_cons pe_int pa_nil))) (fun _ _ => rfl)))
 (pss_one (ps_for PassesOwn.never rfl (pi_listK K (pe_lst (pa_cons (pv 5) (pa_cons (pv 6) (pa_cons (pe_call D__law_spoilt.ok (hr.mono (by omega)) (by rfl) D__law_spoilt.g D__law_spoilt.kp D__law_spoilt.b .nil pass0 (pa_cons (pv 2) (pa_cons (pv 5) pa_nil))) (pa_cons (pe_call D__law_spoilt.ok (hr.mono (by omega)) (by rfl) D__law_spoilt.g D__law_spoilt.kp D__law_spoilt.b .nil pass0 (pa_cons (pv 2) (pa_cons (pv 6) pa_nil))) (pa_cons (pv 7) (pa_cons (pv 5) pa_nil)))))))) (pg_name (i := 8) sc_law.nd rfl (Or.inl rfl))
 (pss_one (ps_if (PW.pt (pw_or (pt_not (pt_val (pe_call D__law_good.ok (hr.mono (by omega)) (by rfl) D__law_good.g D__law_good.kp D__law_good.b .nil pass0 (pa_cons pe_int (pa_cons (pv 3) (pa_cons (pv 8) pa_nil)))))) (pw_or1 (pt_not (pt_val (pe_call D__law_good.ok (hr.mono (by omega)) (by rfl) D__law_good.g D__law_good.kp D__law_good.b .nil pass0 (pa_cons pe_int (pa_cons (pv 3) (pa_cons (pv 8) pa_nil))))))))) (pss_one (ps_ret pe_bl)) pss_nil))))))))
 (pss_cons (ps_set (i := 9) sc_law.nd rfl (Or.inl rfl) (pe_ix (ix_listK K) (pe_lst (pa_cons pe_non (pa_cons pe_bl (pa_cons pe_int (pa_cons pe_int (pa_cons pe_int (pa_cons pe_str (pa_cons (pe_tup (pa_cons pe_int pa_nil)) (pa_cons (pe_un un_neg pe_int) (pa_cons pe_int pa_nil)))))))))) (pe_call D__law_take.ok (hr.mono (by omega)) (by rfl) D__law_take.g D__law_take.kp D__law_take.b .nil pass0 (pa_cons (pv 2) (pa_cons pe_int pa_nil))) (fun _ _ => rfl)))
 (pss_one (ps_if (pt_cmpR (op_neDK K hr.units) (pe_call D__law_told.ok (hr.mono (by omega)) (by rfl) D__law_told.g D__law_told.kp D__law_told.b .nil pass0 (pa_cons (pe_op op_mod (pv 4) pe_int) (pa_cons (pv 9) (pa_cons pe_str pa_nil)))) (pe_lst (pa_cons (pe_tup (pa_cons pe_str (pa_cons pe_bl (pa_cons pe_bl (pa_cons pe_bl pa_nil))))) pa_nil)) (nomark _)) (pss_one (ps_ret pe_bl)) pss_nil)))))))
 (pss_one (ps_ret pe_bl))), ?_⟩
    have F0 : Ex H H := Ex.refl H
    replace q : ∀ H', Ex H H' → Q (.bl true) H' := fun H' _ => q H'
    refine q_forR1 (er_mx2 er_int (er_mn2 er_int (er_lenL (er_var rfl (rl_of (Evl.ex_l F0 hS)))))) mm_b fun H1 e2 => ?_
    replace F0 := F0.trans e2
    have k3 : Kt K _ _ := Kt.refl H1
    refine fq_R (lo := 0) (hi := (mx2 ((3 : Int)) ((mn2 ((6 : Int)) ((ns.length : Int)))))) (by rw [Int.sub_zero]) (fun i σ' H' => ∃ (s1 : Unit) (j4 : Option V) (j5 : Option V) (j6 : Option V) (j7 : Option V) (j8 : Option V) (j9 : Option V) (j10 : Option V) (j11 : Option V) (j12 : Option V), True ∧ σ' = [some (.ref a), j4, j5, j6, j7, j8, j9, j10, j11, j12] ∧ Ex H H' ∧ Kt K H1 H') ?_ ?_ ?_
    · exact ⟨(), _, _, _, _, _, _, _, _, _, trivial, rfl, F0, k3⟩
    ·
      rintro i x1  _ H13 hi hx1 ⟨s1, j4, j5, j6, j7, j8, j9, j10, j11, j12, hs1, rfl, F0, k3⟩
      have hr1 := rng_at hx1
      refine q_asg0 ?_
      refine go_callA ?_
      refine go_cons ?_
      refine ⟨_, rfl, ?_⟩
      refine go_cons ?_
      refine ⟨_, rfl, ?_⟩
      refine go_nil ?_
      refine ⟨_, _, _, rfl, Evl.ex_l F0 hS, (by omega), (Int.lt_of_lt_of_le hr1.2.2 mm_b2), fun b16 H17 n18 e19 B20 => ?_⟩
      have n0b16 : H b16 = none := fresh_back F0 n18
      replace F0 := F0.trans e19
      replace k3 := k3.trans (Kt.ex e19)
      refine q_asg0 ?_
      refine go_opK ?_
      refine go_L (el_lst (R := rI) (eas er_int (eas er_int (eas er_int eas0))) (by first | decide | simp)) fun p23 H21 n24 e22 l25 => ?_
      have neb16p23 : b16 ≠ p23 := B20.ne n24
      have n0p23 : _ = none := fresh_back F0 n24
      replace B20 := Bag.ex B20 e22
      replace F0 := F0.trans e22
      replace k3 := k3.trans (Kt.ex e22)
      refine go_callA ?_
      refine go_cons ?_
      refine ⟨_, rfl, ?_⟩
      refine go_cons ?_
      refine go_I er_int fun H28 e29 => ?_
      replace B20 := Bag.ex B20 e29
      replace l25 := Lt.ex l25 e29
      replace F0 := F0.trans e29
      replace k3 := k3.trans (Kt.ex e29)
      refine go_nil ?_
      refine ⟨b16, _, rfl, B20, (by first | assumption | omega | (simp only [Bool.and_eq_true, Bool.or_eq_true, Bool.not_eq_true', Bool.and_eq_false_iff, Bool.or_eq_false_iff, Bool.not_eq_false', decide_eq_true_eq, decide_eq_false_iff_not, List.length_append, List.length_cons, List.length_nil, List.length_map, List.length_range, List.length_set, rng_len, enm_len, repL_len] at *; omega)), (by first | assumption | omega | (simp only [Bool.and_eq_true, Bool.or_eq_true, Bool.not_eq_true', Bool.and_eq_false_iff, Bool.or_eq_false_iff, Bool.not_eq_false', decide_eq_true_eq, decide_eq_false_iff_not, List.length_append, List.length_cons, List.length_nil, List.length_map, List.length_range, List.length_set, rng_len, enm_len, repL_len] at *; omega)), fun y32 H31 c33 B34 hqy32_0 => ?_⟩
      have kt35 : Kt K _ _ := Bag.kt B20 c33
      replace k3 := k3.trans kt35
      replace l25 := Lt.keep l25 kt35 c33 (by first | assumption | exact Ne.symm (by assumption))
      replace F0 := C1.ofNew F0 n0b16 c33
      replace B20 := B34
      refine go_I (er_ixL0 (0 : Int) (er_K (Lt.rl l25)) er_iK (by first | omega | assumption | (simp; omega) | (simp only [Bool.and_eq_true, Bool.or_eq_true, Bool.not_eq_true', Bool.and_eq_false_iff, Bool.or_eq_false_iff, Bool.not_eq_false', decide_eq_true_eq, decide_eq_false_iff_not, List.length_append, List.length_cons, List.length_nil, List.length_map, List.length_range, List.length_set, rng_len, enm_len, repL_len] at *; omega)) (by first | omega | assumption | (simp; omega) | (simp only [Bool.and_eq_true, Bool.or_eq_true, Bool.not_eq_true', Bool.and_eq_false_iff, Bool.or_eq_false_iff, Bool.not_eq_false', decide_eq_true_eq, decide_eq_false_iff_not, List.length_append, List.length_cons, List.length_nil, List.length_map, List.length_range, List.length_set, rng_len, enm_len, repL_len] at *; omega))) fun H37 e38 => ?_
      replace B20 := Bag.ex B20 e38
      replace l25 := Lt.ex l25 e38
      replace F0 := F0.trans e38
      replace k3 := k3.trans (Kt.ex e38)
      obtain ⟨lp, hlp, hP⟩ := pick3i (by assumption)
      rw [hlp]
      have hP5 := hP.le
      refine q_forR1 er_int (by first | omega | assumption) fun H39 e40 => ?_
      replace B20 := Bag.ex B20 e40
      replace F0 := F0.trans e40
      replace k3 := k3.trans (Kt.ex e40)
      have k41 : Kt K _ _ := Kt.refl H39
      refine fq_R (lo := 0) (hi := (6 : Int)) (by rw [Int.sub_zero]) (fun i σ' H' => ∃ (s2 : Unit) (j42 : Option V) (j43 : Option V) (j44 : Option V) (j45 : Option V) (j46 : Option V), True ∧ (0 < i → j42 = some (.int ((i : Int) - 1))) ∧ σ' = [some (.ref a), some (.int x1), some (.ref b16), some (.int lp), j42, j43, j44, j45, j46, j12] ∧ Ex H H' ∧ Kt K H39 H' ∧ Bag H' b16) ?_ ?_ ?_
      · exact ⟨(), _, _, _, _, _, trivial, (fun h => absurd h (by omega)), rfl, F0, k41, B20⟩
      ·
        rintro i x2  _ H47 hi hx2 ⟨s2, j42, j43, j44, j45, j46, hs2, hp2_0, rfl, F0, k41, B20⟩
        replace k3 := k3.trans k41
        have hr2 := rng_at hx2
        refine q_par0 ?_
        refine go_cons ?_
        refine go_callA ?_
        refine go_cons ?_
        refine ⟨_, rfl, ?_⟩
        refine go_cons ?_
        refine ⟨_, rfl, ?_⟩
        refine go_cons ?_
        refine go_I er_int fun H50 e51 => ?_
        replace B20 := Bag.ex B20 e51
        replace F0 := F0.trans e51
        replace k41 := k41.trans (Kt.ex e51)
        replace k3 := k3.trans (Kt.ex e51)
        refine go_nil ?_
        refine ⟨_, _, b16, rfl, B20, (by first | assumption | omega | (simp only [Bool.and_eq_true, Bool.or_eq_true, Bool.not_eq_true', Bool.and_eq_false_iff, Bool.or_eq_false_iff, Bool.not_eq_false', decide_eq_true_eq, decide_eq_false_iff_not, List.length_append, List.length_cons, List.length_nil, List.length_map, List.length_range, List.length_set, rng_len, enm_len, repL_len] at *; omega)), (by first | assumption | omega | (simp only [Bool.and_eq_true, Bool.or_eq_true, Bool.not_eq_true', Bool.and_eq_false_iff, Bool.or_eq_false_iff, Bool.not_eq_false', decide_eq_true_eq, decide_eq_false_iff_not, List.length_append, List.length_cons, List.length_nil, List.length_map, List.length_range, List.length_set, rng_len, enm_len, repL_len] at *; omega)), fun y54 H53 c55 B56 hqy54_0 hqy54_1 => ?_⟩
        have kt57 : Kt K _ _ := Bag.kt B20 c55
        replace k41 := k41.trans kt57
        replace k3 := k3.trans kt57
        replace F0 := C1.ofNew F0 n0b16 c55
        replace B20 := B56
        refine go_cons ?_
        refine go_callA ?_
        refine go_cons ?_
        refine ⟨_, rfl, ?_⟩
        refine go_cons ?_
        refine ⟨_, rfl, ?_⟩
        refine go_nil ?_
        refine ⟨_, b16, rfl, B20, (by first | assumption | omega | (simp only [Bool.and_eq_true, Bool.or_eq_true, Bool.not_eq_true', Bool.and_eq_false_iff, Bool.or_eq_false_iff, Bool.not_eq_false', decide_eq_true_eq, decide_eq_false_iff_not, List.length_append, List.length_cons, List.length_nil, List.length_map, List.length_range, List.length_set, rng_len, enm_len, repL_len] at *; omega)), fun y62 H61 c63 B64 hqy62_0 hqy62_1 => ?_⟩
        have kt65 : Kt K _ _ := Bag.kt B20 c63
        replace k41 := k41.trans kt65
        replace k3 := k3.trans kt65
        replace F0 := C1.ofNew F0 n0b16 c63
        replace B20 := B64
        refine go_nil ?_
        refine ⟨_, _, rfl, ?_⟩
        refine q_asgL (R := rTgE K) (el_lst (R := rTgE K) (xs := odds3) (eas (er_gN er_non) (eas (er_gI er_int) (eas (er_gB er_bl) (eas (er_gT (er_tup (R := rI) eas0 (by decide))) (eas (er_gL (el_lst (R := rX) (eas (er_xc [49]) eas0) (by decide))) (eas (er_gT (er_tup (R := rX) (eas (er_xc [49]) eas0) (by simp))) (eas (er_gS (er_xc [])) (eas (er_gS (er_xc [32])) (eas (er_gS (er_xc [45])) (eas (er_gS (er_xc [46])) (eas (er_gS (er_xc [45, 32, 59, 32, 49])) (eas (er_gS (er_xc [49, 32, 59, 32, 45])) (eas (er_gS (er_xc [32, 59, 32])) (eas (er_gS (er_xc [48])) eas0)))))))))))))) (by decide)) fun pO HO nO eO lO => ?_
        have neb16pO : b16 ≠ pO := B20.ne nO
        have n0pO : _ = none := fresh_back F0 nO
        replace B20 := Bag.ex B20 eO
        replace F0 := F0.trans eO
        replace k41 := k41.trans (Kt.ex eO)
        replace k3 := k3.trans (Kt.ex eO)
        obtain ⟨pQ, lQ, lO⟩ := odd_split lO
        have neQ := bag_ne B20 lQ
        refine q_asg0 ?_
        refine go_opK ?_
        refine ⟨_, rfl, ?_⟩
        refine go_callA ?_
        refine go_cons ?_
        refine ⟨_, rfl, ?_⟩
        refine go_cons ?_
        refine go_I er_int fun H69 e70 => ?_
        replace B20 := Bag.ex B20 e70
        replace lO := Lt.ex lO e70
        replace lQ := Lt.ex lQ e70
        replace F0 := F0.trans e70
        replace k41 := k41.trans (Kt.ex e70)
        replace k3 := k3.trans (Kt.ex e70)
        refine go_nil ?_
        refine ⟨b16, _, rfl, B20, (by first | assumption | omega | (simp only [Bool.and_eq_true, Bool.or_eq_true, Bool.not_eq_true', Bool.and_eq_false_iff, Bool.or_eq_false_iff, Bool.not_eq_false', decide_eq_true_eq, decide_eq_false_iff_not, List.length_append, List.length_cons, List.length_nil, List.length_map, List.length_range, List.length_set, rng_len, enm_len, repL_len] at *; omega)), (by first | assumption | omega | (simp only [Bool.and_eq_true, Bool.or_eq_true, Bool.not_eq_true', Bool.and_eq_false_iff, Bool.or_eq_false_iff, Bool.not_eq_false', decide_eq_true_eq, decide_eq_false_iff_not, List.length_append, List.length_cons, List.length_nil, List.length_map, List.length_range, List.length_set, rng_len, enm_len, repL_len] at *; omega)), fun y73 H72 c74 B75 hqy73_0 => ?_⟩
        have kt76 : Kt K _ _ := Bag.kt B20 c74
        replace k41 := k41.trans kt76
        replace k3 := k3.trans kt76
        replace lO := Lt.keep lO kt76 c74 (by first | assumption | exact Ne.symm (by assumption))
        replace lQ := Lt.keep lQ kt76 c74 (by first | assumption | exact Ne.symm (by assumption))
        replace F0 := C1.ofNew F0 n0b16 c74
        replace B20 := B75
        refine go_R (R := (rTg K pQ)) (er_ixL0 none (er_K (Lt.rl lO)) er_iK (by show -((14 : Nat) : Int) ≤ _; omega) (by show _ < ((14 : Nat) : Int); omega)) fun v80 H78 e79 f81 => ?_
        replace B20 := Bag.ex B20 e79
        replace lO := Lt.ex lO e79
        replace lQ := Lt.ex lQ e79
        replace F0 := F0.trans e79
        replace k41 := k41.trans (Kt.ex e79)
        replace k3 := k3.trans (Kt.ex e79)
        have hodd : ThOk ((gt0 none odds y73)) := odd_ok (by assumption)
        refine s_for0 ?_
        refine go_lstA ?_
        refine go_cons ?_
        refine ⟨_, rfl, ?_⟩
        refine go_cons ?_
        refine ⟨_, rfl, ?_⟩
        refine go_cons ?_
        refine go_callA ?_
        refine go_cons ?_
        refine ⟨_, rfl, ?_⟩
        refine go_cons ?_
        refine ⟨_, rfl, ?_⟩
        refine go_nil ?_
        refine ⟨_, b16, rfl, B20, (by first | assumption | omega | (simp only [Bool.and_eq_true, Bool.or_eq_true, Bool.not_eq_true', Bool.and_eq_false_iff, Bool.or_eq_false_iff, Bool.not_eq_false', decide_eq_true_eq, decide_eq_false_iff_not, List.length_append, List.length_cons, List.length_nil, List.length_map, List.length_range, List.length_set, rng_len, enm_len, repL_len] at *; omega)), (by first | assumption | omega | (simp only [Bool.and_eq_true, Bool.or_eq_true, Bool.not_eq_true', Bool.and_eq_false_iff, Bool.or_eq_false_iff, Bool.not_eq_false', decide_eq_true_eq, decide_eq_false_iff_not, List.length_append, List.length_cons, List.length_nil, List.length_map, List.length_range, List.length_set, rng_len, enm_len, repL_len] at *; omega)), fun y91 H90 c92 B93 hqy91_0 hqy91_1 => ?_⟩
        have kt94 : Kt K _ _ := Bag.kt B20 c92
        replace k41 := k41.trans kt94
        replace k3 := k3.trans kt94
        replace f81 := Mkt.kt kt94 f81
        replace lQ := Lt.keep lQ kt94 c92 (by first | assumption | exact Ne.symm (by assumption))
        replace F0 := C1.ofNew F0 n0b16 c92
        replace B20 := B93
        refine go_cons ?_
        refine go_callA ?_
        refine go_cons ?_
        refine ⟨_, rfl, ?_⟩
        refine go_cons ?_
        refine ⟨_, rfl, ?_⟩
        refine go_nil ?_
        refine ⟨_, b16, rfl, B20, (by first | assumption | omega | (simp only [Bool.and_eq_true, Bool.or_eq_true, Bool.not_eq_true', Bool.and_eq_false_iff, Bool.or_eq_false_iff, Bool.not_eq_false', decide_eq_true_eq, decide_eq_false_iff_not, List.length_append, List.length_cons, List.length_nil, List.length_map, List.length_range, List.length_set, rng_len, enm_len, repL_len] at *; omega)), (by first | assumption | omega | (simp only [Bool.and_eq_true, Bool.or_eq_true, Bool.not_eq_true', Bool.and_eq_false_iff, Bool.or_eq_false_iff, Bool.not_eq_false', decide_eq_true_eq, decide_eq_false_iff_not, List.length_append, List.length_cons, List.length_nil, List.length_map, List.length_range, List.length_set, rng_len, enm_len, repL_len] at *; omega)), fun y99 H98 c100 B101 hqy99_0 hqy99_1 => ?_⟩
        have kt102 : Kt K _ _ := Bag.kt B20 c100
        replace k41 := k41.trans kt102
        replace k3 := k3.trans kt102
        replace f81 := Mkt.kt kt102 f81
        replace lQ := Lt.keep lQ kt102 c100 (by first | assumption | exact Ne.symm (by assumption))
        replace F0 := C1.ofNew F0 n0b16 c100
        replace B20 := B101
        refine go_cons ?_
        refine ⟨_, rfl, ?_⟩
        refine go_cons ?_
        refine ⟨_, rfl, ?_⟩
        refine go_nil ?_
        refine go_L (el_lst (R := rTg K pQ) (eas (er_dS (K := K) (pQ := pQ) er_xK) (eas (er_dS (K := K) (pQ := pQ) er_xK) (eas (er_dS (K := K) (pQ := pQ) er_xK) (eas (er_dS (K := K) (pQ := pQ) er_xK) (eas (er_K f81) (eas (er_dS (K := K) (pQ := pQ) er_xK) eas0)))))) (by simp)) fun p108 H106 n109 e107 l110 => ?_
        have neb16p108 : b16 ≠ p108 := B20.ne n109
        have nepQp108 : pQ ≠ p108 := lQ.ne n109
        have n0p108 : _ = none := fresh_back F0 n109
        replace B20 := Bag.ex B20 e107
        replace f81 := Me.ex e107 f81
        replace lQ := Lt.ex lQ e107
        replace F0 := F0.trans e107
        replace k41 := k41.trans (Kt.ex e107)
        replace k3 := k3.trans (Kt.ex e107)
        refine ⟨_, rfl, ⟨_, SqL.of l110.choose_spec.1⟩, ?_⟩
        have k111 : Kt K _ _ := Kt.refl H106
        refine fl_L (v := .ref p108) (Lt.rl l110) (fun i σ' H' => ∃ (s3 : Unit) (j112 : Option V), s3 = () ∧ σ' = [some (.ref a), some (.int x1), some (.ref b16), some (.int lp), some (.int x2), some (.str (S y54)), some (.str (S y62)), some v80, j112, j12] ∧ Ex H H' ∧ Kt K H106 H' ∧ Lt rX H' pQ (([[49]] : List (List Nat))) ∧ Lt (rTg K pQ) H' p108 (([some y54, some y62, some y91, some y99, (gt0 none odds y73), some y54] : List (Option (List Nat)))) ∧ Bag H' b16) ?_ ?_ ?_ ?_ _ rfl
        · exact ⟨(), _, rfl, rfl, F0, k111, lQ, l110, B20⟩
        · intro i σ' H' hi h; obtain ⟨s3, j112, hs3, rfl, F0, k111, lQ, l110, B20⟩ := h; exact Lt.rl l110
        ·
          rintro i x3 v114 _ H113 hi hx3 ⟨s3, j112, hs3, rfl, F0, k111, lQ, l110, B20⟩ r115
          replace f81 := Mkt.kt k111 f81
          replace k41 := k41.trans k111
          replace k3 := k3.trans k111
          have rr115D : rTgL K pQ _ _ _ := ⟨r115, fun _ => lQ⟩
          have hth : ThOk x3 := th6 (List.mem_of_getElem? hx3) (by assumption) (by assumption) (by assumption) (by assumption) (by assumption) (by assumption) (by assumption) (by assumption) hodd
          refine s_not (et_or (et_not (et_b (er_call (eac er_int (eac er_iv (eac (er_var rfl rr115D) ea0))) (gv__law_good (.inl rfl) hP hth)))) fun hc116 => (et_not (et_b (er_call (eac er_int (eac er_iv (eac (er_var rfl rr115D) ea0))) (gv__law_good (.inr rfl) hP hth))))) rfl fun H117 e118 => ?_
          replace B20 := Bag.ex B20 e118
          replace f81 := Me.ex e118 f81
          replace rr115D := Me.ex e118 rr115D
          replace lQ := Lt.ex lQ e118
          replace l110 := Lt.ex l110 e118
          replace F0 := F0.trans e118
          replace k111 := k111.trans (Kt.ex e118)
          replace k41 := k41.trans (Kt.ex e118)
          replace k3 := k3.trans (Kt.ex e118)
          exact ⟨(), _, rfl, rfl, F0, k111, lQ, l110, B20⟩
        rintro _ H119 ⟨s3, j112, hs3, rfl, F0, k111, lQ, l110, B20⟩
        replace f81 := Mkt.kt k111 f81
        replace k41 := k41.trans k111
        replace k3 := k3.trans k111
        exact ⟨(), _, _, _, _, _, trivial, (fun _ => last_at hr2), rfl, F0, k41, B20⟩
      rintro _ H120 ⟨s2, j42, j43, j44, j45, j46, hs2, hp2_0, rfl, F0, k41, B20⟩
      replace k3 := k3.trans k41
      have hj2 : j42 = _ := hp2_0 (by decide)
      subst hj2
      refine q_asg0 ?_
      refine go_opK ?_
      refine go_L (el_lst (R := rBad K) (xs := [(), (), (), (), (), (), (), (), ()]) (eas (er_badN er_non) (eas (er_badB (er_bl (k := true))) (eas (er_badI (er_int (k := (1 : Int)))) (eas (er_badI (er_int (k := (4 : Int)))) (eas (er_badI (er_int (k := (7 : Int)))) (eas (er_badS (er_str (k := ("2" : Str)))) (eas (er_badT (er_tup (eas er_int eas0) (by first | decide | simp))) (eas (er_badI (er_neg (er_int (k := 2)))) (eas (er_badI (er_int (k := (0 : Int)))) eas0))))))))) (by decide)) fun p123 H121 n124 e122 l125 => ?_
      have neb16p123 : b16 ≠ p123 := B20.ne n124
      have n0p123 : _ = none := fresh_back F0 n124
      replace B20 := Bag.ex B20 e122
      replace F0 := F0.trans e122
      replace k3 := k3.trans (Kt.ex e122)
      refine go_callA ?_
      refine go_cons ?_
      refine ⟨_, rfl, ?_⟩
      refine go_cons ?_
      refine go_I er_int fun H128 e129 => ?_
      replace B20 := Bag.ex B20 e129
      replace l125 := Lt.ex l125 e129
      replace F0 := F0.trans e129
      replace k3 := k3.trans (Kt.ex e129)
      refine go_nil ?_
      refine ⟨b16, _, rfl, B20, (by first | assumption | omega | (simp only [Bool.and_eq_true, Bool.or_eq_true, Bool.not_eq_true', Bool.and_eq_false_iff, Bool.or_eq_false_iff, Bool.not_eq_false', decide_eq_true_eq, decide_eq_false_iff_not, List.length_append, List.length_cons, List.length_nil, List.length_map, List.length_range, List.length_set, rng_len, enm_len, repL_len] at *; omega)), (by first | assumption | omega | (simp only [Bool.and_eq_true, Bool.or_eq_true, Bool.not_eq_true', Bool.and_eq_false_iff, Bool.or_eq_false_iff, Bool.not_eq_false', decide_eq_true_eq, decide_eq_false_iff_not, List.length_append, List.length_cons, List.length_nil, List.length_map, List.length_range, List.length_set, rng_len, enm_len, repL_len] at *; omega)), fun y132 H131 c133 B134 hqy132_0 => ?_⟩
      have kt135 : Kt K _ _ := Bag.kt B20 c133
      replace k3 := k3.trans kt135
      replace l125 := Lt.keep l125 kt135 c133 (by first | assumption | exact Ne.symm (by assumption))
      replace F0 := C1.ofNew F0 n0b16 c133
      replace B20 := B134
      refine go_R (R := (rBad K)) (er_ixL0 () (er_K (Lt.rl l125)) er_iK (by first | omega | assumption | (simp; omega) | (simp only [Bool.and_eq_true, Bool.or_eq_true, Bool.not_eq_true', Bool.and_eq_false_iff, Bool.or_eq_false_iff, Bool.not_eq_false', decide_eq_true_eq, decide_eq_false_iff_not, List.length_append, List.length_cons, List.length_nil, List.length_map, List.length_range, List.length_set, rng_len, enm_len, repL_len] at *; omega)) (by first | omega | assumption | (simp; omega) | (simp only [Bool.and_eq_true, Bool.or_eq_true, Bool.not_eq_true', Bool.and_eq_false_iff, Bool.or_eq_false_iff, Bool.not_eq_false', decide_eq_true_eq, decide_eq_false_iff_not, List.length_append, List.length_cons, List.length_nil, List.length_map, List.length_range, List.length_set, rng_len, enm_len, repL_len] at *; omega))) fun v139 H137 e138 f140 => ?_
      replace B20 := Bag.ex B20 e138
      replace l125 := Lt.ex l125 e138
      replace F0 := F0.trans e138
      replace k3 := k3.trans (Kt.ex e138)
      refine s_not (et_t (er_neD (K := K) (er_call (eac (er_op er_iv er_int (by omega)) (eac (er_var rfl f140) (eac (er_xc [120]) ea0))) (gv__law_told (.inr rfl) (by decide))) (El.er (K := K) (el_lst (R := rTo K rI) (eas (er_rf er_bl er_bl er_bl) eas0) (by simp))))) rfl fun H141 e142 => ?_
      replace B20 := Bag.ex B20 e142
      replace f140 := Me.ex e142 f140
      replace F0 := F0.trans e142
      replace k3 := k3.trans (Kt.ex e142)
      exact ⟨(), _, _, _, _, _, _, _, _, _, trivial, rfl, F0, k3⟩
    rintro _ H143 ⟨s1, j4, j5, j6, j7, j8, j9, j10, j11, j12, hs1, rfl, F0, k3⟩
    refine s_ret (R := rB) er_bl fun v H' e r => ?_
    cases r
    have z := q _ (F0.trans e)
    exact z

end
theorem all_mk {l : PySem.W.OpenLaw} {w : World} {K : PySem.W.Frag} {h : Heap} {mg : Str → Option Value} {fa f0 f1 f2 f3 f4 f5 f6 f7 f8 f9 f10 f11 f12 f13 f14 f15 f16 f17 : Addr} (X : K.In h) (G : h.Ns mainGlobals mg) (hfa : mg "law" = some (.ref fa))
    {od0 an0 : Option Addr} {sl0 : Array (Option Value)} {oc0 kV0 dc0 pm0 cd0 ct0 : Value}
    {od1 an1 : Option Addr} {sl1 : Array (Option Value)} {oc1 kV1 dc1 pm1 cd1 ct1 : Value}
    {od2 an2 : Option Addr} {sl2 : Array (Option Value)} {oc2 kV2 dc2 pm2 cd2 ct2 : Value}
    {od3 an3 : Option Addr} {sl3 : Array (Option Value)} {oc3 kV3 dc3 pm3 cd3 ct3 : Value}
    {od4 an4 : Option Addr} {sl4 : Array (Option Value)} {oc4 kV4 dc4 pm4 cd4 ct4 : Value}
    {od5 an5 : Option Addr} {sl5 : Array (Option Value)} {oc5 kV5 dc5 pm5 cd5 ct5 : Value}
    {od6 an6 : Option Addr} {sl6 : Array (Option Value)} {oc6 kV6 dc6 pm6 cd6 ct6 : Value}
    {od7 an7 : Option Addr} {sl7 : Array (Option Value)} {oc7 kV7 dc7 pm7 cd7 ct7 : Value}
    {od8 an8 : Option Addr} {sl8 : Array (Option Value)} {oc8 kV8 dc8 pm8 cd8 ct8 : Value}
    {od9 an9 : Option Addr} {sl9 : Array (Option Value)} {oc9 kV9 dc9 pm9 cd9 ct9 : Value}
    {od10 an10 : Option Addr} {sl10 : Array (Option Value)} {oc10 kV10 dc10 pm10 cd10 ct10 : Value}
    {od11 an11 : Option Addr} {sl11 : Array (Option Value)} {oc11 kV11 dc11 pm11 cd11 ct11 : Value}
    {od12 an12 : Option Addr} {sl12 : Array (Option Value)} {oc12 kV12 dc12 pm12 cd12 ct12 : Value}
    {od13 an13 : Option Addr} {sl13 : Array (Option Value)} {oc13 kV13 dc13 pm13 cd13 ct13 : Value}
    {od14 an14 : Option Addr} {sl14 : Array (Option Value)} {oc14 kV14 dc14 pm14 cd14 ct14 : Value}
    {od15 an15 : Option Addr} {sl15 : Array (Option Value)} {oc15 kV15 dc15 pm15 cd15 ct15 : Value}
    {od16 an16 : Option Addr} {sl16 : Array (Option Value)} {oc16 kV16 dc16 pm16 cd16 ct16 : Value}
    {od17 an17 : Option Addr} {sl17 : Array (Option Value)} {oc17 kV17 dc17 pm17 cd17 ct17 : Value}
    {a_PRIMES : Addr} {dd_PRIMES : Option Addr} {cn_PRIMES : Nat} {cs_PRIMES : Array (Option Value)} {tkPRIMES0 tkPRIMES1 tkPRIMES2 : Tok}
    {tkFIGURES : Tok}
    {tkMOST_NUMBERS : Tok}
    {tkMOST_POLYS : Tok}
    {tkMOST_OF_TWO : Tok}
    {C_DigitError : Addr}
    {C_NoPrime : Addr}
    {C_NoText : Addr}
    {C_NoMatch : Addr}
    {C_NoName : Addr}
    {C_NoOver : Addr}
    {C_NoRoot : Addr}
    {C_NoRow : Addr}
    {C_NoSaying : Addr}
    {C_TooGreat : Addr}
    {C_TooMany : Addr}
    (a0 : PySem.W.nsIn K mainGlobals "is_whole" = some (some (.ref f0)))
    (l0 : K.lookup f0 = some ⟨oc0, od0, .func (PySem.W.fnOf "is_whole" "is_whole" (defArgs s_is_whole) (defBody s_is_whole) (defScope s_is_whole) .none kV0 dc0 pm0 an0 cd0 ct0), sl0⟩)
    (c0 : PySem.W.codeIn K cd0 "is_whole" = true)
    (k0 : PySem.W.keepIn K (.ref f0) = true)
    (a1 : PySem.W.nsIn K mainGlobals "is_prime" = some (some (.ref f1)))
    (l1 : K.lookup f1 = some ⟨oc1, od1, .func (PySem.W.fnOf "is_prime" "is_prime" (defArgs s_is_prime) (defBody s_is_prime) (defScope s_is_prime) .none kV1 dc1 pm1 an1 cd1 ct1), sl1⟩)
    (c1 : PySem.W.codeIn K cd1 "is_prime" = true)
    (k1 : PySem.W.keepIn K (.ref f1) = true)
    (a2 : PySem.W.nsIn K mainGlobals "look_prime" = some (some (.ref f2)))
    (l2 : K.lookup f2 = some ⟨oc2, od2, .func (PySem.W.fnOf "look_prime" "look_prime" (defArgs s_look_prime) (defBody s_look_prime) (defScope s_look_prime) .none kV2 dc2 pm2 an2 cd2 ct2), sl2⟩)
    (c2 : PySem.W.codeIn K cd2 "look_prime" = true)
    (k2 : PySem.W.keepIn K (.ref f2) = true)
    (a3 : PySem.W.nsIn K mainGlobals "poly_in" = some (some (.ref f3)))
    (l3 : K.lookup f3 = some ⟨oc3, od3, .func (PySem.W.fnOf "poly_in" "poly_in" (defArgs s_poly_in) (defBody s_poly_in) (defScope s_poly_in) .none kV3 dc3 pm3 an3 cd3 ct3), sl3⟩)
    (c3 : PySem.W.codeIn K cd3 "poly_in" = true)
    (k3 : PySem.W.keepIn K (.ref f3) = true)
    (a4 : PySem.W.nsIn K mainGlobals "two_in" = some (some (.ref f4)))
    (l4 : K.lookup f4 = some ⟨oc4, od4, .func (PySem.W.fnOf "two_in" "two_in" (defArgs s_two_in) (defBody s_two_in) (defScope s_two_in) .none kV4 dc4 pm4 an4 cd4 ct4), sl4⟩)
    (c4 : PySem.W.codeIn K cd4 "two_in" = true)
    (k4 : PySem.W.keepIn K (.ref f4) = true)
    (a5 : PySem.W.nsIn K mainGlobals "read_poly" = some (some (.ref f5)))
    (l5 : K.lookup f5 = some ⟨oc5, od5, .func (PySem.W.fnOf "read_poly" "read_poly" (defArgs s_read_poly) (defBody s_read_poly) (defScope s_read_poly) .none kV5 dc5 pm5 an5 cd5 ct5), sl5⟩)
    (c5 : PySem.W.codeIn K cd5 "read_poly" = true)
    (k5 : PySem.W.keepIn K (.ref f5) = true)
    (a6 : PySem.W.nsIn K mainGlobals "read_two" = some (some (.ref f6)))
    (l6 : K.lookup f6 = some ⟨oc6, od6, .func (PySem.W.fnOf "read_two" "read_two" (defArgs s_read_two) (defBody s_read_two) (defScope s_read_two) .none kV6 dc6 pm6 an6 cd6 ct6), sl6⟩)
    (c6 : PySem.W.codeIn K cd6 "read_two" = true)
    (k6 : PySem.W.keepIn K (.ref f6) = true)
    (a7 : PySem.W.nsIn K mainGlobals "_law_bag" = some (some (.ref f7)))
    (l7 : K.lookup f7 = some ⟨oc7, od7, .func (PySem.W.fnOf "_law_bag" "_law_bag" (defArgs s__law_bag) (defBody s__law_bag) (defScope s__law_bag) .none kV7 dc7 pm7 an7 cd7 ct7), sl7⟩)
    (c7 : PySem.W.codeIn K cd7 "_law_bag" = true)
    (k7 : PySem.W.keepIn K (.ref f7) = true)
    (a8 : PySem.W.nsIn K mainGlobals "_law_take" = some (some (.ref f8)))
    (l8 : K.lookup f8 = some ⟨oc8, od8, .func (PySem.W.fnOf "_law_take" "_law_take" (defArgs s__law_take) (defBody s__law_take) (defScope s__law_take) .none kV8 dc8 pm8 an8 cd8 ct8), sl8⟩)
    (c8 : PySem.W.codeIn K cd8 "_law_take" = true)
    (k8 : PySem.W.keepIn K (.ref f8) = true)
    (a9 : PySem.W.nsIn K mainGlobals "_law_numbers" = some (some (.ref f9)))
    (l9 : K.lookup f9 = some ⟨oc9, od9, .func (PySem.W.fnOf "_law_numbers" "_law_numbers" (defArgs s__law_numbers) (defBody s__law_numbers) (defScope s__law_numbers) .none kV9 dc9 pm9 an9 cd9 ct9), sl9⟩)
    (c9 : PySem.W.codeIn K cd9 "_law_numbers" = true)
    (k9 : PySem.W.keepIn K (.ref f9) = true)
    (a10 : PySem.W.nsIn K mainGlobals "_law_poly_text" = some (some (.ref f10)))
    (l10 : K.lookup f10 = some ⟨oc10, od10, .func (PySem.W.fnOf "_law_poly_text" "_law_poly_text" (defArgs s__law_poly_text) (defBody s__law_poly_text) (defScope s__law_poly_text) .none kV10 dc10 pm10 an10 cd10 ct10), sl10⟩)
    (c10 : PySem.W.codeIn K cd10 "_law_poly_text" = true)
    (k10 : PySem.W.keepIn K (.ref f10) = true)
    (a11 : PySem.W.nsIn K mainGlobals "_law_two_text" = some (some (.ref f11)))
    (l11 : K.lookup f11 = some ⟨oc11, od11, .func (PySem.W.fnOf "_law_two_text" "_law_two_text" (defArgs s__law_two_text) (defBody s__law_two_text) (defScope s__law_two_text) .none kV11 dc11 pm11 an11 cd11 ct11), sl11⟩)
    (c11 : PySem.W.codeIn K cd11 "_law_two_text" = true)
    (k11 : PySem.W.keepIn K (.ref f11) = true)
    (a12 : PySem.W.nsIn K mainGlobals "_law_spoilt" = some (some (.ref f12)))
    (l12 : K.lookup f12 = some ⟨oc12, od12, .func (PySem.W.fnOf "_law_spoilt" "_law_spoilt" (defArgs s__law_spoilt) (defBody s__law_spoilt) (defScope s__law_spoilt) .none kV12 dc12 pm12 an12 cd12 ct12), sl12⟩)
    (c12 : PySem.W.codeIn K cd12 "_law_spoilt" = true)
    (k12 : PySem.W.keepIn K (.ref f12) = true)
    (a13 : PySem.W.nsIn K mainGlobals "_law_poly_due" = some (some (.ref f13)))
    (l13 : K.lookup f13 = some ⟨oc13, od13, .func (PySem.W.fnOf "_law_poly_due" "_law_poly_due" (defArgs s__law_poly_due) (defBody s__law_poly_due) (defScope s__law_poly_due) .none kV13 dc13 pm13 an13 cd13 ct13), sl13⟩)
    (c13 : PySem.W.codeIn K cd13 "_law_poly_due" = true)
    (k13 : PySem.W.keepIn K (.ref f13) = true)
    (a14 : PySem.W.nsIn K mainGlobals "_law_two_due" = some (some (.ref f14)))
    (l14 : K.lookup f14 = some ⟨oc14, od14, .func (PySem.W.fnOf "_law_two_due" "_law_two_due" (defArgs s__law_two_due) (defBody s__law_two_due) (defScope s__law_two_due) .none kV14 dc14 pm14 an14 cd14 ct14), sl14⟩)
    (c14 : PySem.W.codeIn K cd14 "_law_two_due" = true)
    (k14 : PySem.W.keepIn K (.ref f14) = true)
    (a15 : PySem.W.nsIn K mainGlobals "_law_told" = some (some (.ref f15)))
    (l15 : K.lookup f15 = some ⟨oc15, od15, .func (PySem.W.fnOf "_law_told" "_law_told" (defArgs s__law_told) (defBody s__law_told) (defScope s__law_told) .none kV15 dc15 pm15 an15 cd15 ct15), sl15⟩)
    (c15 : PySem.W.codeIn K cd15 "_law_told" = true)
    (k15 : PySem.W.keepIn K (.ref f15) = true)
    (a16 : PySem.W.nsIn K mainGlobals "_law_good" = some (some (.ref f16)))
    (l16 : K.lookup f16 = some ⟨oc16, od16, .func (PySem.W.fnOf "_law_good" "_law_good" (defArgs s__law_good) (defBody s__law_good) (defScope s__law_good) .none kV16 dc16 pm16 an16 cd16 ct16), sl16⟩)
    (c16 : PySem.W.codeIn K cd16 "_law_good" = true)
    (k16 : PySem.W.keepIn K (.ref f16) = true)
    (a17 : PySem.W.nsIn K mainGlobals "law" = some (some (.ref f17)))
    (l17 : K.lookup f17 = some ⟨oc17, od17, .func (PySem.W.fnOf "law" "law" (defArgs s_law) (defBody s_law) (defScope s_law) .none kV17 dc17 pm17 an17 cd17 ct17), sl17⟩)
    (c17 : PySem.W.codeIn K cd17 "law" = true)
    (k17 : PySem.W.keepIn K (.ref f17) = true)
    (n_isinstance : PySem.W.nsIn K mainGlobals "isinstance" = some none)
    (n_int : PySem.W.nsIn K mainGlobals "int" = some none)
    (n_bool : PySem.W.nsIn K mainGlobals "bool" = some none)
    (n_len : PySem.W.nsIn K mainGlobals "len" = some none)
    (n_range : PySem.W.nsIn K mainGlobals "range" = some none)
    (n_abs : PySem.W.nsIn K mainGlobals "abs" = some none)
    (n_max : PySem.W.nsIn K mainGlobals "max" = some none)
    (n_min : PySem.W.nsIn K mainGlobals "min" = some none)
    (n_tuple : PySem.W.nsIn K mainGlobals "tuple" = some none)
    (n_str : PySem.W.nsIn K mainGlobals "str" = some none)
    (n_all : PySem.W.nsIn K mainGlobals "all" = some none)
    (n_ValueError : PySem.W.nsIn K mainGlobals "ValueError" = some none)
    (ca_PRIMES : PySem.W.nsIn K mainGlobals "PRIMES" = some (some (.ref a_PRIMES)))
    (cl_PRIMES : K.lookup a_PRIMES = some ⟨.type "tuple", dd_PRIMES, .seq #[.int 2 tkPRIMES0, .int 3 tkPRIMES1, .int 5 tkPRIMES2] cn_PRIMES, cs_PRIMES⟩)
    (ca_FIGURES : PySem.W.nsIn K mainGlobals "FIGURES" = some (some (.str "01234" tkFIGURES)))
    (ca_MOST_NUMBERS : PySem.W.nsIn K mainGlobals "MOST_NUMBERS" = some (some (.int 12 tkMOST_NUMBERS)))
    (ca_MOST_POLYS : PySem.W.nsIn K mainGlobals "MOST_POLYS" = some (some (.int 7 tkMOST_POLYS)))
    (ca_MOST_OF_TWO : PySem.W.nsIn K mainGlobals "MOST_OF_TWO" = some (some (.int 4 tkMOST_OF_TWO)))
    (xa_DigitError : PySem.W.nsIn K mainGlobals "DigitError" = some (some (.ref C_DigitError)))
    (xa_NoPrime : PySem.W.nsIn K mainGlobals "NoPrime" = some (some (.ref C_NoPrime)))
    (xk_NoPrime : PySem.W.keepIn K (.ref C_NoPrime) = true)
    (xx_NoPrime : PySem.W.excIn K C_NoPrime [.type "ValueError", .type "Exception", .type "BaseException", .type "object"] "ValueError.__new__" = true)
    (xs_NoPrime : PySem.W.subIn K (.ref C_NoPrime) (.type "BaseException") = some true)
    (xt_NoPrime : PySem.W.typeIn K (.ref C_NoPrime) = some (.type "type"))
    (xa_NoText : PySem.W.nsIn K mainGlobals "NoText" = some (some (.ref C_NoText)))
    (xk_NoText : PySem.W.keepIn K (.ref C_NoText) = true)
    (xx_NoText : PySem.W.excIn K C_NoText [.type "ValueError", .type "Exception", .type "BaseException", .type "object"] "ValueError.__new__" = true)
    (xs_NoText : PySem.W.subIn K (.ref C_NoText) (.type "BaseException") = some true)
    (xt_NoText : PySem.W.typeIn K (.ref C_NoText) = some (.type "type"))
    (xa_NoMatch : PySem.W.nsIn K mainGlobals "NoMatch" = some (some (.ref C_NoMatch)))
    (xa_NoName : PySem.W.nsIn K mainGlobals "NoName" = some (some (.ref C_NoName)))
    (xa_NoOver : PySem.W.nsIn K mainGlobals "NoOver" = some (some (.ref C_NoOver)))
    (xa_NoRoot : PySem.W.nsIn K mainGlobals "NoRoot" = some (some (.ref C_NoRoot)))
    (xa_NoRow : PySem.W.nsIn K mainGlobals "NoRow" = some (some (.ref C_NoRow)))
    (xa_NoSaying : PySem.W.nsIn K mainGlobals "NoSaying" = some (some (.ref C_NoSaying)))
    (xa_TooGreat : PySem.W.nsIn K mainGlobals "TooGreat" = some (some (.ref C_TooGreat)))
    (xa_TooMany : PySem.W.nsIn K mainGlobals "TooMany" = some (some (.ref C_TooMany)))
    (ic_NoPrime : PySem.W.isClsIn K C_NoPrime = true)
    (it_NoPrime : PySem.W.typeIn K (.ref C_NoPrime) = some (.type "type"))
    (ic_NoMatch : PySem.W.isClsIn K C_NoMatch = true)
    (it_NoMatch : PySem.W.typeIn K (.ref C_NoMatch) = some (.type "type"))
    (ic_NoOver : PySem.W.isClsIn K C_NoOver = true)
    (it_NoOver : PySem.W.typeIn K (.ref C_NoOver) = some (.type "type"))
    (ic_NoRoot : PySem.W.isClsIn K C_NoRoot = true)
    (it_NoRoot : PySem.W.typeIn K (.ref C_NoRoot) = some (.type "type"))
    (ic_TooGreat : PySem.W.isClsIn K C_TooGreat = true)
    (it_TooGreat : PySem.W.typeIn K (.ref C_TooGreat) = some (.type "type"))
    (ic_NoRow : PySem.W.isClsIn K C_NoRow = true)
    (it_NoRow : PySem.W.typeIn K (.ref C_NoRow) = some (.type "type"))
    (ic_TooMany : PySem.W.isClsIn K C_TooMany = true)
    (it_TooMany : PySem.W.typeIn K (.ref C_TooMany) = some (.type "type"))
    (ic_NoText : PySem.W.isClsIn K C_NoText = true)
    (it_NoText : PySem.W.typeIn K (.ref C_NoText) = some (.type "type"))
    (ic_NoName : PySem.W.isClsIn K C_NoName = true)
    (it_NoName : PySem.W.typeIn K (.ref C_NoName) = some (.type "type"))
    (ic_NoSaying : PySem.W.isClsIn K C_NoSaying = true)
    (it_NoSaying : PySem.W.typeIn K (.ref C_NoSaying) = some (.type "type"))
    (ic_DigitError : PySem.W.isClsIn K C_DigitError = true)
    (it_DigitError : PySem.W.typeIn K (.ref C_DigitError) = some (.type "type"))
    (q1_NoText : PySem.W.subIn K (.ref C_DigitError) (.type "BaseException") = some true)
    (q2_NoText : PySem.W.hasDictIn K C_DigitError = true)
    (q5_NoText : PySem.W.subIn K (.ref C_NoText) (.type "ValueError") = some true)
    (g1_NoText : PySem.W.findIn K (.ref C_NoText) "__getattribute__" = some (some (.builtin "BaseException.__getattribute__")))
    (g2_NoText : PySem.W.findIn K (.ref C_NoText) "__getattr__" = some none)
    (g3_NoText : PySem.W.hasDictIn K C_NoText = true)
    (g4_NoText : PySem.W.findIn K (.ref C_NoText) "__class__" = some (some (.builtin "object.__class__")))
    (g5_NoText : PySem.W.specialIn K (.builtin "object.__class__") "__get__" = some (some (.builtin "getset_descriptor.__get__")))
    (g6_NoText : PySem.W.takesIn K (.builtin "object.__class__") = some true)
    (g7_NoText : PySem.W.mroIn K C_NoText (.type "object") = some true)
    (sb_NoText_NoPrime : PySem.W.subIn K (.ref C_NoText) (.ref C_NoPrime) = some false)
    (ne_NoText_NoPrime : C_NoText ≠ C_NoPrime)
    (sb_NoText_NoMatch : PySem.W.subIn K (.ref C_NoText) (.ref C_NoMatch) = some false)
    (ne_NoText_NoMatch : C_NoText ≠ C_NoMatch)
    (sb_NoText_NoOver : PySem.W.subIn K (.ref C_NoText) (.ref C_NoOver) = some false)
    (ne_NoText_NoOver : C_NoText ≠ C_NoOver)
    (sb_NoText_NoRoot : PySem.W.subIn K (.ref C_NoText) (.ref C_NoRoot) = some false)
    (ne_NoText_NoRoot : C_NoText ≠ C_NoRoot)
    (sb_NoText_TooGreat : PySem.W.subIn K (.ref C_NoText) (.ref C_TooGreat) = some false)
    (ne_NoText_TooGreat : C_NoText ≠ C_TooGreat)
    (sb_NoText_NoRow : PySem.W.subIn K (.ref C_NoText) (.ref C_NoRow) = some false)
    (ne_NoText_NoRow : C_NoText ≠ C_NoRow)
    (sb_NoText_TooMany : PySem.W.subIn K (.ref C_NoText) (.ref C_TooMany) = some false)
    (ne_NoText_TooMany : C_NoText ≠ C_TooMany)
    (sb_NoText_NoName : PySem.W.subIn K (.ref C_NoText) (.ref C_NoName) = some false)
    (ne_NoText_NoName : C_NoText ≠ C_NoName)
    (sb_NoText_NoSaying : PySem.W.subIn K (.ref C_NoText) (.ref C_NoSaying) = some false)
    (ne_NoText_NoSaying : C_NoText ≠ C_NoSaying)
    (sb_NoText_DigitError : PySem.W.subIn K (.ref C_NoText) (.ref C_DigitError) = some true)
    (ne_NoText_DigitError : C_NoText ≠ C_DigitError)
    (q1_NoPrime : PySem.W.subIn K (.ref C_DigitError) (.type "BaseException") = some true)
    (q2_NoPrime : PySem.W.hasDictIn K C_DigitError = true)
    (q5_NoPrime : PySem.W.subIn K (.ref C_NoPrime) (.type "ValueError") = some true)
    (g1_NoPrime : PySem.W.findIn K (.ref C_NoPrime) "__getattribute__" = some (some (.builtin "BaseException.__getattribute__")))
    (g2_NoPrime : PySem.W.findIn K (.ref C_NoPrime) "__getattr__" = some none)
    (g3_NoPrime : PySem.W.hasDictIn K C_NoPrime = true)
    (g4_NoPrime : PySem.W.findIn K (.ref C_NoPrime) "__class__" = some (some (.builtin "object.__class__")))
    (g5_NoPrime : PySem.W.specialIn K (.builtin "object.__class__") "__get__" = some (some (.builtin "getset_descriptor.__get__")))
    (g6_NoPrime : PySem.W.takesIn K (.builtin "object.__class__") = some true)
    (g7_NoPrime : PySem.W.mroIn K C_NoPrime (.type "object") = some true)
    (sb_NoPrime_NoMatch : PySem.W.subIn K (.ref C_NoPrime) (.ref C_NoMatch) = some false)
    (ne_NoPrime_NoMatch : C_NoPrime ≠ C_NoMatch)
    (sb_NoPrime_NoOver : PySem.W.subIn K (.ref C_NoPrime) (.ref C_NoOver) = some false)
    (ne_NoPrime_NoOver : C_NoPrime ≠ C_NoOver)
    (sb_NoPrime_NoRoot : PySem.W.subIn K (.ref C_NoPrime) (.ref C_NoRoot) = some false)
    (ne_NoPrime_NoRoot : C_NoPrime ≠ C_NoRoot)
    (sb_NoPrime_TooGreat : PySem.W.subIn K (.ref C_NoPrime) (.ref C_TooGreat) = some false)
    (ne_NoPrime_TooGreat : C_NoPrime ≠ C_TooGreat)
    (sb_NoPrime_NoRow : PySem.W.subIn K (.ref C_NoPrime) (.ref C_NoRow) = some false)
    (ne_NoPrime_NoRow : C_NoPrime ≠ C_NoRow)
    (sb_NoPrime_TooMany : PySem.W.subIn K (.ref C_NoPrime) (.ref C_TooMany) = some false)
    (ne_NoPrime_TooMany : C_NoPrime ≠ C_TooMany)
    (sb_NoPrime_NoText : PySem.W.subIn K (.ref C_NoPrime) (.ref C_NoText) = some false)
    (ne_NoPrime_NoText : C_NoPrime ≠ C_NoText)
    (sb_NoPrime_NoName : PySem.W.subIn K (.ref C_NoPrime) (.ref C_NoName) = some false)
    (ne_NoPrime_NoName : C_NoPrime ≠ C_NoName)
    (sb_NoPrime_NoSaying : PySem.W.subIn K (.ref C_NoPrime) (.ref C_NoSaying) = some false)
    (ne_NoPrime_NoSaying : C_NoPrime ≠ C_NoSaying)
    (sb_NoPrime_DigitError : PySem.W.subIn K (.ref C_NoPrime) (.ref C_DigitError) = some true)
    (ne_NoPrime_DigitError : C_NoPrime ≠ C_DigitError) :
    ∃ fd : FuncData, (∀ (s : Shared) (v : Value), BindsTo s fd ⟨[v], []⟩ [("_law_script", v)]) ∧ ∀ base : Heap, K.In base → base.Ns mainGlobals mg → FnOk l.prog w K mg base CX0 7 fa fd ["_law_script"] (spLaw K) := by
  have e := hfa.symm.trans (PySem.W.mg_of X G a17)
  cases e
  have c_PRIMES : Cn K mg "PRIMES" [.int 2, .int 3, .int 5] := ⟨a_PRIMES, PySem.W.mg_of X G ca_PRIMES, fun H => .inr ⟨_, _, _, cl_PRIMES, rfl, rfl, (by show 3 ≤ sizeLine; decide), .cons ⟨_, rfl⟩ (.cons ⟨_, rfl⟩ (.cons ⟨_, rfl⟩ (.nil)))⟩⟩
  have c_FIGURES : Cg mg "FIGURES" (.str "01234") := ⟨_, PySem.W.mg_of X G ca_FIGURES, ⟨_, rfl⟩⟩
  have c_MOST_NUMBERS : Cg mg "MOST_NUMBERS" (.int 12) := ⟨_, PySem.W.mg_of X G ca_MOST_NUMBERS, ⟨_, rfl⟩⟩
  have c_MOST_POLYS : Cg mg "MOST_POLYS" (.int 7) := ⟨_, PySem.W.mg_of X G ca_MOST_POLYS, ⟨_, rfl⟩⟩
  have c_MOST_OF_TWO : Cg mg "MOST_OF_TWO" (.int 4) := ⟨_, PySem.W.mg_of X G ca_MOST_OF_TWO, ⟨_, rfl⟩⟩
  have x_NoPrime : Xc K mg "NoPrime" C_NoPrime := ⟨PySem.W.mg_of X G xa_NoPrime, xk_NoPrime, xx_NoPrime, xs_NoPrime, xt_NoPrime⟩
  have x_NoText : Xc K mg "NoText" C_NoText := ⟨PySem.W.mg_of X G xa_NoText, xk_NoText, xx_NoText, xs_NoText, xt_NoText⟩
  have F0 := fun_mk (st := s_is_whole) l0 c0 k0
  have b0 := F0.binds (ps := ["thing"]) fun _ _ _ _ _ _ us hl => match us, hl with | [_], _ => rfl
  have F1 := fun_mk (st := s_is_prime) l1 c1 k1
  have b1 := F1.binds (ps := ["thing"]) fun _ _ _ _ _ _ us hl => match us, hl with | [_], _ => rfl
  have F2 := fun_mk (st := s_look_prime) l2 c2 k2
  have b2 := F2.binds (ps := ["p"]) fun _ _ _ _ _ _ us hl => match us, hl with | [_], _ => rfl
  have F3 := fun_mk (st := s_poly_in) l3 c3 k3
  have b3 := F3.binds (ps := ["p", "text", "most"]) fun _ _ _ _ _ _ us hl => match us, hl with | [_, _, _], _ => rfl
  have F4 := fun_mk (st := s_two_in) l4 c4 k4
  have b4 := F4.binds (ps := ["p", "text", "most"]) fun _ _ _ _ _ _ us hl => match us, hl with | [_, _, _], _ => rfl
  have F5 := fun_mk (st := s_read_poly) l5 c5 k5
  have b5 := F5.binds (ps := ["p", "thing"]) fun _ _ _ _ _ _ us hl => match us, hl with | [_, _], _ => rfl
  have F6 := fun_mk (st := s_read_two) l6 c6 k6
  have b6 := F6.binds (ps := ["p", "thing"]) fun _ _ _ _ _ _ us hl => match us, hl with | [_, _], _ => rfl
  have F7 := fun_mk (st := s__law_bag) l7 c7 k7
  have b7 := F7.binds (ps := ["_law_script", "_law_at"]) fun _ _ _ _ _ _ us hl => match us, hl with | [_, _], _ => rfl
  have F8 := fun_mk (st := s__law_take) l8 c8 k8
  have b8 := F8.binds (ps := ["_law_bag_here", "_law_many"]) fun _ _ _ _ _ _ us hl => match us, hl with | [_, _], _ => rfl
  have F9 := fun_mk (st := s__law_numbers) l9 c9 k9
  have b9 := F9.binds (ps := ["_law_bag_here", "_law_p", "_law_many"]) fun _ _ _ _ _ _ us hl => match us, hl with | [_, _, _], _ => rfl
  have F10 := fun_mk (st := s__law_poly_text) l10 c10 k10
  have b10 := F10.binds (ps := ["_law_bag_here", "_law_p", "_law_most"]) fun _ _ _ _ _ _ us hl => match us, hl with | [_, _, _], _ => rfl
  have F11 := fun_mk (st := s__law_two_text) l11 c11 k11
  have b11 := F11.binds (ps := ["_law_bag_here", "_law_p"]) fun _ _ _ _ _ _ us hl => match us, hl with | [_, _], _ => rfl
  have F12 := fun_mk (st := s__law_spoilt) l12 c12 k12
  have b12 := F12.binds (ps := ["_law_bag_here", "_law_text"]) fun _ _ _ _ _ _ us hl => match us, hl with | [_, _], _ => rfl
  have F13 := fun_mk (st := s__law_poly_due) l13 c13 k13
  have b13 := F13.binds (ps := ["_law_p", "_law_text", "_law_most"]) fun _ _ _ _ _ _ us hl => match us, hl with | [_, _, _], _ => rfl
  have F14 := fun_mk (st := s__law_two_due) l14 c14 k14
  have b14 := F14.binds (ps := ["_law_p", "_law_text"]) fun _ _ _ _ _ _ us hl => match us, hl with | [_, _], _ => rfl
  have F15 := fun_mk (st := s__law_told) l15 c15 k15
  have b15 := F15.binds (ps := ["_law_way", "_law_p", "_law_thing"]) fun _ _ _ _ _ _ us hl => match us, hl with | [_, _, _], _ => rfl
  have F16 := fun_mk (st := s__law_good) l16 c16 k16
  have b16 := F16.binds (ps := ["_law_way", "_law_p", "_law_thing"]) fun _ _ _ _ _ _ us hl => match us, hl with | [_, _, _], _ => rfl
  have F17 := fun_mk (st := s_law) l17 c17 k17
  refine ⟨PySem.W.fnOf "law" "law" (defArgs s_law) (defBody s_law) (defScope s_law) .none kV17 dc17 pm17 an17 cd17 ct17, fun s v => .of_eq rfl, fun base _ _ => ?_⟩
  have KW_NoText : Kw K C_NoText C_NoText C_NoPrime C_DigitError [C_NoMatch, C_NoName, C_NoOver, C_NoRoot, C_NoRow, C_NoSaying, C_TooGreat, C_TooMany] true := ⟨PySem.W.exm_ref q1_NoText q2_NoText it_DigitError sb_NoText_DigitError, ⟨g1_NoText, g2_NoText, xs_NoText, g3_NoText, g4_NoText, g5_NoText, g6_NoText, g7_NoText⟩, kitAny_no (by simp only [List.map, List.mem_cons, List.not_mem_nil, or_false]; rintro d (rfl | rfl | rfl | rfl | rfl | rfl | rfl | rfl) <;> first | exact (kit_own ne_NoText_NoMatch ic_NoMatch it_NoMatch sb_NoText_NoMatch) | exact (kit_own ne_NoText_NoName ic_NoName it_NoName sb_NoText_NoName) | exact (kit_own ne_NoText_NoOver ic_NoOver it_NoOver sb_NoText_NoOver) | exact (kit_own ne_NoText_NoRoot ic_NoRoot it_NoRoot sb_NoText_NoRoot) | exact (kit_own ne_NoText_NoRow ic_NoRow it_NoRow sb_NoText_NoRow) | exact (kit_own ne_NoText_NoSaying ic_NoSaying it_NoSaying sb_NoText_NoSaying) | exact (kit_own ne_NoText_TooGreat ic_TooGreat it_TooGreat sb_NoText_TooGreat) | exact (kit_own ne_NoText_TooMany ic_TooMany it_TooMany sb_NoText_TooMany)), kit_self, (kit_own ne_NoText_NoPrime ic_NoPrime it_NoPrime sb_NoText_NoPrime), kit_base q5_NoText (by decide +kernel)⟩
  have KW_NoPrime : Kw K C_NoPrime C_NoText C_NoPrime C_DigitError [C_NoMatch, C_NoName, C_NoOver, C_NoRoot, C_NoRow, C_NoSaying, C_TooGreat, C_TooMany] false := ⟨PySem.W.exm_ref q1_NoPrime q2_NoPrime it_DigitError sb_NoPrime_DigitError, ⟨g1_NoPrime, g2_NoPrime, xs_NoPrime, g3_NoPrime, g4_NoPrime, g5_NoPrime, g6_NoPrime, g7_NoPrime⟩, kitAny_no (by simp only [List.map, List.mem_cons, List.not_mem_nil, or_false]; rintro d (rfl | rfl | rfl | rfl | rfl | rfl | rfl | rfl) <;> first | exact (kit_own ne_NoPrime_NoMatch ic_NoMatch it_NoMatch sb_NoPrime_NoMatch) | exact (kit_own ne_NoPrime_NoName ic_NoName it_NoName sb_NoPrime_NoName) | exact (kit_own ne_NoPrime_NoOver ic_NoOver it_NoOver sb_NoPrime_NoOver) | exact (kit_own ne_NoPrime_NoRoot ic_NoRoot it_NoRoot sb_NoPrime_NoRoot) | exact (kit_own ne_NoPrime_NoRow ic_NoRow it_NoRow sb_NoPrime_NoRow) | exact (kit_own ne_NoPrime_NoSaying ic_NoSaying it_NoSaying sb_NoPrime_NoSaying) | exact (kit_own ne_NoPrime_TooGreat ic_TooGreat it_TooGreat sb_NoPrime_TooGreat) | exact (kit_own ne_NoPrime_TooMany ic_TooMany it_TooMany sb_NoPrime_TooMany)), (kit_own ne_NoPrime_NoText ic_NoText it_NoText sb_NoPrime_NoText), kit_self, kit_base q5_NoPrime (by decide +kernel)⟩
  have D_is_whole : Df l.prog w K mg base CX0 1 "is_whole" ["thing"] (sp_is_whole K) := ⟨f0, _, ok_is_whole F0 (PySem.W.mg_none_of X G n_isinstance) (PySem.W.mg_none_of X G n_int) (PySem.W.mg_none_of X G n_bool), PySem.W.mg_of X G a0, k0, b0⟩
  have D_is_prime : Df l.prog w K mg base CX0 2 "is_prime" ["thing"] (sp_is_prime K) := ⟨f1, _, ok_is_prime F1 D_is_whole c_PRIMES, PySem.W.mg_of X G a1, k1, b1⟩
  have D_look_prime : Df l.prog w K mg base (L2N.CX l.prog w) 3 "look_prime" ["p"] (sp_look_prime K C_NoPrime) := ⟨f2, _, ok_look_prime F2 D_is_prime x_NoPrime, PySem.W.mg_of X G a2, k2, b2⟩
  have D_poly_in : Df l.prog w K mg base (L2N.CX l.prog w) 1 "poly_in" ["p", "text", "most"] (sp_poly_in K C_NoText) := ⟨f3, _, ok_poly_in F3 (PySem.W.mg_none_of X G n_tuple) x_NoText (PySem.W.mg_none_of X G n_len) (PySem.W.mg_none_of X G n_all) (PySem.W.mg_none_of X G n_int) c_FIGURES, PySem.W.mg_of X G a3, k3, b3⟩
  have D_two_in : Df l.prog w K mg base (L2N.CX l.prog w) 2 "two_in" ["p", "text", "most"] (sp_two_in K C_NoText) := ⟨f4, _, ok_two_in F4 (PySem.W.mg_none_of X G n_tuple) x_NoText (PySem.W.mg_none_of X G n_len) D_poly_in c_MOST_OF_TWO, PySem.W.mg_of X G a4, k4, b4⟩
  have D_read_poly : Df l.prog w K mg base (L2N.CX l.prog w) 4 "read_poly" ["p", "thing"] (sp_read_poly K C_NoPrime C_NoText) := ⟨f5, _, ok_read_poly F5 D_look_prime D_poly_in c_MOST_NUMBERS (PySem.W.mg_none_of X G n_isinstance) (PySem.W.mg_none_of X G n_str) x_NoText, PySem.W.mg_of X G a5, k5, b5⟩
  have D_read_two : Df l.prog w K mg base (L2N.CX l.prog w) 4 "read_two" ["p", "thing"] (sp_read_two K C_NoPrime C_NoText) := ⟨f6, _, ok_read_two F6 D_look_prime D_two_in c_MOST_POLYS (PySem.W.mg_none_of X G n_isinstance) (PySem.W.mg_none_of X G n_str) x_NoText, PySem.W.mg_of X G a6, k6, b6⟩
  have D__law_bag : Df l.prog w K mg base CX0 1 "_law_bag" ["_law_script", "_law_at"] (sp__law_bag K) := ⟨f7, _, ok__law_bag F7 (PySem.W.mg_none_of X G n_len) (PySem.W.mg_none_of X G n_abs) (PySem.W.mg_none_of X G n_int), PySem.W.mg_of X G a7, k7, b7⟩
  have D__law_take : Df l.prog w K mg base CX0 1 "_law_take" ["_law_bag_here", "_law_many"] (sp__law_take K) := ⟨f8, _, ok__law_take F8, PySem.W.mg_of X G a8, k8, b8⟩
  have D__law_numbers : Df l.prog w K mg base CX0 2 "_law_numbers" ["_law_bag_here", "_law_p", "_law_many"] (sp__law_numbers K) := ⟨f9, _, ok__law_numbers F9 (PySem.W.mg_none_of X G n_tuple) D__law_take (PySem.W.mg_none_of X G n_range), PySem.W.mg_of X G a9, k9, b9⟩
  have D__law_poly_text : Df l.prog w K mg base CX0 3 "_law_poly_text" ["_law_bag_here", "_law_p", "_law_most"] (sp__law_poly_text K) := ⟨f10, _, ok__law_poly_text F10 D__law_take (PySem.W.mg_none_of X G n_str) (PySem.W.mg_none_of X G n_int) D__law_numbers, PySem.W.mg_of X G a10, k10, b10⟩
  have D__law_two_text : Df l.prog w K mg base CX0 4 "_law_two_text" ["_law_bag_here", "_law_p"] (sp__law_two_text K) := ⟨f11, _, ok__law_two_text F11 D__law_poly_text (PySem.W.mg_none_of X G n_range) D__law_take, PySem.W.mg_of X G a11, k11, b11⟩
  have D__law_spoilt : Df l.prog w K mg base CX0 2 "_law_spoilt" ["_law_bag_here", "_law_text"] (sp__law_spoilt K) := ⟨f12, _, ok__law_spoilt F12 D__law_take (PySem.W.mg_none_of X G n_len), PySem.W.mg_of X G a12, k12, b12⟩
  have D__law_poly_due : Df l.prog w K mg base CX0 1 "_law_poly_due" ["_law_p", "_law_text", "_law_most"] (sp__law_poly_due K) := ⟨f13, _, ok__law_poly_due F13 (PySem.W.mg_none_of X G n_tuple) (PySem.W.mg_none_of X G n_len) (PySem.W.mg_none_of X G n_int), PySem.W.mg_of X G a13, k13, b13⟩
  have D__law_two_due : Df l.prog w K mg base CX0 2 "_law_two_due" ["_law_p", "_law_text"] (sp__law_two_due K) := ⟨f14, _, ok__law_two_due F14 (PySem.W.mg_none_of X G n_tuple) D__law_poly_due (PySem.W.mg_none_of X G n_len), PySem.W.mg_of X G a14, k14, b14⟩
  have D__law_told : Df l.prog w K mg base CX0 5 "_law_told" ["_law_way", "_law_p", "_law_thing"] (sp__law_told K) := ⟨f15, _, ok__law_told F15 D_read_poly D_read_two KW_NoText KW_NoPrime (PySem.W.mg_of X G xa_DigitError) (PySem.W.mg_none_of X G n_isinstance) (PySem.W.mg_none_of X G n_ValueError) (PySem.W.mg_of X G xa_NoText) (PySem.W.mg_of X G xa_NoPrime) (PySem.W.mg_of X G xa_NoMatch) (PySem.W.mg_of X G xa_NoName) (PySem.W.mg_of X G xa_NoOver) (PySem.W.mg_of X G xa_NoRoot) (PySem.W.mg_of X G xa_NoRow) (PySem.W.mg_of X G xa_NoSaying) (PySem.W.mg_of X G xa_TooGreat) (PySem.W.mg_of X G xa_TooMany), PySem.W.mg_of X G a15, k15, b15⟩
  have D__law_good : Df l.prog w K mg base CX0 6 "_law_good" ["_law_way", "_law_p", "_law_thing"] (sp__law_good K) := ⟨f16, _, ok__law_good F16 (PySem.W.mg_none_of X G n_isinstance) (PySem.W.mg_none_of X G n_str) D__law_told D__law_poly_due D__law_two_due, PySem.W.mg_of X G a16, k16, b16⟩
  exact ok_law F17 (PySem.W.mg_none_of X G n_range) (PySem.W.mg_none_of X G n_max) D__law_bag (PySem.W.mg_none_of X G n_min) D__law_take D__law_told (PySem.W.mg_none_of X G n_len) D__law_poly_text D__law_two_text D__law_spoilt D__law_good
end Dg
open PySem PySem.W PyProof.Rows
set_option maxRecDepth 100000 in
set_option maxHeartbeats 0 in
theorem PySem.Challenge.cw_digitroots_k52_texts_refused_holds : PySem.Challenge.rw_digitroots_k52_texts_refused.Holds := by
  w_on; o_law; k_head; (case hw => w_witness2)
  k_fill
  refine L2.walk_of (l := PySem.Challenge.rw_digitroots_k52_texts_refused) (n := 63) (k := 7) (x := "_law_script") (CX := fun _ => L2.CX0) (sp := fun w => Dg.spLaw _) rfl (by decide) rfl ⟨rfl, by decide, by decide⟩ (fun w h Y => PySem.W.kIn_of Y) ?F (fun _ _ a ns hl _ hS => ⟨a, ns, rfl, hS, hl, fun _ => rfl⟩) (fun _ _ _ _ _ h => h)
  case F =>
    intro w mg fa h KX G hmg
    refine' Dg.all_mk KX G hmg ?a0 ?l0 ?c0 ?k0 ?a1 ?l1 ?c1 ?k1 ?a2 ?l2 ?c2 ?k2 ?a3 ?l3 ?c3 ?k3 ?a4 ?l4 ?c4 ?k4 ?a5 ?l5 ?c5 ?k5 ?a6 ?l6 ?c6 ?k6 ?a7 ?l7 ?c7 ?k7 ?a8 ?l8 ?c8 ?k8 ?a9 ?l9 ?c9 ?k9 ?a10 ?l10 ?c10 ?k10 ?a11 ?l11 ?c11 ?k11 ?a12 ?l12 ?c12 ?k12 ?a13 ?l13 ?c13 ?k13 ?a14 ?l14 ?c14 ?k14 ?a15 ?l15 ?c15 ?k15 ?a16 ?l16 ?c16 ?k16 ?a17 ?l17 ?c17 ?k17 ?n_isinstance ?n_int ?n_bool ?n_len ?n_range ?n_abs ?n_max ?n_min ?n_tuple ?n_str ?n_all ?n_ValueError ?ca_PRIMES ?cl_PRIMES ?ca_FIGURES ?ca_MOST_NUMBERS ?ca_MOST_POLYS ?ca_MOST_OF_TWO ?xa_DigitError ?xa_NoPrime ?xk_NoPrime ?xx_NoPrime ?xs_NoPrime ?xt_NoPrime ?xa_NoText ?xk_NoText ?xx_NoText ?xs_NoText ?xt_NoText ?xa_NoMatch ?xa_NoName ?xa_NoOver ?xa_NoRoot ?xa_NoRow ?xa_NoSaying ?xa_TooGreat ?xa_TooMany ?ic_NoPrime ?it_NoPrime ?ic_NoMatch ?it_NoMatch ?ic_NoOver ?it_NoOver ?ic_NoRoot ?it_NoRoot ?ic_TooGreat ?it_TooGreat ?ic_NoRow ?it_NoRow ?ic_TooMany ?it_TooMany ?ic_NoText ?it_NoText ?ic_NoName ?it_NoName ?ic_NoSaying ?it_NoSaying ?ic_DigitError ?it_DigitError ?q1_NoText ?q2_NoText ?q5_NoText ?g1_NoText ?g2_NoText ?g3_NoText ?g4_NoText ?g5_NoText ?g6_NoText ?g7_NoText ?sb_NoText_NoPrime ?ne_NoText_NoPrime ?sb_NoText_NoMatch ?ne_NoText_NoMatch ?sb_NoText_NoOver ?ne_NoText_NoOver ?sb_NoText_NoRoot ?ne_NoText_NoRoot ?sb_NoText_TooGreat ?ne_NoText_TooGreat ?sb_NoText_NoRow ?ne_NoText_NoRow ?sb_NoText_TooMany ?ne_NoText_TooMany ?sb_NoText_NoName ?ne_NoText_NoName ?sb_NoText_NoSaying ?ne_NoText_NoSaying ?sb_NoText_DigitError ?ne_NoText_DigitError ?q1_NoPrime ?q2_NoPrime ?q5_NoPrime ?g1_NoPrime ?g2_NoPrime ?g3_NoPrime ?g4_NoPrime ?g5_NoPrime ?g6_NoPrime ?g7_NoPrime ?sb_NoPrime_NoMatch ?ne_NoPrime_NoMatch ?sb_NoPrime_NoOver ?ne_NoPrime_NoOver ?sb_NoPrime_NoRoot ?ne_NoPrime_NoRoot ?sb_NoPrime_TooGreat ?ne_NoPrime_TooGreat ?sb_NoPrime_NoRow ?ne_NoPrime_NoRow ?sb_NoPrime_TooMany ?ne_NoPrime_TooMany ?sb_NoPrime_NoText ?ne_NoPrime_NoText ?sb_NoPrime_NoName ?ne_NoPrime_NoName ?sb_NoPrime_NoSaying ?ne_NoPrime_NoSaying ?sb_NoPrime_DigitError ?ne_NoPrime_DigitError
    (case a0 => k_is)
    (case l0 => k_is)
    (case c0 => k_is)
    (case k0 => k_is)
    (case a1 => k_is)
    (case l1 => k_is)
    (case c1 => k_is)
    (case k1 => k_is)
    (case a2 => k_is)
    (case l2 => k_is)
    (case c2 => k_is)
    (case k2 => k_is)
    (case a3 => k_is)
    (case l3 => k_is)
    (case c3 => k_is)
    (case k3 => k_is)
    (case a4 => k_is)
    (case l4 => k_is)
    (case c4 => k_is)
    (case k4 => k_is)
    (case a5 => k_is)
    (case l5 => k_is)
    (case c5 => k_is)
    (case k5 => k_is)
    (case a6 => k_is)
    (case l6 => k_is)
    (case c6 => k_is)
    (case k6 => k_is)
    (case a7 => k_is)
    (case l7 => k_is)
    (case c7 => k_is)
    (case k7 => k_is)
    (case a8 => k_is)
    (case l8 => k_is)
    (case c8 => k_is)
    (case k8 => k_is)
    (case a9 => k_is)
    (case l9 => k_is)
    (case c9 => k_is)
    (case k9 => k_is)
    (case a10 => k_is)
    (case l10 => k_is)
    (case c10 => k_is)
    (case k10 => k_is)
    (case a11 => k_is)
    (case l11 => k_is)
    (case c11 => k_is)
    (case k11 => k_is)
    (case a12 => k_is)
    (case l12 => k_is)
    (case c12 => k_is)
    (case k12 => k_is)
    (case a13 => k_is)
    (case l13 => k_is)
    (case c13 => k_is)
    (case k13 => k_is)
    (case a14 => k_is)
    (case l14 => k_is)
    (case c14 => k_is)
    (case k14 => k_is)
    (case a15 => k_is)
    (case l15 => k_is)
    (case c15 => k_is)
    (case k15 => k_is)
    (case a16 => k_is)
    (case l16 => k_is)
    (case c16 => k_is)
    (case k16 => k_is)
    (case a17 => k_is)
    (case l17 => k_is)
    (case c17 => k_is)
    (case k17 => k_is)
    (case n_isinstance => k_is)
    (case n_int => k_is)
    (case n_bool => k_is)
    (case n_len => k_is)
    (case n_range => k_is)
    (case n_abs => k_is)
    (case n_max => k_is)
    (case n_min => k_is)
    (case n_tuple => k_is)
    (case n_str => k_is)
    (case n_all => k_is)
    (case n_ValueError => k_is)
    (case ca_PRIMES => k_is)
    (case cl_PRIMES => k_is)
    (case ca_FIGURES => k_is)
    (case ca_MOST_NUMBERS => k_is)
    (case ca_MOST_POLYS => k_is)
    (case ca_MOST_OF_TWO => k_is)
    (case xa_DigitError => k_is)
    (case xa_NoPrime => k_is)
    (case xk_NoPrime => k_is)
    (case xx_NoPrime => k_exc)
    (case xs_NoPrime => k_is)
    (case xt_NoPrime => k_is)
    (case xa_NoText => k_is)
    (case xk_NoText => k_is)
    (case xx_NoText => k_exc)
    (case xs_NoText => k_is)
    (case xt_NoText => k_is)
    (case xa_NoMatch => k_is)
    (case xa_NoName => k_is)
    (case xa_NoOver => k_is)
    (case xa_NoRoot => k_is)
    (case xa_NoRow => k_is)
    (case xa_NoSaying => k_is)
    (case xa_TooGreat => k_is)
    (case xa_TooMany => k_is)
    (case ic_NoPrime => k_is)
    (case it_NoPrime => k_is)
    (case ic_NoMatch => k_is)
    (case it_NoMatch => k_is)
    (case ic_NoOver => k_is)
    (case it_NoOver => k_is)
    (case ic_NoRoot => k_is)
    (case it_NoRoot => k_is)
    (case ic_TooGreat => k_is)
    (case it_TooGreat => k_is)
    (case ic_NoRow => k_is)
    (case it_NoRow => k_is)
    (case ic_TooMany => k_is)
    (case it_TooMany => k_is)
    (case ic_NoText => k_is)
    (case it_NoText => k_is)
    (case ic_NoName => k_is)
    (case it_NoName => k_is)
    (case ic_NoSaying => k_is)
    (case it_NoSaying => k_is)
    (case ic_DigitError => k_is)
    (case it_DigitError => k_is)
    (case q1_NoText => k_is)
    (case q2_NoText => k_is)
    (case q5_NoText => k_is)
    (case g1_NoText => k_is)
    (case g2_NoText => k_is)
    (case g3_NoText => k_is)
    (case g4_NoText => k_is)
    (case g5_NoText => k_is)
    (case g6_NoText => k_is)
    (case g7_NoText => k_is)
    (case sb_NoText_NoPrime => k_is)
    (case ne_NoText_NoPrime => (first | decide | k_is))
    (case sb_NoText_NoMatch => k_is)
    (case ne_NoText_NoMatch => (first | decide | k_is))
    (case sb_NoText_NoOver => k_is)
    (case ne_NoText_NoOver => (first | decide | k_is))
    (case sb_NoText_NoRoot => k_is)
    (case ne_NoText_NoRoot => (first | decide | k_is))
    (case sb_NoText_TooGreat => k_is)
    (case ne_NoText_TooGreat => (first | decide | k_is))
    (case sb_NoText_NoRow => k_is)
    (case ne_NoText_NoRow => (first | decide | k_is))
    (case sb_NoText_TooMany => k_is)
    (case ne_NoText_TooMany => (first | decide | k_is))
    (case sb_NoText_NoName => k_is)
    (case ne_NoText_NoName => (first | decide | k_is))
    (case sb_NoText_NoSaying => k_is)
    (case ne_NoText_NoSaying => (first | decide | k_is))
    (case sb_NoText_DigitError => k_is)
    (case ne_NoText_DigitError => (first | decide | k_is))
    (case q1_NoPrime => k_is)
    (case q2_NoPrime => k_is)
    (case q5_NoPrime => k_is)
    (case g1_NoPrime => k_is)
    (case g2_NoPrime => k_is)
    (case g3_NoPrime => k_is)
    (case g4_NoPrime => k_is)
    (case g5_NoPrime => k_is)
    (case g6_NoPrime => k_is)
    (case g7_NoPrime => k_is)
    (case sb_NoPrime_NoMatch => k_is)
    (case ne_NoPrime_NoMatch => (first | decide | k_is))
    (case sb_NoPrime_NoOver => k_is)
    (case ne_NoPrime_NoOver => (first | decide | k_is))
    (case sb_NoPrime_NoRoot => k_is)
    (case ne_NoPrime_NoRoot => (first | decide | k_is))
    (case sb_NoPrime_TooGreat => k_is)
    (case ne_NoPrime_TooGreat => (first | decide | k_is))
    (case sb_NoPrime_NoRow => k_is)
    (case ne_NoPrime_NoRow => (first | decide | k_is))
    (case sb_NoPrime_TooMany => k_is)
    (case ne_NoPrime_TooMany => (first | decide | k_is))
    (case sb_NoPrime_NoText => k_is)
    (case ne_NoPrime_NoText => (first | decide | k_is))
    (case sb_NoPrime_NoName => k_is)
    (case ne_NoPrime_NoName => (first | decide | k_is))
    (case sb_NoPrime_NoSaying => k_is)
    (case ne_NoPrime_NoSaying => (first | decide | k_is))
    (case sb_NoPrime_DigitError => k_is)
    (case ne_NoPrime_DigitError => (first | decide | k_is))


