import PyProof.Rows.All
import Wide.All
import OpenK.AllK
import Wide.FinOn
import HandS.ForMost
import HandS.ForExc
import HandS.IsInst
import HandS.ExcIs
import HandS.TupAny
import HandS.Evl
import HandS.Walk
import HandS.Zip
import HandS.Wide
import HandS.CallSlots
import KE.GoesEnum
import KE.DatumOrd
import HandS.TupMul
import PyProof.Rows.CallKwBuiltin
import HandS.Codes
import PyProof.StrOps2
import HandS.Style
import HandS.HotCalls
import HandS.ExcCtx
import HandS.Hot
import PySem.Challenge.RW_digitroots_k31_first_entries_of_roots
set_option Elab.async false
set_option linter.all false
set_option maxRecDepth 100000
set_option maxHeartbeats 4000000
set_option maxRecDepth 100000
set_option maxHeartbeats 4000000
/-! Readings by what they represent: Er (a value), El (a new list), Et (a test); the bag of a law. -/
namespace Dg
open PySem PySem.Spec PyProof.Rows L2 Evl

/-! ### steps of the heap -/
/-- at most what stands at p is changed -/
def C1 (p : Addr) (H H' : Hp) : Prop := ∀ a o, a ≠ p → H a = some o → H' a = some o
theorem C1.ex {p : Addr} {H H' : Hp} (e : Ex H H') : C1 p H H' := fun a o _ h => e a o h
theorem C1.refl (p : Addr) (H : Hp) : C1 p H H := fun _ _ _ h => h
theorem C1.trans {p : Addr} {H H1 H2 : Hp} (a : C1 p H H1) (b : C1 p H1 H2) : C1 p H H2 := fun x o n h => b x o n (a x o n h)
theorem C1.up {p : Addr} {H H' : Hp} {o : HO} (a : C1 p H H') : C1 p H (upd H' p o) := fun x u n h => by rw [upd_ne n]; exact a x u n h
theorem C1.upn {p q : Addr} {H H' : Hp} {o : HO} (a : C1 p H H') (hq : H q = none) : C1 p H (upd H' q o) := fun x u n h => by rw [upd_ne (ne_of_none h hq)]; exact a x u n h
/-- a step that turns p alone, p new to H -/
theorem C1.ofNew {p : Addr} {H H1 H2 : Hp} (e : Ex H H1) (hp : H p = none) (c : C1 p H1 H2) : Ex H H2 := fun a o h => c a o (ne_of_none h hp) (e a o h)
theorem C1.ofNew2 {b p : Addr} {H H1 H2 : Hp} (e : C1 b H H1) (hp : H p = none) (c : C1 p H1 H2) : C1 b H H2 := fun a o n h => c a o (ne_of_none h hp) (e a o n h)

/-- what is read as a tuple stays so -/
def Kt (K : PySem.W.Frag) (H H' : Hp) : Prop := ∀ a xs, SqT K H a xs → SqT K H' a xs
theorem Kt.refl {K : PySem.W.Frag} (H : Hp) : Kt K H H := fun _ _ h => h
theorem Kt.trans {K : PySem.W.Frag} {H H1 H2 : Hp} (a : Kt K H H1) (b : Kt K H1 H2) : Kt K H H2 := fun x o h => b x o (a x o h)
theorem Kt.ex {K : PySem.W.Frag} {H H' : Hp} (e : Ex H H') : Kt K H H' := fun _ _ h => ex_t e h
theorem Kt.c1 {K : PySem.W.Frag} {p : Addr} {xs : List V} {H H' : Hp} (hp : H p = some (.lst xs)) (c : C1 p H H') : Kt K H H' := fun a ys h => by
  rcases h with (h | ⟨o, h⟩) | h
  · exact .inl (.inl (c a _ (ne_of h hp (by intro z; cases z)) h))
  · exact .inl (.inr ⟨o, c a _ (ne_of h hp (by intro z; cases z)) h⟩)
  · exact .inr h

/-! ### what a value stands for -/
abbrev Rp (α : Type) := Hp → α → V → Prop
def rI : Rp Int := fun _ i v => v = .int i
def rB : Rp Bool := fun _ b v => v = .bl b
def rS : Rp Str := fun _ s v => v = .str s
def rN : Rp Unit := fun _ _ v => v = .non
/-- a tuple, a list of such -/
def rT {α : Type} (K : PySem.W.Frag) (R : Rp α) : Rp (List α) := fun H xs v => ∃ a vs, v = .ref a ∧ SqT K H a vs ∧ Paired (R H) xs vs
def rL {α : Type} (K : PySem.W.Frag) (R : Rp α) : Rp (List α) := fun H xs v => ∃ a vs, v = .ref a ∧ SqL K H a vs ∧ Paired (R H) xs vs
def r2 {α β : Type} (K : PySem.W.Frag) (R : Rp α) (S : Rp β) : Rp (α × β) := fun H x v => ∃ a u w, v = .ref a ∧ SqT K H a [u, w] ∧ R H x.1 u ∧ S H x.2 w
/-- stays while tuples stay -/
class Mkt {α : Type} (K : PySem.W.Frag) (R : Rp α) : Prop where
  kt : ∀ {H H' : Hp} {x : α} {v : V}, Kt K H H' → R H x v → R H' x v
/-- stays while all stays -/
class Me {α : Type} (R : Rp α) : Prop where
  ex : ∀ {H H' : Hp} {x : α} {v : V}, Ex H H' → R H x v → R H' x v
theorem pm {α β : Type} {F G : α → β → Prop} {l : List α} {m : List β} (h : Paired F l m) (f : ∀ a b, F a b → G a b) : Paired G l m := Paired.mapP h f

section
variable {α β γ : Type} {K : PySem.W.Frag} {H H' : Hp}
instance : Me rI := ⟨fun _ h => h⟩
instance : Me rB := ⟨fun _ h => h⟩
instance : Me rS := ⟨fun _ h => h⟩
instance : Me rN := ⟨fun _ h => h⟩
instance {R : Rp α} [r : Me R] : Me (rT K R) := ⟨fun e ⟨a, vs, h1, h2, h3⟩ => ⟨a, vs, h1, ex_t e h2, pm h3 fun _ _ z => r.ex e z⟩⟩
instance {R : Rp α} [r : Me R] : Me (rL K R) := ⟨fun e ⟨a, vs, h1, h2, h3⟩ => ⟨a, vs, h1, ex_l e h2, pm h3 fun _ _ z => r.ex e z⟩⟩
instance {R : Rp α} {S : Rp β} [r : Me R] [s : Me S] : Me (r2 K R S) := ⟨fun e ⟨a, u, w, h1, h2, h3, h4⟩ => ⟨a, u, w, h1, ex_t e h2, r.ex e h3, s.ex e h4⟩⟩
instance : Mkt K rI := ⟨fun _ h => h⟩
instance : Mkt K rB := ⟨fun _ h => h⟩
instance : Mkt K rS := ⟨fun _ h => h⟩
instance : Mkt K rN := ⟨fun _ h => h⟩
instance {R : Rp α} [r : Mkt K R] : Mkt K (rT K R) := ⟨fun e ⟨a, vs, h1, h2, h3⟩ => ⟨a, vs, h1, e _ _ h2, pm h3 fun _ _ z => r.kt e z⟩⟩
instance {R : Rp α} {S : Rp β} [r : Mkt K R] [s : Mkt K S] : Mkt K (r2 K R S) := ⟨fun e ⟨a, u, w, h1, h2, h3, h4⟩ => ⟨a, u, w, h1, e _ _ h2, r.kt e h3, s.kt e h4⟩⟩
/-- a list of this def's own, at p -/
def Lt (R : Rp α) (H : Hp) (p : Addr) (xs : List α) : Prop := ∃ vs, H p = some (.lst vs) ∧ Paired (R H) xs vs
theorem Lt.rl {R : Rp α} {p : Addr} {xs : List α} (h : Lt R H p xs) : rL K R H xs (.ref p) := let ⟨vs, h1, h2⟩ := h; ⟨p, vs, rfl, SqL.of h1, h2⟩
theorem Lt.ex {R : Rp α} [Me R] {p : Addr} {xs : List α} (h : Lt R H p xs) (e : Ex H H') : Lt R H' p xs := let ⟨vs, h1, h2⟩ := h; ⟨vs, e _ _ h1, pm h2 fun _ _ z => Me.ex e z⟩
theorem Lt.c1 {R : Rp α} [Mkt K R] {p q : Addr} {xs : List α} {ys : List V} (h : Lt R H p xs) (hq : H q = some (.lst ys)) (c : C1 q H H') (n : p ≠ q) : Lt R H' p xs := let ⟨vs, h1, h2⟩ := h; ⟨vs, c _ _ n h1, pm h2 fun _ _ z => Mkt.kt (Kt.c1 (K := K) hq c) z⟩

/-! ### ints by map -/
theorem pI : ∀ {xs : List Int} {vs : List V}, Paired (rI H) xs vs → vs = xs.map V.int
  | [], _, .nil => rfl
  | x :: xs, _, .cons r t => by
    have e : _ = V.int x := r
    rw [e, pI t]
    rfl
theorem pI' : ∀ (xs : List Int), Paired (rI H) xs (xs.map V.int)
  | [] => .nil
  | _ :: xs => .cons rfl (pI' xs)
theorem paired_len {F : α → β → Prop} : ∀ {l : List α} {m : List β}, Paired F l m → l.length = m.length
  | _, _, .nil => rfl
  | _, _, .cons _ t => by rw [List.length_cons, List.length_cons, paired_len t]
theorem paired_get {F : α → β → Prop} : ∀ {l : List α} {m : List β} {i : Nat} {x : α}, Paired F l m → l[i]? = some x → ∃ y, m[i]? = some y ∧ F x y
  | _, _, i, _, .nil, h => by simp at h
  | _, _, 0, _, .cons r _, h => by
    simp only [List.getElem?_cons_zero, Option.some.injEq] at h
    subst h
    exact ⟨_, rfl, r⟩
  | _, _, i + 1, _, .cons _ t, h => by
    simp only [List.getElem?_cons_succ] at h
    exact paired_get (i := i) t h
theorem paired_get' {F : α → β → Prop} : ∀ {l : List α} {m : List β} {i : Nat} {y : β}, Paired F l m → m[i]? = some y → ∃ x, l[i]? = some x ∧ F x y
  | _, _, i, _, .nil, h => by simp at h
  | _, _, 0, _, .cons r _, h => by
    simp only [List.getElem?_cons_zero, Option.some.injEq] at h
    subst h
    exact ⟨_, rfl, r⟩
  | _, _, i + 1, _, .cons _ t, h => by
    simp only [List.getElem?_cons_succ] at h
    exact paired_get' (i := i) t h
theorem paired_append {F : α → β → Prop} : ∀ {l l' : List α} {m m' : List β}, Paired F l m → Paired F l' m' → Paired F (l ++ l') (m ++ m')
  | _, _, _, _, .nil, h => h
  | _, _, _, _, .cons r t, h => .cons r (paired_append t h)
theorem paired_set {F : α → β → Prop} : ∀ {l : List α} {m : List β} (i : Nat) {x : α} {y : β}, Paired F l m → F x y → Paired F (l.set i x) (m.set i y)
  | _, _, _, _, _, .nil, _ => .nil
  | _, _, 0, _, _, .cons _ t, h => .cons h t
  | _, _, i + 1, _, _, .cons r t, h => .cons r (paired_set i t h)
theorem paired_take {F : α → β → Prop} : ∀ {l : List α} {m : List β} (n : Nat), Paired F l m → Paired F (l.take n) (m.take n)
  | _, _, 0, _ => .nil
  | _, _, _ + 1, .nil => .nil
  | _, _, n + 1, .cons r t => .cons r (paired_take n t)
theorem paired_drop {F : α → β → Prop} : ∀ {l : List α} {m : List β} (n : Nat), Paired F l m → Paired F (l.drop n) (m.drop n)
  | _, _, 0, h => h
  | _, _, _ + 1, .nil => .nil
  | _, _, n + 1, .cons _ t => paired_drop n t
theorem paired_rep {F : α → β → Prop} {x : α} {y : β} (h : F x y) : ∀ n : Nat, Paired F (List.replicate n x) (List.replicate n y)
  | 0 => .nil
  | n + 1 => .cons h (paired_rep h n)
theorem paired_reverse {F : α → β → Prop} : ∀ {l : List α} {m : List β}, Paired F l m → Paired F l.reverse m.reverse
  | _, _, .nil => .nil
  | _, _, .cons r t => by
    rw [List.reverse_cons, List.reverse_cons]
    exact paired_append (paired_reverse t) (.cons r .nil)

/-! ### a reading's value by what it stands for -/
def Er (R : Rp α) (t : TE) (σ : L2.St) (H : Hp) (x : α) : Prop := ∀ H1, Ex H H1 → ∀ Q : VK, (∀ v H2, Ex H1 H2 → R H2 x v → Q v H2) → t σ H1 Q
/-- a new list -/
def El (R : Rp α) (t : TE) (σ : L2.St) (H : Hp) (xs : List α) : Prop := ∀ H1, Ex H H1 → ∀ Q : VK, (∀ p H2, H1 p = none → Ex H1 H2 → Lt R H2 p xs → Q (.ref p) H2) → t σ H1 Q
abbrev Et := EvT
/-- arguments -/
def Ea (t : TA) (σ : L2.St) (H : Hp) (P : List V → Hp → Prop) : Prop := ∀ H1, Ex H H1 → ∀ Q : List V → Hp → Prop, (∀ vs H2, Ex H1 H2 → P vs H2 → Q vs H2) → t σ H1 Q

variable {σ : L2.St} {ta tb te : TE} {t u : TT} {R : Rp α} {S : Rp β} {x y z : α}
theorem Er.mono (h : Er R te σ H x) (e : Ex H H') : Er R te σ H' x := fun H1 a Q q => h H1 (e.trans a) Q q
theorem El.er {xs : List α} (h : El R te σ H xs) : Er (rL K R) te σ H xs := fun H1 e Q q => h H1 e Q fun p H2 _ e2 l => q _ H2 e2 l.rl
theorem er_is (h : Er R te σ H x) (e : x = y) : Er R te σ H y := e ▸ h
theorem er_var [Me R] {i : Nat} {v : V} (h : σ[i]? = some (some v)) (r : R H x v) : Er R (tVar i) σ H x := fun H1 e _ q => ⟨v, h, q v H1 (Ex.refl H1) (Me.ex e r)⟩
theorem er_iv {i : Nat} {k : Int} (h : σ[i]? = some (some (.int k)) := by rfl) : Er rI (tVar i) σ H k := fun H1 e _ q => ⟨_, h, q _ H1 (Ex.refl H1) rfl⟩
theorem er_bv {i : Nat} {k : Bool} (h : σ[i]? = some (some (.bl k)) := by rfl) : Er rB (tVar i) σ H k := fun H1 e _ q => ⟨_, h, q _ H1 (Ex.refl H1) rfl⟩
theorem er_int {k : Int} : Er rI (tC (.int k)) σ H k := fun H1 e _ q => q _ H1 (Ex.refl H1) rfl
theorem er_bl {k : Bool} : Er rB (tC (.bl k)) σ H k := fun H1 e _ q => q _ H1 (Ex.refl H1) rfl
theorem er_str {k : Str} : Er rS (tC (.str k)) σ H k := fun H1 e _ q => q _ H1 (Ex.refl H1) rfl
/-- ints: operators -/
theorem er_op0 {g : Int → Int → Int} {i j : Int} (ha : Er rI ta σ H i) (hb : Er rI tb σ H j) : Er rI (tOp (rI0 fun i j => V.int (g i j)) ta tb) σ H (g i j) := fun H1 e Q q =>
  ha H1 e _ fun v H2 e2 r1 => hb H2 (e.trans e2) _ fun w H3 e3 r2 => ⟨i, j, r1, r2, q _ H3 (e2.trans e3) rfl⟩
theorem er_op {C : Int → Int → Prop} {g : Int → Int → Int} {i j : Int} (ha : Er rI ta σ H i) (hb : Er rI tb σ H j) (hc : C i j) : Er rI (tOp (L2.rI C fun i j => V.int (g i j)) ta tb) σ H (g i j) := fun H1 e Q q =>
  ha H1 e _ fun v H2 e2 r1 => hb H2 (e.trans e2) _ fun w H3 e3 r2 => ⟨i, j, r1, r2, hc, q _ H3 (e2.trans e3) rfl⟩
theorem er_cmp {g : Int → Int → Bool} {i j : Int} (ha : Er rI ta σ H i) (hb : Er rI tb σ H j) : Er rB (tOp (rI0 fun i j => V.bl (g i j)) ta tb) σ H (g i j) := fun H1 e Q q =>
  ha H1 e _ fun v H2 e2 r1 => hb H2 (e.trans e2) _ fun w H3 e3 r2 => ⟨i, j, r1, r2, q _ H3 (e2.trans e3) rfl⟩
theorem er_neg {i : Int} (ha : Er rI ta σ H i) : Er rI (tUn (rU fun i => V.int (-i)) ta) σ H (-i) := fun H1 e Q q => ha H1 e _ fun v H2 e2 r1 => ⟨i, r1, q _ H2 e2 rfl⟩
theorem er_eqI {i j : Int} (ha : Er rI ta σ H i) (hb : Er rI tb σ H j) : Er rB (tOp rEq ta tb) σ H (decide (i = j)) := fun H1 e Q q =>
  ha H1 e _ fun v H2 e2 r1 => hb H2 (e.trans e2) _ fun w H3 e3 r2 => by
    cases r1; cases r2
    exact ⟨rfl, q _ H3 (e2.trans e3) (by show V.bl _ = V.bl _; congr 1; exact decide_eq_decide.mpr ⟨fun z => V.int.inj z, fun z => congrArg V.int z⟩)⟩
theorem er_neI {i j : Int} (ha : Er rI ta σ H i) (hb : Er rI tb σ H j) : Er rB (tOp rNe ta tb) σ H (!decide (i = j)) := fun H1 e Q q =>
  ha H1 e _ fun v H2 e2 r1 => hb H2 (e.trans e2) _ fun w H3 e3 r2 => by
    cases r1; cases r2
    exact ⟨rfl, q _ H3 (e2.trans e3) (by show V.bl _ = V.bl _; congr 2; exact decide_eq_decide.mpr ⟨fun z => V.int.inj z, fun z => congrArg V.int z⟩)⟩
/-- tests -/
theorem et_t {b : Bool} (h : Er rB te σ H b) : Et (tTest te) σ H b := fun H1 e _ q => h H1 e _ fun v H2 e2 r => ⟨b, r, q H2 e2⟩
theorem et_b {b : Bool} (h : Er rB te σ H b) : Et (tB te) σ H b := fun H1 e _ q => h H1 e _ fun v H2 e2 r => ⟨b, r, q H2 e2⟩
theorem er_andV {a b : Bool} (h1 : Er rB ta σ H a) (h2 : a = true → Er rB tb σ H b) : Er rB (tAndV ta tb) σ H (a && b) := fun H1 e Q q => h1 H1 e _ fun v H2 e2 r => ⟨a, r, by
  cases a with
  | true =>
    show tb σ H2 Q
    exact h2 rfl H2 (e.trans e2) Q fun w H3 e3 r3 => q w H3 (e2.trans e3) r3
  | false =>
    show Q (.bl false) H2
    exact q _ H2 e2 rfl⟩
theorem er_orV {a b : Bool} (h1 : Er rB ta σ H a) (h2 : a = false → Er rB tb σ H b) : Er rB (tOrV ta tb) σ H (a || b) := fun H1 e Q q => h1 H1 e _ fun v H2 e2 r => ⟨a, r, by
  cases a with
  | true =>
    show Q (.bl true) H2
    exact q _ H2 e2 rfl
  | false =>
    show tb σ H2 Q
    exact h2 rfl H2 (e.trans e2) Q fun w H3 e3 r3 => q w H3 (e2.trans e3) r3⟩
theorem er_notV {a : Bool} (h1 : Er rB ta σ H a) : Er rB (tNotV ta) σ H (!a) := fun H1 e Q q => h1 H1 e _ fun v H2 e2 r => ⟨a, r, q _ H2 e2 rfl⟩
theorem er_if {b : Bool} (h : Et t σ H b) (h1 : b = true → Er R ta σ H x) (h2 : b = false → Er R tb σ H y) : Er R (tIf t ta tb) σ H (if b = true then x else y) := fun H1 e Q q => h H1 e _ fun H2 e2 => by
  cases b with
  | true =>
    show ta σ H2 Q
    exact h1 rfl H2 (e.trans e2) Q fun w H3 e3 r3 => q w H3 (e2.trans e3) r3
  | false =>
    show tb σ H2 Q
    exact h2 rfl H2 (e.trans e2) Q fun w H3 e3 r3 => q w H3 (e2.trans e3) r3
/-- argument lists -/
def A0 : List V → Hp → Prop := fun vs _ => vs = []
def Ac (R : Rp α) (x : α) (P : List V → Hp → Prop) : List V → Hp → Prop := fun vs H => ∃ v r, vs = v :: r ∧ R H x v ∧ P r H
theorem ea0 : Ea tNil σ H A0 := fun H1 e Q q => q [] H1 (Ex.refl H1) rfl
theorem eac [Me R] {tr : TA} {P : List V → Hp → Prop} (h : Er R ta σ H x) (hr : Ea tr σ H P) : Ea (tCons ta tr) σ H (Ac R x P) := fun H1 e Q q =>
  h H1 e _ fun v H2 e2 r2 => hr H2 (e.trans e2) _ fun vs H3 e3 p => q (v :: vs) H3 (e2.trans e3) ⟨v, vs, rfl, Me.ex e3 r2, p⟩
/-- a def's promise: from P of its arguments to the value x -/
def Gv (sp : Sp) (P : List V → Hp → Prop) (R : Rp α) (x : α) : Prop := ∀ vs H1, P vs H1 → ∀ (Q : VK) (E : XK), (∀ v H2, Ex H1 H2 → R H2 x v → Q v H2) → sp vs H1 Q E
theorem er_call {sp : Sp} {E : XK} {tr : TA} {P : List V → Hp → Prop} (h : Ea tr σ H P) (g : Gv sp P R x) : Er R (tCall sp [] E tr) σ H x := fun H1 e Q q =>
  h H1 e _ fun vs H2 e2 p => by
    show sp (vs ++ []) H2 Q E
    rw [List.append_nil]
    exact g vs H2 p Q E fun v H3 e3 r => q v H3 (e2.trans e3) r
/-- a built-in's rule -/
def Gb (r : List V → Hp → VK → Prop) (P : List V → Hp → Prop) (R : Rp α) (x : α) : Prop := ∀ vs H1, P vs H1 → ∀ (Q : VK), (∀ v H2, Ex H1 H2 → R H2 x v → Q v H2) → r vs H1 Q
theorem er_cb {r : List V → Hp → VK → Prop} {tr : TA} {P : List V → Hp → Prop} (h : Ea tr σ H P) (g : Gb r P R x) : Er R (tCB r tr) σ H x := fun H1 e Q q =>
  h H1 e _ fun vs H2 e2 p => g vs H2 p Q fun v H3 e3 r => q v H3 (e2.trans e3) r

/-! ### statements -/
variable {D : Ends} {tu tw tz : TS} {j : Nat}
theorem s_asgI {i : Int} (h : Er rI te σ H i) (k : ∀ H1, Ex H H1 → D.nx (σ.set j (some (.int i))) H1) : tAsg te (gName j) D σ H := h H (Ex.refl H) _ fun v H1 e r => by
  cases r
  exact k H1 e
theorem s_asgB {i : Bool} (h : Er rB te σ H i) (k : ∀ H1, Ex H H1 → D.nx (σ.set j (some (.bl i))) H1) : tAsg te (gName j) D σ H := h H (Ex.refl H) _ fun v H1 e r => by
  cases r
  exact k H1 e
theorem s_asgS {i : Str} (h : Er rS te σ H i) (k : ∀ H1, Ex H H1 → D.nx (σ.set j (some (.str i))) H1) : tAsg te (gName j) D σ H := h H (Ex.refl H) _ fun v H1 e r => by
  cases r
  exact k H1 e
theorem s_asg (h : Er R te σ H x) (k : ∀ v H1, Ex H H1 → R H1 x v → D.nx (σ.set j (some v)) H1) : tAsg te (gName j) D σ H := h H (Ex.refl H) _ fun v H1 e r => k v H1 e r
theorem s_asgL {xs : List α} (h : El R te σ H xs) (k : ∀ p H1, H p = none → Ex H H1 → Lt R H1 p xs → D.nx (σ.set j (some (.ref p))) H1) : tAsg te (gName j) D σ H := h H (Ex.refl H) _ k
theorem s_ret (h : Er R te σ H x) (k : ∀ v H1, Ex H H1 → R H1 x v → D.rt v H1) : tRet te D σ H := h H (Ex.refl H) _ k
theorem s_drop (h : Er R te σ H x) (k : ∀ H1, Ex H H1 → D.nx σ H1) : tDrop te D σ H := h H (Ex.refl H) _ fun _ H1 e _ => k H1 e
theorem s_if {b : Bool} (h : Et t σ H b) (h1 : b = true → ∀ H1, Ex H H1 → tu D σ H1) (h2 : b = false → ∀ H1, Ex H H1 → tw D σ H1) : tIfS t tu tw D σ H := Evl.s_if h h1 h2
theorem s_when {b : Bool} (h : Et t σ H b) (h1 : b = true → ∀ H1, Ex H H1 → tu D σ H1) (h2 : b = false → ∀ H1, Ex H H1 → D.nx σ H1) : tIfS t tu tNext D σ H := Evl.s_if h h1 h2
theorem sz0 {n : Nat} (h : n < 1000000) : n < sizeLine := Nat.lt_of_lt_of_le h (by decide)
theorem sz1 {n : Nat} (h : n ≤ 1000000) : n ≤ sizeLine := Nat.le_trans h (by decide)
/-- xs.append(e): an own list -/
theorem s_app [Mkt K R] {l : Addr} {xs : List α} (hl : Lt R H l xs) (hi : σ[j]? = some (some (.ref l))) (h : Er R te σ H x) (hz : xs.length < 1000000) (k : ∀ H1, C1 l H H1 → Lt R H1 l (xs ++ [x]) → D.nx σ H1) :
    tDrop (tBM K "list" rAppend (tVar j) (tCons te tNil)) D σ H := by
  obtain ⟨vs, h1, h2⟩ := hl
  refine ⟨_, hi, .inl ⟨rfl, vs, SqL.of h1⟩, ?_⟩
  refine h H (Ex.refl H) _ fun v H1 e r => ⟨l, vs, v, rfl, rfl, e _ _ h1, ?_, ?_⟩
  · rw [← paired_len h2]
    exact sz0 hz
  · have kt1 : Kt K H1 (upd H1 l (.lst (vs ++ [v]))) := Kt.c1 (e _ _ h1) (C1.up (C1.refl l H1))
    exact k _ (C1.up (C1.ex e)) ⟨_, upd_same, paired_append (pm h2 fun _ _ z => Mkt.kt ((Kt.ex (K := K) e).trans kt1) z) (.cons (Mkt.kt kt1 r) .nil)⟩
theorem s_while (W : Nat → L2.St → Hp → Prop) (m0 : Nat) (h0 : W m0 σ H)
    (hs : ∀ m σ' H', W m σ' H' → ∃ b, Et t σ' H' b ∧ (b = true → ∀ H1, Ex H' H1 → ∃ N : L2.St → Hp → Prop, (∀ σ2 H2, N σ2 H2 → ∃ m', m' < m ∧ W m' σ2 H2) ∧ tu { D with nx := N, ct := N, bk := D.nx } σ' H1) ∧ (b = false → ∀ H1, Ex H' H1 → D.nx σ' H1)) : tWhile t tu D σ H := Evl.s_while W m0 h0 hs

/-! ### more values: lists and tuples read -/
theorem er_sv {i : Nat} {k : Str} (h : σ[i]? = some (some (.str k)) := by rfl) : Er rS (tVar i) σ H k := fun H1 e _ q => ⟨_, h, q _ H1 (Ex.refl H1) rfl⟩
theorem er_nv {i : Nat} (h : σ[i]? = some (some .non) := by rfl) : Er rN (tVar i) σ H () := fun H1 e _ q => ⟨_, h, q _ H1 (Ex.refl H1) rfl⟩
theorem er_non : Er rN (tC .non) σ H () := fun H1 e _ q => q _ H1 (Ex.refl H1) rfl
/-- go on with an int at hand -/
theorem go_I {Q : VK} {i : Int} (h : Er rI te σ H i) (k : ∀ H1, Ex H H1 → Q (.int i) H1) : te σ H Q := h H (Ex.refl H) _ fun v H1 e r => by cases r; exact k H1 e
theorem go_R {Q : VK} (h : Er R te σ H x) (k : ∀ v H1, Ex H H1 → R H1 x v → Q v H1) : te σ H Q := h H (Ex.refl H) _ k
theorem go_L {Q : VK} {xs : List α} (h : El R te σ H xs) (k : ∀ p H1, H p = none → Ex H H1 → Lt R H1 p xs → Q (.ref p) H1) : te σ H Q := h H (Ex.refl H) _ k
/-- the place of an index -/
def ixs (n : Nat) (i : Int) : Nat := if 0 ≤ i then i.toNat else (i + n).toNat
theorem ixN_ixs {n : Nat} {i : Int} (h1 : -(n : Int) ≤ i) (h2 : i < n) : ixN n i = some (ixs n i) ∧ ixs n i < n := by
  unfold ixN ixs
  by_cases h : 0 ≤ i
  · rw [if_pos h, if_pos h2, if_pos h]
    exact ⟨rfl, by omega⟩
  · rw [if_neg h, if_pos h1, if_neg h]
    exact ⟨rfl, by omega⟩
theorem atI_ixs {xs : List V} {i : Int} {v : V} (h1 : -(xs.length : Int) ≤ i) (h2 : i < xs.length) (h : xs[ixs xs.length i]? = some v) : atI xs i = some v := by
  unfold atI
  rw [(ixN_ixs h1 h2).1]
  exact h
theorem er_ixL [Me R] {xs : List α} {i : Int} (ha : Er (rL K R) ta σ H xs) (hb : Er rI tb σ H i) (h1 : -(xs.length : Int) ≤ i) (h2 : i < xs.length) (hx : xs[ixs xs.length i]? = some x) : Er R (tOp (rIxL K) ta tb) σ H x := fun H1 e Q q =>
  ha H1 e _ fun v H2 e2 r1 => hb H2 (e.trans e2) _ fun w H3 e3 r2 => by
    cases r2
    obtain ⟨a, vs, rfl, hs, hp⟩ := r1
    obtain ⟨u, hu, ru⟩ := paired_get hp hx
    have hl := paired_len hp
    rw [hl] at h1 h2 hu
    exact ⟨a, vs, i, u, rfl, rfl, ex_l e3 hs, atI_ixs h1 h2 hu, q u H3 (e2.trans e3) (Me.ex e3 ru)⟩
theorem er_ixT [Me R] {xs : List α} {i : Int} (ha : Er (rT K R) ta σ H xs) (hb : Er rI tb σ H i) (h1 : -(xs.length : Int) ≤ i) (h2 : i < xs.length) (hx : xs[ixs xs.length i]? = some x) : Er R (tOp (rIxT K) ta tb) σ H x := fun H1 e Q q =>
  ha H1 e _ fun v H2 e2 r1 => hb H2 (e.trans e2) _ fun w H3 e3 r2 => by
    cases r2
    obtain ⟨a, vs, rfl, hs, hp⟩ := r1
    obtain ⟨u, hu, ru⟩ := paired_get hp hx
    have hl := paired_len hp
    rw [hl] at h1 h2 hu
    exact ⟨a, vs, i, u, rfl, rfl, ex_t e3 hs, atI_ixs h1 h2 hu, q u H3 (e2.trans e3) (Me.ex e3 ru)⟩
/-- by a place from 0 on -/
def gt0 (d : α) (xs : List α) (i : Int) : α := (xs[ixs xs.length i]?).getD d
theorem gt0_nat (d : α) (xs : List α) (i : Nat) : gt0 d xs (i : Int) = (xs[i]?).getD d := by unfold gt0 ixs; rw [if_pos (by omega)]; rfl
theorem gt0_some {d : α} {xs : List α} {i : Int} (h1 : -(xs.length : Int) ≤ i) (h2 : i < xs.length) : xs[ixs xs.length i]? = some (gt0 d xs i) := by
  have h := (ixN_ixs h1 h2).2
  unfold gt0
  rw [List.getElem?_eq_getElem h]
  rfl
theorem er_ixL0 [Me R] (d : α) {xs : List α} {i : Int} (ha : Er (rL K R) ta σ H xs) (hb : Er rI tb σ H i) (h1 : -(xs.length : Int) ≤ i) (h2 : i < xs.length) : Er R (tOp (rIxL K) ta tb) σ H (gt0 d xs i) := er_ixL ha hb h1 h2 (gt0_some h1 h2)
theorem er_ixT0 [Me R] (d : α) {xs : List α} {i : Int} (ha : Er (rT K R) ta σ H xs) (hb : Er rI tb σ H i) (h1 : -(xs.length : Int) ≤ i) (h2 : i < xs.length) : Er R (tOp (rIxT K) ta tb) σ H (gt0 d xs i) := er_ixT ha hb h1 h2 (gt0_some h1 h2)
/-- len -/
def rLenQ (K : PySem.W.Frag) : List V → Hp → VK → Prop := fun xs H Q => ∃ p ys, xs = [.ref p] ∧ (SqL K H p ys ∨ SqT K H p ys) ∧ Q (.int ys.length) H
theorem er_lenL {xs : List α} (ha : Er (rL K R) ta σ H xs) : Er rI (tCB (rLenQ K) (tCons ta tNil)) σ H (xs.length : Int) := fun H1 e Q q =>
  ha H1 e _ fun v H2 e2 ⟨a, vs, h1, hs, hp⟩ => ⟨a, vs, by rw [h1], .inl hs, q _ H2 e2 (by show V.int _ = V.int _; rw [paired_len hp])⟩
theorem er_lenT {xs : List α} (ha : Er (rT K R) ta σ H xs) : Er rI (tCB (rLenQ K) (tCons ta tNil)) σ H (xs.length : Int) := fun H1 e Q q =>
  ha H1 e _ fun v H2 e2 ⟨a, vs, h1, hs, hp⟩ => ⟨a, vs, by rw [h1], .inr hs, q _ H2 e2 (by show V.int _ = V.int _; rw [paired_len hp])⟩
theorem er_lenS {z : Str} (ha : Er rS ta σ H z) (hz : z.length ≤ 1000000) : Er rI (tCB (fun xs H Q => ∃ z, xs = [.str z] ∧ z.length ≤ sizeLine ∧ Q (.int z.length) H) (tCons ta tNil)) σ H (z.length : Int) := fun H1 e Q q =>
  ha H1 e _ fun v H2 e2 h => ⟨z, by rw [h], sz1 hz, q _ H2 e2 rfl⟩
theorem er_abs {i : Int} (ha : Er rI ta σ H i) : Er rI (tCB (fun xs H Q => ∃ i, xs = [.int i] ∧ Q (.int (if i < 0 then -i else i)) H) (tCons ta tNil)) σ H (if i < 0 then -i else i) := fun H1 e Q q =>
  ha H1 e _ fun v H2 e2 h => ⟨i, by rw [h], q _ H2 e2 rfl⟩
theorem er_max2 {i j : Int} (ha : Er rI ta σ H i) (hb : Er rI tb σ H j) : Er rI (tCB (fun xs H Q => ∃ i j, xs = [.int i, .int j] ∧ Q (.int (if j > i then j else i)) H) (tCons ta (tCons tb tNil))) σ H (if j > i then j else i) := fun H1 e Q q =>
  ha H1 e _ fun v H2 e2 h => hb H2 (e.trans e2) _ fun w H3 e3 h' => ⟨i, j, by rw [h, h'], q _ H3 (e2.trans e3) rfl⟩
theorem er_min2 {i j : Int} (ha : Er rI ta σ H i) (hb : Er rI tb σ H j) : Er rI (tCB (fun xs H Q => ∃ i j, xs = [.int i, .int j] ∧ Q (.int (if j < i then j else i)) H) (tCons ta (tCons tb tNil))) σ H (if j < i then j else i) := fun H1 e Q q =>
  ha H1 e _ fun v H2 e2 h => hb H2 (e.trans e2) _ fun w H3 e3 h' => ⟨i, j, by rw [h, h'], q _ H3 (e2.trans e3) rfl⟩
theorem er_intB {b : Bool} (ha : Er rB ta σ H b) : Er rI (tCB (fun xs H Q => (∃ i, xs = [.int i] ∧ Q (.int i) H) ∨ ∃ k, xs = [.bl k] ∧ Q (.int (if k then 1 else 0)) H) (tCons ta tNil)) σ H (if b then 1 else 0) := fun H1 e Q q =>
  ha H1 e _ fun v H2 e2 h => .inr ⟨b, by rw [h], q _ H2 e2 rfl⟩
/-- displays: the items one by one -/
def As (R : Rp α) (xs : List α) : List V → Hp → Prop := fun vs H => Paired (R H) xs vs
theorem eas0 : Ea tNil σ H (As R []) := fun H1 e Q q => q [] H1 (Ex.refl H1) .nil
theorem eas [Me R] {tr : TA} {xs : List α} (h : Er R ta σ H x) (hr : Ea tr σ H (As R xs)) : Ea (tCons ta tr) σ H (As R (x :: xs)) := fun H1 e Q q =>
  h H1 e _ fun v H2 e2 r2 => hr H2 (e.trans e2) _ fun vs H3 e3 p => q (v :: vs) H3 (e2.trans e3) (.cons (Me.ex e3 r2) p)
theorem el_lst [Me R] {tr : TA} {xs : List α} (h : Ea tr σ H (As R xs)) (hl : xs.length ≤ 1000000) : El R (tLst tr) σ H xs := fun H1 e Q q =>
  h H1 e _ fun vs H2 e2 p => ⟨by rw [← paired_len p]; exact sz1 hl, fun a ha => q a _ (fresh_back e2 ha) (e2.trans (Ex.new ha)) ⟨vs, upd_same, pm p fun _ _ z => Me.ex (Ex.new ha) z⟩⟩
theorem er_tup [Me R] {tr : TA} {xs : List α} (h : Ea tr σ H (As R xs)) (hl : xs.length ≤ 1000000) : Er (rT K R) (tTup tr) σ H xs := fun H1 e Q q =>
  h H1 e _ fun vs H2 e2 p => ⟨by rw [← paired_len p]; exact sz1 hl, fun a ha => q _ _ (e2.trans (Ex.new ha)) ⟨a, vs, rfl, SqT.of upd_same, pm p fun _ _ z => Me.ex (Ex.new ha) z⟩⟩
theorem s_retL {D : Ends} {σ : L2.St} {H : Hp} {p : Addr} {i : Nat} (hi : σ[i]? = some (some (.ref p))) (k : D.rt (.ref p) H) : tRet (tVar i) D σ H := ⟨_, hi, k⟩

/-! ### for -/
def Fl (J : It) (g : TG) (tb : TS) (D : Ends) (σ : L2.St) (H : Hp) : Prop := ∃ W : Nat → Nat → L2.St → Hp → Prop, (∃ m, W 0 m σ H) ∧ ∀ i m σ H, W i m σ H →
  (J.stop i H ∧ D.nx σ H) ∨ (J.go i H ∧ ∃ N : L2.St → Hp → Prop, (∀ σ' H', N σ' H' → ∃ m', m' < m ∧ W (i + 1) m' σ' H') ∧ ∀ x H', J.yld i H x H' → g x σ H' fun σ2 H2 => tb { D with nx := N, ct := N, bk := D.nx } σ2 H2)
/-- so many numbers from lo on -/
def rng (lo hi : Int) : List Int := (List.range (hi - lo).toNat).map fun (k : Nat) => lo + (k : Int)
theorem rng_len (lo hi : Int) : (rng lo hi).length = (hi - lo).toNat := by unfold rng; rw [List.length_map, List.length_range]
theorem rng_get {lo hi : Int} {i : Nat} (h : i < (hi - lo).toNat) : (rng lo hi)[i]? = some (lo + (i : Int)) := by
  unfold rng
  rw [List.getElem?_map, List.getElem?_range h]
  rfl
theorem rng_at {lo hi x : Int} {i : Nat} (h : (rng lo hi)[i]? = some x) : x = lo + (i : Int) ∧ lo ≤ x ∧ x < hi := by
  have hl := (List.getElem?_eq_some_iff.mp h).1
  rw [rng_len] at hl
  rw [rng_get hl] at h
  have := Option.some.inj h
  omega
theorem take_all {xs : List α} : xs.take xs.length = xs := List.take_length
theorem fold_snoc {σ' ι : Type} {f : σ' → ι → σ'} {b s : σ'} {xs : List ι} {i : Nat} {x : ι} (h : s = List.foldl f b (List.take i xs)) (hx : xs[i]? = some x) : f s x = List.foldl f b (List.take (i + 1) xs) := by
  rw [List.take_add_one, hx, List.foldl_append, h]
  rfl
/-- a list's items by their places -/
def enm (xs : List α) : List (Int × α) := xs.zipIdx.map fun p => ((p.2 : Int), p.1)
theorem enm_len (xs : List α) : (enm xs).length = xs.length := by unfold enm; rw [List.length_map, List.length_zipIdx]
theorem enm_get {xs : List α} {i : Nat} {x : α} (h : xs[i]? = some x) : (enm xs)[i]? = some ((i : Int), x) := by
  unfold enm
  rw [List.getElem?_map, List.getElem?_zipIdx, h]
  simp
theorem enm_at {xs : List α} {i : Nat} {x : Int × α} (h : (enm xs)[i]? = some x) : x.1 = (i : Int) ∧ xs[i]? = some x.2 := by
  have hl := (List.getElem?_eq_some_iff.mp h).1
  rw [enm_len] at hl
  have e := enm_get (List.getElem?_eq_getElem hl)
  rw [e] at h
  have := Option.some.inj h
  rw [← this]
  exact ⟨rfl, List.getElem?_eq_getElem hl⟩
theorem s_forT {tl : TE} {g : TG} {xs : List α} (h : Er (rT K R) tl σ H xs) (k : ∀ v H1, Ex H H1 → rT K R H1 xs v → ∀ a, v = .ref a → Fl (Itt K a) g tu D σ H1) : tFor (iTup K tl) g tu D σ H :=
  h H (Ex.refl H) _ fun v H1 e r => by
    obtain ⟨a, vs, h1, h2, h3⟩ := id r
    exact ⟨a, h1, ⟨vs, h2⟩, k v H1 e r a h1⟩
theorem s_forL {tl : TE} {g : TG} {xs : List α} (h : Er (rL K R) tl σ H xs) (k : ∀ v H1, Ex H H1 → rL K R H1 xs v → ∀ a, v = .ref a → Fl (Itl K a) g tu D σ H1) : tFor (iList K tl) g tu D σ H :=
  h H (Ex.refl H) _ fun v H1 e r => by
    obtain ⟨a, vs, h1, h2, h3⟩ := id r
    exact ⟨a, h1, ⟨vs, h2⟩, k v H1 e r a h1⟩
theorem s_forR1 {ta : TE} {g : TG} {hi : Int} (h : Er rI ta σ H hi) (hb : -(2 ^ 62) ≤ hi ∧ hi < 2 ^ 62) (k : ∀ H1, Ex H H1 → Fl (Itr 0 hi.toNat) g tu D σ H1) : tFor (iRng1 (tCons ta tNil)) g tu D σ H :=
  h H (Ex.refl H) _ fun v H1 e r => by
    cases r
    exact ⟨hi, rfl, hb.1, hb.2, k H1 e⟩
theorem s_forR2 {ta tb : TE} {g : TG} {lo hi : Int} (h : Er rI ta σ H lo) (h' : Er rI tb σ H hi) (hb : -(2 ^ 62) ≤ lo ∧ lo < 2 ^ 62 ∧ -(2 ^ 62) ≤ hi ∧ hi < 2 ^ 62) (k : ∀ H1, Ex H H1 → Fl (Itr lo (hi - lo).toNat) g tu D σ H1) : tFor (iRng2 (tCons ta (tCons tb tNil))) g tu D σ H :=
  h H (Ex.refl H) _ fun v H1 e r => h' H1 e _ fun v' H2 e2 r' => by
    cases r
    cases r'
    exact ⟨lo, hi, rfl, hb, k H2 (e.trans e2)⟩
theorem s_forEL {ta : TE} {g : TG} {xs : List α} (h : Er (rL K R) ta σ H xs) (k : ∀ v H1, Ex H H1 → rL K R H1 xs v → ∀ a, v = .ref a → Fl (Ite K a) g tu D σ H1) : tFor (iEnum K (tCons ta tNil)) g tu D σ H :=
  h H (Ex.refl H) _ fun v H1 e r => by
    obtain ⟨a, vs, h1, h2, h3⟩ := id r
    exact ⟨a, vs, by rw [h1], h2, k v H1 e r a h1⟩

theorem fl_core {J : It} {n : Nat} {g : TG} (Pv : Nat → L2.St → Hp → Prop) (h0 : Pv 0 σ H) (go : ∀ i σ H', i < n → Pv i σ H' → J.go i H') (stop : ∀ σ H', Pv n σ H' → J.stop n H')
    (hs : ∀ i x σ H' H'', i < n → Pv i σ H' → J.yld i H' x H'' → g x σ H'' fun σ2 H2 => tu { D with nx := Pv (i + 1), ct := Pv (i + 1), bk := D.nx } σ2 H2) (hd : ∀ σ H', Pv n σ H' → D.nx σ H') : Fl J g tu D σ H := by
  refine ⟨fun i m σ H => m = n - i ∧ i ≤ n ∧ Pv i σ H, ⟨n, by simp, Nat.zero_le _, h0⟩, ?_⟩
  rintro i m σ H ⟨rfl, hi, p⟩
  by_cases hlt : i < n
  · exact .inr ⟨go i σ H hlt p, Pv (i + 1), fun σ' H' p' => ⟨n - (i + 1), by omega, rfl, hlt, p'⟩, fun x H' y => hs i x σ H H' hlt p y⟩
  · have e : i = n := by omega
    subst e
    exact .inl ⟨stop σ H p, hd σ H p⟩
theorem fl_T {xs : List α} {v : V} (r : rT K R H xs v) (Pv : Nat → L2.St → Hp → Prop) (h0 : Pv 0 σ H) (hG : ∀ i σ H', i ≤ xs.length → Pv i σ H' → rT K R H' xs v)
    (hs : ∀ i x u σ H', i < xs.length → xs[i]? = some x → Pv i σ H' → R H' x u → tu { D with nx := Pv (i + 1), ct := Pv (i + 1), bk := D.nx } (σ.set j (some u)) H') (hd : ∀ σ H', Pv xs.length σ H' → D.nx σ H') :
    ∀ a, v = .ref a → Fl (Itt K a) (gName j) tu D σ H := by
  rintro a rfl
  refine fl_core Pv h0 (fun i σ H' hi p => ?_) (fun σ H' p => ?_) (fun i x σ H' H'' hi p y => ?_) hd
  · obtain ⟨_, vs, h1, h2, h3⟩ := hG i σ H' (by omega) p
    cases h1
    have hl := paired_len h3
    exact ⟨vs, vs[i]'(by omega), h2, List.getElem?_eq_getElem _⟩
  · obtain ⟨_, vs, h1, h2, h3⟩ := hG _ σ H' (Nat.le_refl _) p
    cases h1
    exact ⟨vs, h2, by rw [paired_len h3]; exact Nat.le_refl _⟩
  · obtain ⟨_, vs, h1, h2, h3⟩ := hG i σ H' (by omega) p
    cases h1
    obtain ⟨rfl, y⟩ := y
    have hx := y vs h2
    obtain ⟨z, hz, rz⟩ := paired_get' h3 hx
    exact hs i z x σ H'' hi hz p rz
theorem fl_L {xs : List α} {v : V} (r : rL K R H xs v) (Pv : Nat → L2.St → Hp → Prop) (h0 : Pv 0 σ H) (hG : ∀ i σ H', i ≤ xs.length → Pv i σ H' → rL K R H' xs v)
    (hs : ∀ i x u σ H', i < xs.length → xs[i]? = some x → Pv i σ H' → R H' x u → tu { D with nx := Pv (i + 1), ct := Pv (i + 1), bk := D.nx } (σ.set j (some u)) H') (hd : ∀ σ H', Pv xs.length σ H' → D.nx σ H') :
    ∀ a, v = .ref a → Fl (Itl K a) (gName j) tu D σ H := by
  rintro a rfl
  refine fl_core Pv h0 (fun i σ H' hi p => ?_) (fun σ H' p => ?_) (fun i x σ H' H'' hi p y => ?_) hd
  · obtain ⟨_, vs, h1, h2, h3⟩ := hG i σ H' (by omega) p
    cases h1
    have hl := paired_len h3
    exact ⟨vs, vs[i]'(by omega), h2, List.getElem?_eq_getElem _⟩
  · obtain ⟨_, vs, h1, h2, h3⟩ := hG _ σ H' (Nat.le_refl _) p
    cases h1
    exact ⟨vs, h2, by rw [paired_len h3]; exact Nat.le_refl _⟩
  · obtain ⟨_, vs, h1, h2, h3⟩ := hG i σ H' (by omega) p
    cases h1
    obtain ⟨rfl, y⟩ := y
    have hx := y vs h2
    obtain ⟨z, hz, rz⟩ := paired_get' h3 hx
    exact hs i z x σ H'' hi hz p rz
theorem fl_TI {xs : List Int} {v : V} (r : rT K rI H xs v) (Pv : Nat → L2.St → Hp → Prop) (h0 : Pv 0 σ H) (hG : ∀ i σ H', i ≤ xs.length → Pv i σ H' → rT K rI H' xs v)
    (hs : ∀ i x σ H', i < xs.length → xs[i]? = some x → Pv i σ H' → tu { D with nx := Pv (i + 1), ct := Pv (i + 1), bk := D.nx } (σ.set j (some (.int x))) H') (hd : ∀ σ H', Pv xs.length σ H' → D.nx σ H') :
    ∀ a, v = .ref a → Fl (Itt K a) (gName j) tu D σ H := fl_T r Pv h0 hG (fun i x u σ H' hi hx p r => by cases r; exact hs i x σ H' hi hx p) hd
theorem fl_LI {xs : List Int} {v : V} (r : rL K rI H xs v) (Pv : Nat → L2.St → Hp → Prop) (h0 : Pv 0 σ H) (hG : ∀ i σ H', i ≤ xs.length → Pv i σ H' → rL K rI H' xs v)
    (hs : ∀ i x σ H', i < xs.length → xs[i]? = some x → Pv i σ H' → tu { D with nx := Pv (i + 1), ct := Pv (i + 1), bk := D.nx } (σ.set j (some (.int x))) H') (hd : ∀ σ H', Pv xs.length σ H' → D.nx σ H') :
    ∀ a, v = .ref a → Fl (Itl K a) (gName j) tu D σ H := fl_L r Pv h0 hG (fun i x u σ H' hi hx p r => by cases r; exact hs i x σ H' hi hx p) hd
theorem fl_R {lo hi : Int} {n : Nat} (hn : n = (hi - lo).toNat) (Pv : Nat → L2.St → Hp → Prop) (h0 : Pv 0 σ H)
    (hs : ∀ i x σ H', i < (rng lo hi).length → (rng lo hi)[i]? = some x → Pv i σ H' → tu { D with nx := Pv (i + 1), ct := Pv (i + 1), bk := D.nx } (σ.set j (some (.int x))) H') (hd : ∀ σ H', Pv (rng lo hi).length σ H' → D.nx σ H') :
    Fl (Itr lo n) (gName j) tu D σ H := by
  subst hn
  have hl := rng_len lo hi
  refine fl_core (n := (hi - lo).toNat) Pv h0 (fun i σ H' hi p => hi) (fun σ H' p => Nat.le_refl _) (fun i x σ H' H'' hi p y => ?_) (fun σ H' p => hd σ H' (by rw [hl]; exact p))
  obtain ⟨rfl, rfl⟩ := y
  exact hs i _ σ H'' (by omega) (rng_get hi) p
/-- a pair's targets -/
abbrev g2 (K : PySem.W.Frag) (i j : Nat) : TG := gTup K 2 (gCons (gName i) (gCons (gName j) gNil))
theorem fl_EL {i0 : Nat} {xs : List α} {v : V} (r : rL K R H xs v) (Pv : Nat → L2.St → Hp → Prop) (h0 : Pv 0 σ H) (hG : ∀ i σ H', i ≤ xs.length → Pv i σ H' → rL K R H' xs v)
    (hs : ∀ i x u σ H' H'', i < (enm xs).length → (enm xs)[i]? = some x → Pv i σ H' → Ex H' H'' → R H' x.2 u → tu { D with nx := Pv (i + 1), ct := Pv (i + 1), bk := D.nx } ((σ.set i0 (some (.int x.1))).set j (some u)) H'') (hd : ∀ σ H', Pv (enm xs).length σ H' → D.nx σ H') :
    ∀ a, v = .ref a → Fl (Ite K a) (g2 K i0 j) tu D σ H := by
  rintro a rfl
  have hle := enm_len xs
  refine fl_core (n := xs.length) Pv h0 (fun i σ H' hi p => ?_) (fun σ H' p => ?_) (fun i x σ H' H'' hi p y => ?_) (fun σ H' p => hd σ H' (by rw [hle]; exact p))
  · obtain ⟨_, vs, h1, h2, h3⟩ := hG i σ H' (by omega) p
    cases h1
    have hl := paired_len h3
    exact ⟨vs, vs[i]'(by omega), h2, List.getElem?_eq_getElem _⟩
  · obtain ⟨_, vs, h1, h2, h3⟩ := hG _ σ H' (Nat.le_refl _) p
    cases h1
    exact ⟨vs, h2, by rw [paired_len h3]; exact Nat.le_refl _⟩
  · obtain ⟨_, vs, h1, h2, h3⟩ := hG i σ H' (by omega) p
    cases h1
    obtain ⟨T, u, rfl, nT, rfl, y⟩ := y
    have hx := y vs h2
    obtain ⟨z, hz, rz⟩ := paired_get' h3 hx
    exact ⟨T, [.int (i : Nat), u], rfl, SqT.of upd_same, rfl, _, _, rfl, _, _, rfl, rfl, hs i ((i : Int), z) u σ H' _ (by omega) (enm_get hz) p (Ex.new nT) rz⟩
theorem fl_ELI {i0 : Nat} {xs : List Int} {v : V} (r : rL K rI H xs v) (Pv : Nat → L2.St → Hp → Prop) (h0 : Pv 0 σ H) (hG : ∀ i σ H', i ≤ xs.length → Pv i σ H' → rL K rI H' xs v)
    (hs : ∀ i x σ H' H'', i < (enm xs).length → (enm xs)[i]? = some x → Pv i σ H' → Ex H' H'' → tu { D with nx := Pv (i + 1), ct := Pv (i + 1), bk := D.nx } ((σ.set i0 (some (.int x.1))).set j (some (.int x.2))) H'') (hd : ∀ σ H', Pv (enm xs).length σ H' → D.nx σ H') :
    ∀ a, v = .ref a → Fl (Ite K a) (g2 K i0 j) tu D σ H := fl_EL r Pv h0 hG (fun i x u σ H' H'' hi hx p e r => by cases r; exact hs i x σ H' H'' hi hx p e) hd

/-! ### own lists kept -/
theorem Lt.ne {p q : Addr} {xs : List α} (h : Lt R H p xs) (hq : H q = none) : p ≠ q := let ⟨_, h1, _⟩ := h; ne_of_none h1 hq
theorem Lt.kt {p : Addr} {xs : List α} (h : Lt R H p xs) (c : C1 p H H') : Kt K H H' := let ⟨_, h1, _⟩ := h; Kt.c1 h1 c
theorem Lt.keep [Mkt K R] {p q : Addr} {xs : List α} (h : Lt R H q xs) (kt : Kt K H H') (c : C1 p H H') (n : q ≠ p) : Lt R H' q xs := let ⟨vs, h1, h2⟩ := h; ⟨vs, c _ _ n h1, pm h2 fun _ _ z => Mkt.kt kt z⟩
/-- xs[i] = e: an own list -/
theorem s_set [Mkt K R] {l : Addr} {xs : List α} {i : Int} (hl : Lt R H l xs) (hj : σ[j]? = some (some (.ref l))) (h : Er R te σ H x) (hi : Er rI tb σ H i) (h1 : -(xs.length : Int) ≤ i) (h2 : i < xs.length)
    (k : ∀ H1, C1 l H H1 → Lt R H1 l (xs.set (ixs xs.length i) x) → D.nx σ H1) : tAsg te (gSub (tVar j) tb rSetL) D σ H := by
  obtain ⟨vs, e1, e2⟩ := hl
  refine h H (Ex.refl H) _ fun v H1 ex1 r => ⟨_, hj, ?_⟩
  refine hi H1 ex1 _ fun u H2 ex2 ri => ?_
  cases ri
  have hl := paired_len e2
  have e3 : H2 l = some (.lst vs) := ex2 _ _ (ex1 _ _ e1)
  refine ⟨l, vs, i, ixs xs.length i, rfl, rfl, e3, by rw [← hl]; exact (ixN_ixs h1 h2).1, ?_⟩
  have kt1 : Kt K H2 (upd H2 l (.lst (vs.set (ixs xs.length i) v))) := Kt.c1 e3 (C1.up (C1.refl l H2))
  exact k _ (C1.up (C1.ex (ex1.trans ex2))) ⟨_, upd_same, paired_set _ (pm e2 fun _ _ z => Mkt.kt ((Kt.ex (K := K) (ex1.trans ex2)).trans kt1) z) (Mkt.kt ((Kt.ex (K := K) ex2).trans kt1) r)⟩
/-! ### new lists -/
theorem el_own [Me R] {p : Addr} {xs : List α} {i : Nat} : True := trivial
theorem el_cat [Me R] {xs ys : List α} (ha : El R ta σ H xs) (hb : El R tb σ H ys) (hl : xs.length + ys.length ≤ 1000000) : El R (tOp rCat ta tb) σ H (xs ++ ys) := fun H1 e Q q =>
  ha H1 e _ fun p H2 n2 e2 l2 => hb H2 (e.trans e2) _ fun p' H3 n3 e3 l3 => by
    obtain ⟨vs, h1, h2⟩ := l2
    obtain ⟨ws, h3, h4⟩ := l3
    refine ⟨p, p', vs, ws, rfl, rfl, e3 _ _ h1, h3, by rw [← paired_len h2, ← paired_len h4]; exact sz1 hl, fun a na => ?_⟩
    exact q a _ (fresh_back (e2.trans e3) na) ((e2.trans e3).trans (Ex.new na)) ⟨_, upd_same, paired_append (pm h2 fun _ _ z => Me.ex (e3.trans (Ex.new na)) z) (pm h4 fun _ _ z => Me.ex (Ex.new na) z)⟩
def repL (xs : List α) (k : Int) : List α := (List.replicate k.toNat xs).flatten
theorem repL_len (xs : List α) (k : Int) : (repL xs k).length = k.toNat * xs.length := by unfold repL; simp
theorem paired_flat {F : α → V → Prop} {xs : List α} {vs : List V} (h : Paired F xs vs) : ∀ n, Paired F (List.replicate n xs).flatten (List.replicate n vs).flatten
  | 0 => .nil
  | n + 1 => by
    rw [List.replicate_succ, List.replicate_succ, List.flatten_cons, List.flatten_cons]
    exact paired_append h (paired_flat h n)
theorem el_rep [Me R] {xs : List α} {k : Int} (ha : El R ta σ H xs) (hb : Er rI tb σ H k) (h1 : -(2 ^ 63) ≤ k ∧ k < 2 ^ 63) (hl : xs.length * k.toNat ≤ 1000000) : El R (tOp rRep ta tb) σ H (repL xs k) := fun H1 e Q q =>
  ha H1 e _ fun p H2 n2 e2 l2 => hb H2 (e.trans e2) _ fun v H3 e3 r => by
    cases r
    obtain ⟨vs, h3, h4⟩ := l2
    refine ⟨p, k, vs, rfl, rfl, e3 _ _ h3, h1.1, h1.2, by rw [← paired_len h4]; exact sz1 hl, fun a na => ?_⟩
    exact q a _ (fresh_back (e2.trans e3) na) ((e2.trans e3).trans (Ex.new na)) ⟨_, upd_same, paired_flat (pm h4 fun _ _ z => Me.ex (e3.trans (Ex.new na)) z) _⟩
def rListQ (K : PySem.W.Frag) : List V → Hp → VK → Prop := fun xs H Q => ∃ p ys, xs = [.ref p] ∧ (SqL K H p ys ∨ SqT K H p ys) ∧ ∀ l, H l = none → Q (.ref l) (upd H l (.lst ys))
theorem el_listL [Me R] {xs : List α} (ha : Er (rL K R) ta σ H xs) : El R (tCB (rListQ K) (tCons ta tNil)) σ H xs := fun H1 e Q q =>
  ha H1 e _ fun v H2 e2 ⟨a, vs, h1, hs, hp⟩ => ⟨a, vs, by rw [h1], .inl hs, fun l nl => q l _ (fresh_back e2 nl) (e2.trans (Ex.new nl)) ⟨_, upd_same, pm hp fun _ _ z => Me.ex (Ex.new nl) z⟩⟩
theorem el_listT [Me R] {xs : List α} (ha : Er (rT K R) ta σ H xs) : El R (tCB (rListQ K) (tCons ta tNil)) σ H xs := fun H1 e Q q =>
  ha H1 e _ fun v H2 e2 ⟨a, vs, h1, hs, hp⟩ => ⟨a, vs, by rw [h1], .inr hs, fun l nl => q l _ (fresh_back e2 nl) (e2.trans (Ex.new nl)) ⟨_, upd_same, pm hp fun _ _ z => Me.ex (Ex.new nl) z⟩⟩
def rTupQ (K : PySem.W.Frag) : List V → Hp → VK → Prop := fun xs H Q => ∃ p ys, xs = [.ref p] ∧ ((SqL K H p ys ∧ ∀ l, H l = none → Q (.ref l) (upd H l (.tup ys))) ∨ (SqT K H p ys ∧ Q (.ref p) H))
theorem er_tupL [Me R] {xs : List α} (ha : Er (rL K R) ta σ H xs) : Er (rT K R) (tCB (rTupQ K) (tCons ta tNil)) σ H xs := fun H1 e Q q =>
  ha H1 e _ fun v H2 e2 ⟨a, vs, h1, hs, hp⟩ => ⟨a, vs, by rw [h1], .inl ⟨hs, fun l nl => q _ _ (e2.trans (Ex.new nl)) ⟨l, _, rfl, SqT.of upd_same, pm hp fun _ _ z => Me.ex (Ex.new nl) z⟩⟩⟩
theorem er_tupT {xs : List α} (ha : Er (rT K R) ta σ H xs) : Er (rT K R) (tCB (rTupQ K) (tCons ta tNil)) σ H xs := fun H1 e Q q =>
  ha H1 e _ fun v H2 e2 r => by
    obtain ⟨a, vs, h1, hs, hp⟩ := id r
    exact ⟨a, vs, by rw [h1], .inr ⟨hs, q _ H2 e2 (by rw [← h1]; exact r)⟩⟩
theorem er_catT [Me R] {xs ys : List α} (ha : Er (rT K R) ta σ H xs) (hb : Er (rT K R) tb σ H ys) (hl : xs.length + ys.length ≤ 1000000) : Er (rT K R) (tOp (rCatA K) ta tb) σ H (xs ++ ys) := fun H1 e Q q =>
  ha H1 e _ fun v H2 e2 r1 => hb H2 (e.trans e2) _ fun w H3 e3 r2 => by
    obtain ⟨a, vs, rfl, h1, h2⟩ := r1
    obtain ⟨b, ws, rfl, h3, h4⟩ := r2
    refine ⟨a, b, vs, ws, rfl, rfl, ex_t e3 h1, h3, by rw [← paired_len h2, ← paired_len h4]; exact sz1 hl, fun z => ?_, fun _ z => ?_, fun _ _ p np => ?_⟩
    · subst z
      cases h2
      exact q _ H3 (e2.trans e3) ⟨b, ws, rfl, h3, h4⟩
    · subst z
      cases h4
      exact q _ H3 (e2.trans e3) (by rw [List.append_nil]; exact ⟨a, vs, rfl, ex_t e3 h1, pm h2 fun _ _ z => Me.ex e3 z⟩)
    · exact q _ _ ((e2.trans e3).trans (Ex.new np)) ⟨p, _, rfl, SqT.of upd_same, paired_append (pm h2 fun _ _ z => Me.ex (e3.trans (Ex.new np)) z) (pm h4 fun _ _ z => Me.ex (Ex.new np) z)⟩
/-- slices -/
def cutL (xs : List α) (lo hi : Option Int) : List α := (xs.drop (HT.sIx xs.length 0 lo)).take (HT.sIx xs.length xs.length hi - HT.sIx xs.length 0 lo)
theorem paired_cut {F : α → V → Prop} {xs : List α} {vs : List V} (h : Paired F xs vs) (lo hi : Option Int) : Paired F (cutL xs lo hi) (cutV vs lo hi) := by
  have hl := paired_len h
  unfold cutL cutV
  rw [hl]
  exact paired_take _ (paired_drop _ h)
theorem cutL_hi {xs : List α} (k : Nat) : cutL xs none (some (k : Int)) = xs.take k := by
  unfold cutL
  rw [HT.sIx_none, HT.sIx_nat, List.drop_zero, Nat.sub_zero]
  by_cases h : k ≤ xs.length
  · rw [Nat.min_eq_left h]
  · rw [Nat.min_eq_right (by omega), List.take_of_length_le (Nat.le_refl _), List.take_of_length_le (by omega)]
theorem cutL_lo {xs : List α} (k : Nat) : cutL xs (some (k : Int)) none = xs.drop k := by
  unfold cutL
  rw [HT.sIx_none, HT.sIx_nat]
  by_cases h : k ≤ xs.length
  · rw [Nat.min_eq_left h, List.take_of_length_le (by rw [List.length_drop]; exact Nat.le_refl _)]
  · rw [Nat.min_eq_right (by omega), List.drop_of_length_le (Nat.le_refl _), List.drop_of_length_le (by omega), List.take_nil]
def Eo (to : TO) (σ : L2.St) (H : Hp) (o : Option Int) : Prop := ∀ H1, Ex H H1 → ∀ Q : Option Int → Hp → Prop, (∀ H2, Ex H1 H2 → Q o H2) → to σ H1 Q
theorem eo0 : Eo tNoPart σ H none := fun H1 _ _ q => q H1 (Ex.refl H1)
theorem eo1 {i : Int} (h : Er rI te σ H i) : Eo (tPart te) σ H (some i) := fun H1 e _ q => h H1 e _ fun v H2 e2 r => ⟨i, r, q H2 e2⟩
theorem er_slT [Me R] {tl th : TO} {xs : List α} {lo hi : Option Int} (h : Er (rT K R) te σ H xs) (h1 : Eo tl σ H lo) (h2 : Eo th σ H hi) : Er (rT K R) (tSl (rSlA K) te tl th) σ H (cutL xs lo hi) := fun H1 e Q q =>
  h H1 e _ fun v H2 e2 r => h1 H2 (e.trans e2) _ fun H3 e3 => h2 H3 ((e.trans e2).trans e3) _ fun H4 e4 => by
    obtain ⟨a, vs, rfl, hs, hp⟩ := r
    have hs4 := ex_t e4 (ex_t e3 hs)
    have hp4 : Paired (R H4) xs vs := pm hp fun _ _ z => Me.ex (e3.trans e4) z
    have e24 := (e2.trans e3).trans e4
    refine ⟨a, vs, rfl, hs4, fun z => ?_, fun _ p np => ?_⟩
    · refine q _ H4 e24 ⟨a, vs, rfl, hs4, ?_⟩
      have w : cutV vs lo hi = vs := by
        unfold cutV
        rw [z.1, z.2, List.drop_zero, Nat.sub_zero, List.take_length]
      have := paired_cut hp4 lo hi
      rw [w] at this
      exact this
    · exact q _ _ (e24.trans (Ex.new np)) ⟨p, _, rfl, SqT.of upd_same, pm (paired_cut hp4 lo hi) fun _ _ z => Me.ex (Ex.new np) z⟩
theorem el_sl [Me R] {tl th : TO} {xs : List α} {lo hi : Option Int} (h : Er (rL K R) te σ H xs) (h1 : Eo tl σ H lo) (h2 : Eo th σ H hi) : El R (tSl (rSlL K) te tl th) σ H (cutL xs lo hi) := fun H1 e Q q =>
  h H1 e _ fun v H2 e2 r => h1 H2 (e.trans e2) _ fun H3 e3 => h2 H3 ((e.trans e2).trans e3) _ fun H4 e4 => by
    obtain ⟨a, vs, rfl, hs, hp⟩ := r
    have e24 := (e2.trans e3).trans e4
    refine ⟨a, vs, rfl, ex_l e4 (ex_l e3 hs), fun p np => ?_⟩
    exact q p _ (fresh_back e24 np) (e24.trans (Ex.new np)) ⟨_, upd_same, pm (paired_cut hp lo hi) fun _ _ z => Me.ex ((e3.trans e4).trans (Ex.new np)) z⟩
/-- lists as arguments -/
def AcL (R : Rp α) (xs : List α) (P : List V → Hp → Prop) : List V → Hp → Prop := fun vs H => ∃ v r, vs = v :: r ∧ (∃ p, v = .ref p ∧ Lt R H p xs) ∧ P r H
theorem eacL [Me R] {tr : TA} {xs : List α} {P : List V → Hp → Prop} (h : El R ta σ H xs) (hr : Ea tr σ H P) : Ea (tCons ta tr) σ H (AcL R xs P) := fun H1 e Q q =>
  h H1 e _ fun p H2 _ e2 l2 => hr H2 (e.trans e2) _ fun vs H3 e3 pv => q (.ref p :: vs) H3 (e2.trans e3) ⟨.ref p, vs, rfl, ⟨p, rfl, l2.ex e3⟩, pv⟩
theorem eacO [Me R] {tr : TA} {p : Addr} {i : Nat} {xs : List α} {P : List V → Hp → Prop} (hi : σ[i]? = some (some (.ref p))) (h : Lt R H p xs) (hr : Ea tr σ H P) : Ea (tCons (tVar i) tr) σ H (AcL R xs P) := fun H1 e Q q =>
  ⟨_, hi, hr H1 e _ fun vs H3 e3 pv => q (.ref p :: vs) H3 e3 ⟨.ref p, vs, rfl, ⟨p, rfl, h.ex (e.trans e3)⟩, pv⟩⟩
def Gnl (sp : Sp) (P : List V → Hp → Prop) (R : Rp α) (xs : List α) : Prop := ∀ vs H1, P vs H1 → ∀ (Q : VK) (E : XK), (∀ p H2, H1 p = none → Ex H1 H2 → Lt R H2 p xs → Q (.ref p) H2) → sp vs H1 Q E
theorem el_call {sp : Sp} {E : XK} {tr : TA} {P : List V → Hp → Prop} {xs : List α} (h : Ea tr σ H P) (g : Gnl sp P R xs) : El R (tCall sp [] E tr) σ H xs := fun H1 e Q q =>
  h H1 e _ fun vs H2 e2 p => by
    show sp (vs ++ []) H2 Q E
    rw [List.append_nil]
    exact g vs H2 p Q E fun a H3 n e3 r => q a H3 (fresh_back e2 n) (e2.trans e3) r
end
theorem cmul_of {i j : Int} (h : (-(2 ^ 64) < i ∧ i < 2 ^ 64) ∨ (-(2 ^ 64) < j ∧ j < 2 ^ 64)) : CMul i j := h
theorem cmul_l {i j : Int} (h : -(2 ^ 64) < i ∧ i < 2 ^ 64) : CMul i j := .inl h
theorem cmul_r {i j : Int} (h : -(2 ^ 64) < j ∧ j < 2 ^ 64) : CMul i j := .inr h

/-! ### the same, with what follows -/
section
variable {α : Type} {K : PySem.W.Frag} {H : Hp} {σ : L2.St} {ta tb te : TE} {t u : TT} {R : Rp α} {x : α} {D : Ends} {tu tw tz : TS} {j : Nat}
theorem q_asgI {i : Int} (h : Er rI te σ H i) (k : ∀ H1, Ex H H1 → tz D (σ.set j (some (.int i))) H1) : tSeq (tAsg te (gName j)) tz D σ H := s_asgI (D := { D with nx := tz D }) h k
theorem q_asgB {i : Bool} (h : Er rB te σ H i) (k : ∀ H1, Ex H H1 → tz D (σ.set j (some (.bl i))) H1) : tSeq (tAsg te (gName j)) tz D σ H := s_asgB (D := { D with nx := tz D }) h k
theorem q_asgS {i : Str} (h : Er rS te σ H i) (k : ∀ H1, Ex H H1 → tz D (σ.set j (some (.str i))) H1) : tSeq (tAsg te (gName j)) tz D σ H := s_asgS (D := { D with nx := tz D }) h k
theorem q_asg (h : Er R te σ H x) (k : ∀ v H1, Ex H H1 → R H1 x v → tz D (σ.set j (some v)) H1) : tSeq (tAsg te (gName j)) tz D σ H := s_asg (D := { D with nx := tz D }) h k
theorem q_asgL {xs : List α} (h : El R te σ H xs) (k : ∀ p H1, H p = none → Ex H H1 → Lt R H1 p xs → tz D (σ.set j (some (.ref p))) H1) : tSeq (tAsg te (gName j)) tz D σ H := s_asgL (D := { D with nx := tz D }) h k
theorem q_drop (h : Er R te σ H x) (k : ∀ H1, Ex H H1 → tz D σ H1) : tSeq (tDrop te) tz D σ H := s_drop (D := { D with nx := tz D }) h k
theorem q_if {b : Bool} (h : Et t σ H b) (h1 : b = true → ∀ H1, Ex H H1 → tu { D with nx := tz D } σ H1) (h2 : b = false → ∀ H1, Ex H H1 → tw { D with nx := tz D } σ H1) : tSeq (tIfS t tu tw) tz D σ H := s_if (D := { D with nx := tz D }) h h1 h2
theorem q_when {b : Bool} (h : Et t σ H b) (h1 : b = true → ∀ H1, Ex H H1 → tu { D with nx := tz D } σ H1) (h2 : b = false → ∀ H1, Ex H H1 → tz D σ H1) : tSeq (tIfS t tu tNext) tz D σ H := s_when (D := { D with nx := tz D }) h h1 h2
theorem q_app [Mkt K R] {l : Addr} {xs : List α} (hl : Lt R H l xs) (hi : σ[j]? = some (some (.ref l))) (h : Er R te σ H x) (hz : xs.length < 1000000) (k : ∀ H1, C1 l H H1 → Lt R H1 l (xs ++ [x]) → tz D σ H1) :
    tSeq (tDrop (tBM K "list" rAppend (tVar j) (tCons te tNil))) tz D σ H := s_app (D := { D with nx := tz D }) hl hi h hz k
theorem q_set [Mkt K R] {l : Addr} {xs : List α} {i : Int} (hl : Lt R H l xs) (hj : σ[j]? = some (some (.ref l))) (h : Er R te σ H x) (hi : Er rI tb σ H i) (h1 : -(xs.length : Int) ≤ i) (h2 : i < xs.length)
    (k : ∀ H1, C1 l H H1 → Lt R H1 l (xs.set (ixs xs.length i) x) → tz D σ H1) : tSeq (tAsg te (gSub (tVar j) tb rSetL)) tz D σ H := s_set (K := K) (D := { D with nx := tz D }) hl hj h hi h1 h2 k
theorem q_while (W : Nat → L2.St → Hp → Prop) (m0 : Nat) (h0 : W m0 σ H)
    (hs : ∀ m σ' H', W m σ' H' → ∃ b, Et t σ' H' b ∧ (b = true → ∀ H1, Ex H' H1 → ∃ N : L2.St → Hp → Prop, (∀ σ2 H2, N σ2 H2 → ∃ m', m' < m ∧ W m' σ2 H2) ∧ tu { D with nx := N, ct := N, bk := tz D } σ' H1) ∧ (b = false → ∀ H1, Ex H' H1 → tz D σ' H1)) : tSeq (tWhile t tu) tz D σ H := s_while (D := { D with nx := tz D }) W m0 h0 hs
theorem q_forT {tl : TE} {g : TG} {xs : List α} (h : Er (rT K R) tl σ H xs) (k : ∀ v H1, Ex H H1 → rT K R H1 xs v → ∀ a, v = .ref a → Fl (Itt K a) g tu { D with nx := tz D } σ H1) : tSeq (tFor (iTup K tl) g tu) tz D σ H := s_forT (D := { D with nx := tz D }) h k
theorem q_forL {tl : TE} {g : TG} {xs : List α} (h : Er (rL K R) tl σ H xs) (k : ∀ v H1, Ex H H1 → rL K R H1 xs v → ∀ a, v = .ref a → Fl (Itl K a) g tu { D with nx := tz D } σ H1) : tSeq (tFor (iList K tl) g tu) tz D σ H := s_forL (D := { D with nx := tz D }) h k
theorem q_forR1 {ta : TE} {g : TG} {hi : Int} (h : Er rI ta σ H hi) (hb : -(2 ^ 62) ≤ hi ∧ hi < 2 ^ 62) (k : ∀ H1, Ex H H1 → Fl (Itr 0 hi.toNat) g tu { D with nx := tz D } σ H1) : tSeq (tFor (iRng1 (tCons ta tNil)) g tu) tz D σ H := s_forR1 (D := { D with nx := tz D }) h hb k
theorem q_forR2 {ta tb : TE} {g : TG} {lo hi : Int} (h : Er rI ta σ H lo) (h' : Er rI tb σ H hi) (hb : -(2 ^ 62) ≤ lo ∧ lo < 2 ^ 62 ∧ -(2 ^ 62) ≤ hi ∧ hi < 2 ^ 62) (k : ∀ H1, Ex H H1 → Fl (Itr lo (hi - lo).toNat) g tu { D with nx := tz D } σ H1) : tSeq (tFor (iRng2 (tCons ta (tCons tb tNil))) g tu) tz D σ H := s_forR2 (D := { D with nx := tz D }) h h' hb k
theorem q_forEL {ta : TE} {g : TG} {xs : List α} (h : Er (rL K R) ta σ H xs) (k : ∀ v H1, Ex H H1 → rL K R H1 xs v → ∀ a, v = .ref a → Fl (Ite K a) g tu { D with nx := tz D } σ H1) : tSeq (tFor (iEnum K (tCons ta tNil)) g tu) tz D σ H := s_forEL (D := { D with nx := tz D }) h k
end
/-! ### for, with what follows -/
section
variable {α : Type} {K : PySem.W.Frag} {H : Hp} {σ : L2.St} {R : Rp α} {D : Ends} {tu tz : TS} {j : Nat}
theorem fq_T {xs : List α} {v : V} (r : rT K R H xs v) (Pv : Nat → L2.St → Hp → Prop) (h0 : Pv 0 σ H) (hG : ∀ i σ H', i ≤ xs.length → Pv i σ H' → rT K R H' xs v)
    (hs : ∀ i x u σ H', i < xs.length → xs[i]? = some x → Pv i σ H' → R H' x u → tu { nx := Pv (i + 1), rt := D.rt, bk := tz D, ct := Pv (i + 1) } (σ.set j (some u)) H') (hd : ∀ σ H', Pv xs.length σ H' → tz D σ H') :
    ∀ a, v = .ref a → Fl (Itt K a) (gName j) tu { D with nx := tz D } σ H := fl_T (D := { D with nx := tz D }) r Pv h0 hG hs hd
theorem fq_L {xs : List α} {v : V} (r : rL K R H xs v) (Pv : Nat → L2.St → Hp → Prop) (h0 : Pv 0 σ H) (hG : ∀ i σ H', i ≤ xs.length → Pv i σ H' → rL K R H' xs v)
    (hs : ∀ i x u σ H', i < xs.length → xs[i]? = some x → Pv i σ H' → R H' x u → tu { nx := Pv (i + 1), rt := D.rt, bk := tz D, ct := Pv (i + 1) } (σ.set j (some u)) H') (hd : ∀ σ H', Pv xs.length σ H' → tz D σ H') :
    ∀ a, v = .ref a → Fl (Itl K a) (gName j) tu { D with nx := tz D } σ H := fl_L (D := { D with nx := tz D }) r Pv h0 hG hs hd
theorem fq_TI {xs : List Int} {v : V} (r : rT K rI H xs v) (Pv : Nat → L2.St → Hp → Prop) (h0 : Pv 0 σ H) (hG : ∀ i σ H', i ≤ xs.length → Pv i σ H' → rT K rI H' xs v)
    (hs : ∀ i x σ H', i < xs.length → xs[i]? = some x → Pv i σ H' → tu { nx := Pv (i + 1), rt := D.rt, bk := tz D, ct := Pv (i + 1) } (σ.set j (some (.int x))) H') (hd : ∀ σ H', Pv xs.length σ H' → tz D σ H') :
    ∀ a, v = .ref a → Fl (Itt K a) (gName j) tu { D with nx := tz D } σ H := fl_TI (D := { D with nx := tz D }) r Pv h0 hG hs hd
theorem fq_LI {xs : List Int} {v : V} (r : rL K rI H xs v) (Pv : Nat → L2.St → Hp → Prop) (h0 : Pv 0 σ H) (hG : ∀ i σ H', i ≤ xs.length → Pv i σ H' → rL K rI H' xs v)
    (hs : ∀ i x σ H', i < xs.length → xs[i]? = some x → Pv i σ H' → tu { nx := Pv (i + 1), rt := D.rt, bk := tz D, ct := Pv (i + 1) } (σ.set j (some (.int x))) H') (hd : ∀ σ H', Pv xs.length σ H' → tz D σ H') :
    ∀ a, v = .ref a → Fl (Itl K a) (gName j) tu { D with nx := tz D } σ H := fl_LI (D := { D with nx := tz D }) r Pv h0 hG hs hd
theorem fq_R {lo hi : Int} {n : Nat} (hn : n = (hi - lo).toNat) (Pv : Nat → L2.St → Hp → Prop) (h0 : Pv 0 σ H)
    (hs : ∀ i x σ H', i < (rng lo hi).length → (rng lo hi)[i]? = some x → Pv i σ H' → tu { nx := Pv (i + 1), rt := D.rt, bk := tz D, ct := Pv (i + 1) } (σ.set j (some (.int x))) H') (hd : ∀ σ H', Pv (rng lo hi).length σ H' → tz D σ H') :
    Fl (Itr lo n) (gName j) tu { D with nx := tz D } σ H := fl_R (D := { D with nx := tz D }) hn Pv h0 hs hd
theorem fq_EL {i0 : Nat} {xs : List α} {v : V} (r : rL K R H xs v) (Pv : Nat → L2.St → Hp → Prop) (h0 : Pv 0 σ H) (hG : ∀ i σ H', i ≤ xs.length → Pv i σ H' → rL K R H' xs v)
    (hs : ∀ i x u σ H' H'', i < (enm xs).length → (enm xs)[i]? = some x → Pv i σ H' → Ex H' H'' → R H' x.2 u → tu { nx := Pv (i + 1), rt := D.rt, bk := tz D, ct := Pv (i + 1) } ((σ.set i0 (some (.int x.1))).set j (some u)) H'') (hd : ∀ σ H', Pv (enm xs).length σ H' → tz D σ H') :
    ∀ a, v = .ref a → Fl (Ite K a) (g2 K i0 j) tu { D with nx := tz D } σ H := fl_EL (D := { D with nx := tz D }) r Pv h0 hG hs hd
theorem fq_ELI {i0 : Nat} {xs : List Int} {v : V} (r : rL K rI H xs v) (Pv : Nat → L2.St → Hp → Prop) (h0 : Pv 0 σ H) (hG : ∀ i σ H', i ≤ xs.length → Pv i σ H' → rL K rI H' xs v)
    (hs : ∀ i x σ H' H'', i < (enm xs).length → (enm xs)[i]? = some x → Pv i σ H' → Ex H' H'' → tu { nx := Pv (i + 1), rt := D.rt, bk := tz D, ct := Pv (i + 1) } ((σ.set i0 (some (.int x.1))).set j (some (.int x.2))) H'') (hd : ∀ σ H', Pv (enm xs).length σ H' → tz D σ H') :
    ∀ a, v = .ref a → Fl (Ite K a) (g2 K i0 j) tu { D with nx := tz D } σ H := fl_ELI (D := { D with nx := tz D }) r Pv h0 hG hs hd
end
/-! ### comprehensions -/
section
variable {α β ι : Type} {K : PySem.W.Frag} {H : Hp} {σ : L2.St} {ta tb te tl : TE} {tt : TT} {R : Rp α} {Ri : Rp β} {vs : List Nat} {j : Nat}
def Good (R : Rp α) (σ : L2.St) (vs : List Nat) (tt : TT) (te : TE) (σ2 : L2.St) (H : Hp) (b : Bool) (y : α) : Prop := wipe σ2 vs = wipe σ vs ∧ Et tt σ2 H b ∧ (b = true → Er R te σ2 H y)
theorem el_core [Me R] [Mkt K R] {J : It} {g : TG} {xs : List ι} (c : ι → Bool) (f : ι → α) (hl : xs.length < 1000000)
    (go : ∀ i H', Ex H H' → i < xs.length → J.go i H') (stop : ∀ H', Ex H H' → J.stop xs.length H')
    (turn : ∀ i x u H' H'' (C : L2.St → Hp → Prop), xs[i]? = some x → Ex H H' → J.yld i H' u H'' → (∀ σ2 H3, Ex H' H3 → Good R σ vs tt te σ2 H3 (c x) (f x) → C σ2 H3) → g u (wipe σ vs) H'' C)
    (Q : VK) (q : ∀ p H2, H p = none → Ex H H2 → Lt R H2 p ((xs.filter c).map f) → Q (.ref p) H2) :
    ∀ D, H D = none → ∃ W : Nat → Nat → Hp → Prop, (∃ m, W 0 m (upd H D (.lst []))) ∧ ∀ i m H, W i m H →
      (J.stop i H ∧ Q (.ref D) H) ∨ (J.go i H ∧ ∃ Nx : Hp → Prop, (∀ H', Nx H' → ∃ m', m' < m ∧ W (i + 1) m' H') ∧ ∀ x H', J.yld i H x H' → g x (wipe σ vs) H' fun σ2 H2 => wipe σ2 vs = wipe σ vs ∧ tt σ2 H2 fun b H3 =>
        if b = true then te σ2 H3 fun y H4 => ∃ acc, H4 D = some (.lst acc) ∧ acc.length < sizeLine ∧ Nx (upd H4 D (.lst (acc ++ [y]))) else Nx H3) := by
  intro D hD
  refine ⟨fun i m H' => m = xs.length - i ∧ i ≤ xs.length ∧ Ex H H' ∧ Lt R H' D (((xs.take i).filter c).map f), ⟨xs.length, rfl, Nat.zero_le _, Ex.new hD, ⟨[], upd_same, .nil⟩⟩, ?_⟩
  rintro i m H1 ⟨rfl, hi, e1, l1⟩
  by_cases hlt : i < xs.length
  · have hx : xs[i]? = some xs[i] := List.getElem?_eq_getElem hlt
    refine .inr ⟨go i H1 e1 hlt, fun H' => Ex H H' ∧ Lt R H' D (((xs.take (i + 1)).filter c).map f), fun H' h => ⟨xs.length - (i + 1), by omega, rfl, hlt, h⟩, fun u H2 y => ?_⟩
    refine turn i _ u H1 H2 _ hx e1 y fun σ2 H3 e3 g => ⟨g.1, ?_⟩
    have tk : xs.take (i + 1) = xs.take i ++ [xs[i]] := by rw [List.take_add_one, hx]; rfl
    refine g.2.1 H3 (Ex.refl H3) _ fun H4 e4 => ?_
    cases hb : c xs[i] with
    | true =>
      show te σ2 H4 _
      refine g.2.2 hb H4 e4 _ fun v H5 e5 r5 => ?_
      obtain ⟨acc, a1, a2⟩ := l1.ex ((e3.trans e4).trans e5)
      have la : acc.length ≤ i := by
        rw [← paired_len a2, List.length_map]
        exact Nat.le_trans (List.length_filter_le _ _) (by rw [List.length_take]; omega)
      have kt1 : Kt K H5 (upd H5 D (.lst (acc ++ [v]))) := Kt.c1 a1 (C1.up (C1.refl D H5))
      refine ⟨acc, a1, sz0 (by omega), (fun a o h => ?_), ⟨acc ++ [v], upd_same, ?_⟩⟩
      · rw [upd_ne (ne_of_none h hD)]
        exact e5 _ _ (e4 _ _ (e3 _ _ (e1 _ _ h)))
      · rw [tk, List.filter_append, List.map_append]
        refine paired_append (pm a2 fun _ _ z => Mkt.kt kt1 z) ?_
        rw [show [xs[i]].filter c = [xs[i]] by simp [hb]]
        exact .cons (Mkt.kt kt1 r5) .nil
    | false =>
      show Ex H H4 ∧ _
      refine ⟨((e1.trans e3).trans e4), ?_⟩
      rw [tk, List.filter_append, List.filter_cons, hb]
      simpa using l1.ex (e3.trans e4)
  · have hi2 : i = xs.length := by omega
    subst hi2
    rw [List.take_length] at l1
    exact .inl ⟨stop H1 e1, q D H1 hD e1 l1⟩
theorem et_yes {σ : L2.St} {H : Hp} : Et tYes σ H true := fun H1 _ _ q => q H1 (Ex.refl H1)
/-- [e for x in range(n) (if c)] -/
theorem el_lcR1c [Me R] [Mkt K R] {hi : Int} {c : Int → Bool} {f : Int → α} (h : Er rI ta σ H hi) (hb : -(2 ^ 62) ≤ hi ∧ hi < 1000000) (hw : ∀ x, wipe ((wipe σ vs).set j (some x)) vs = wipe σ vs)
    (ht : ∀ x H1, Ex H H1 → (0 ≤ x ∧ x < hi) → Et tt ((wipe σ vs).set j (some (.int x))) H1 (c x)) (he : ∀ x H1, Ex H H1 → (0 ≤ x ∧ x < hi) → c x = true → Er R te ((wipe σ vs).set j (some (.int x))) H1 (f x)) :
    El R (tLc (iRng1 (tCons ta tNil)) (gName j) tt te vs) σ H (((rng 0 hi).filter c).map f) := fun H1 e1 Q q =>
  h H1 e1 _ fun v H2 e2 r => by
    cases r
    have hl := rng_len 0 hi
    have hn : (rng 0 hi).length = hi.toNat := by rw [hl, Int.sub_zero]
    refine ⟨hi, rfl, hb.1, by omega, el_core (K := K) (R := R) (xs := rng 0 hi) c f (by omega) (fun i H' _ h => by rw [hn] at h; exact h) (fun H' _ => by rw [hn]; exact Nat.le_refl _) (fun i x u H' H'' C hx e3 y k => ?_) Q fun p H3 n3 e3 l3 => q p H3 (fresh_back e2 n3) (e2.trans e3) l3⟩
    obtain ⟨rfl, rfl⟩ := y
    have hx2 := rng_at hx
    have ex : x = 0 + (i : Int) := hx2.1
    refine k _ H'' (Ex.refl H'') ⟨hw _, ?_, fun hc => ?_⟩
    · rw [← ex]; exact ht x H'' ((e1.trans e2).trans e3) hx2.2
    · rw [← ex]; exact he x H'' ((e1.trans e2).trans e3) hx2.2 hc
theorem el_lcR1 [Me R] [Mkt K R] {hi : Int} {f : Int → α} (h : Er rI ta σ H hi) (hb : -(2 ^ 62) ≤ hi ∧ hi < 1000000) (hw : ∀ x, wipe ((wipe σ vs).set j (some x)) vs = wipe σ vs)
    (he : ∀ x H1, Ex H H1 → (0 ≤ x ∧ x < hi) → Er R te ((wipe σ vs).set j (some (.int x))) H1 (f x)) : El R (tLc (iRng1 (tCons ta tNil)) (gName j) tYes te vs) σ H ((rng 0 hi).map f) := by
  have z := el_lcR1c (K := K) (c := fun _ => true) (f := f) h hb hw (fun _ _ _ _ => et_yes) fun x H1 e hx _ => he x H1 e hx
  rw [List.filter_eq_self.mpr fun _ _ => rfl] at z
  exact z
/-- [e for x in xs (if c)], a list; a tuple -/
theorem el_lcLc [Me R] [Mkt K R] [Me Ri] {xs : List β} {c : β → Bool} {f : β → α} (h : Er (rL K Ri) tl σ H xs) (hb : xs.length < 1000000) (hw : ∀ x, wipe ((wipe σ vs).set j (some x)) vs = wipe σ vs)
    (ht : ∀ x v H1, Ex H H1 → x ∈ xs → Ri H1 x v → Et tt ((wipe σ vs).set j (some v)) H1 (c x)) (he : ∀ x v H1, Ex H H1 → x ∈ xs → Ri H1 x v → c x = true → Er R te ((wipe σ vs).set j (some v)) H1 (f x)) :
    El R (tLc (iList K tl) (gName j) tt te vs) σ H ((xs.filter c).map f) := fun H1 e1 Q q =>
  h H1 e1 _ fun v H2 e2 r => by
    obtain ⟨a, us, rfl, hs, hp⟩ := r
    have hl := paired_len hp
    refine ⟨a, rfl, ⟨us, hs⟩, el_core (K := K) (R := R) (J := Itl K a) (xs := xs) c f hb (fun i H' e3 h => ⟨us, us[i]'(by omega), ex_l e3 hs, List.getElem?_eq_getElem _⟩) (fun H' e3 => ⟨us, ex_l e3 hs, by omega⟩) (fun i x u H' H'' C hx e3 y k => ?_) Q fun p H3 n3 e3 l3 => q p H3 (fresh_back e2 n3) (e2.trans e3) l3⟩
    obtain ⟨rfl, y⟩ := y
    obtain ⟨u', hu, ru⟩ := paired_get hp hx
    have eu := y us (ex_l e3 hs)
    rw [hu] at eu
    cases eu
    exact k _ H'' (Ex.refl H'') ⟨hw _, ht x u H'' ((e1.trans e2).trans e3) (List.mem_of_getElem? hx) (Me.ex e3 ru), fun hc => he x u H'' ((e1.trans e2).trans e3) (List.mem_of_getElem? hx) (Me.ex e3 ru) hc⟩
theorem el_lcL [Me R] [Mkt K R] [Me Ri] {xs : List β} {f : β → α} (h : Er (rL K Ri) tl σ H xs) (hb : xs.length < 1000000) (hw : ∀ x, wipe ((wipe σ vs).set j (some x)) vs = wipe σ vs)
    (he : ∀ x v H1, Ex H H1 → x ∈ xs → Ri H1 x v → Er R te ((wipe σ vs).set j (some v)) H1 (f x)) : El R (tLc (iList K tl) (gName j) tYes te vs) σ H (xs.map f) := by
  have z := el_lcLc (K := K) (c := fun _ => true) (f := f) h hb hw (fun _ _ _ _ _ _ => et_yes) fun x v H1 e hx r _ => he x v H1 e hx r
  rw [List.filter_eq_self.mpr fun _ _ => rfl] at z
  exact z
theorem el_lcTc [Me R] [Mkt K R] [Me Ri] {xs : List β} {c : β → Bool} {f : β → α} (h : Er (rT K Ri) tl σ H xs) (hb : xs.length < 1000000) (hw : ∀ x, wipe ((wipe σ vs).set j (some x)) vs = wipe σ vs)
    (ht : ∀ x v H1, Ex H H1 → x ∈ xs → Ri H1 x v → Et tt ((wipe σ vs).set j (some v)) H1 (c x)) (he : ∀ x v H1, Ex H H1 → x ∈ xs → Ri H1 x v → c x = true → Er R te ((wipe σ vs).set j (some v)) H1 (f x)) :
    El R (tLc (iTup K tl) (gName j) tt te vs) σ H ((xs.filter c).map f) := fun H1 e1 Q q =>
  h H1 e1 _ fun v H2 e2 r => by
    obtain ⟨a, us, rfl, hs, hp⟩ := r
    have hl := paired_len hp
    refine ⟨a, rfl, ⟨us, hs⟩, el_core (K := K) (R := R) (J := Itt K a) (xs := xs) c f hb (fun i H' e3 h => ⟨us, us[i]'(by omega), ex_t e3 hs, List.getElem?_eq_getElem _⟩) (fun H' e3 => ⟨us, ex_t e3 hs, by omega⟩) (fun i x u H' H'' C hx e3 y k => ?_) Q fun p H3 n3 e3 l3 => q p H3 (fresh_back e2 n3) (e2.trans e3) l3⟩
    obtain ⟨rfl, y⟩ := y
    obtain ⟨u', hu, ru⟩ := paired_get hp hx
    have eu := y us (ex_t e3 hs)
    rw [hu] at eu
    cases eu
    exact k _ H'' (Ex.refl H'') ⟨hw _, ht x u H'' ((e1.trans e2).trans e3) (List.mem_of_getElem? hx) (Me.ex e3 ru), fun hc => he x u H'' ((e1.trans e2).trans e3) (List.mem_of_getElem? hx) (Me.ex e3 ru) hc⟩
theorem el_lcT [Me R] [Mkt K R] [Me Ri] {xs : List β} {f : β → α} (h : Er (rT K Ri) tl σ H xs) (hb : xs.length < 1000000) (hw : ∀ x, wipe ((wipe σ vs).set j (some x)) vs = wipe σ vs)
    (he : ∀ x v H1, Ex H H1 → x ∈ xs → Ri H1 x v → Er R te ((wipe σ vs).set j (some v)) H1 (f x)) : El R (tLc (iTup K tl) (gName j) tYes te vs) σ H (xs.map f) := by
  have z := el_lcTc (K := K) (c := fun _ => true) (f := f) h hb hw (fun _ _ _ _ _ _ => et_yes) fun x v H1 e hx r _ => he x v H1 e hx r
  rw [List.filter_eq_self.mpr fun _ _ => rfl] at z
  exact z
/-- the items ints -/
theorem el_lcLI [Me R] [Mkt K R] {xs : List Int} {f : Int → α} (h : Er (rL K rI) tl σ H xs) (hb : xs.length < 1000000) (hw : ∀ x, wipe ((wipe σ vs).set j (some x)) vs = wipe σ vs)
    (he : ∀ x H1, Ex H H1 → x ∈ xs → Er R te ((wipe σ vs).set j (some (.int x))) H1 (f x)) : El R (tLc (iList K tl) (gName j) tYes te vs) σ H (xs.map f) :=
  el_lcL h hb hw fun x v H1 e hx r => by cases r; exact he x H1 e hx
theorem el_lcTI [Me R] [Mkt K R] {xs : List Int} {f : Int → α} (h : Er (rT K rI) tl σ H xs) (hb : xs.length < 1000000) (hw : ∀ x, wipe ((wipe σ vs).set j (some x)) vs = wipe σ vs)
    (he : ∀ x H1, Ex H H1 → x ∈ xs → Er R te ((wipe σ vs).set j (some (.int x))) H1 (f x)) : El R (tLc (iTup K tl) (gName j) tYes te vs) σ H (xs.map f) :=
  el_lcT h hb hw fun x v H1 e hx r => by cases r; exact he x H1 e hx
theorem el_lcLIc [Me R] [Mkt K R] {xs : List Int} {c : Int → Bool} {f : Int → α} (h : Er (rL K rI) tl σ H xs) (hb : xs.length < 1000000) (hw : ∀ x, wipe ((wipe σ vs).set j (some x)) vs = wipe σ vs)
    (ht : ∀ x H1, Ex H H1 → x ∈ xs → Et tt ((wipe σ vs).set j (some (.int x))) H1 (c x)) (he : ∀ x H1, Ex H H1 → x ∈ xs → c x = true → Er R te ((wipe σ vs).set j (some (.int x))) H1 (f x)) : El R (tLc (iList K tl) (gName j) tt te vs) σ H ((xs.filter c).map f) :=
  el_lcLc h hb hw (fun x v H1 e hx r => by cases r; exact ht x H1 e hx) fun x v H1 e hx r hc => by cases r; exact he x H1 e hx hc
theorem el_lcTIc [Me R] [Mkt K R] {xs : List Int} {c : Int → Bool} {f : Int → α} (h : Er (rT K rI) tl σ H xs) (hb : xs.length < 1000000) (hw : ∀ x, wipe ((wipe σ vs).set j (some x)) vs = wipe σ vs)
    (ht : ∀ x H1, Ex H H1 → x ∈ xs → Et tt ((wipe σ vs).set j (some (.int x))) H1 (c x)) (he : ∀ x H1, Ex H H1 → x ∈ xs → c x = true → Er R te ((wipe σ vs).set j (some (.int x))) H1 (f x)) : El R (tLc (iTup K tl) (gName j) tt te vs) σ H ((xs.filter c).map f) :=
  el_lcTc h hb hw (fun x v H1 e hx r => by cases r; exact ht x H1 e hx) fun x v H1 e hx r hc => by cases r; exact he x H1 e hx hc
end
/-! ### the rules, the written part named -/
section
variable {X : Cx}
theorem ix_listK (K : PySem.W.Frag) (h : X.K = K := by rfl) : IxR X (rIxL K) := by subst h; exact ix_list
theorem ix_tupK (K : PySem.W.Frag) (h : X.K = K := by rfl) : IxR X (rIxT K) := by subst h; exact ix_tup
theorem sl_listK (K : PySem.W.Frag) (h : X.K = K := by rfl) : SlR X (rSlL K) := by subst h; exact sl_list
theorem sl_tupAK (K : PySem.W.Frag) (h : X.K = K := by rfl) : SlR X (rSlA K) := by subst h; exact sl_tupA
theorem op_catAK (K : PySem.W.Frag) (h : X.K = K := by rfl) : OpR X (binaryOp .Add) (rCatA K) := by subst h; exact op_catA
theorem op_in_seqK (K : PySem.W.Frag) (h : X.K = K := by rfl) : OpR X (compareOp .In) (rIn K false) := by subst h; exact op_in_seq
theorem op_notIn_seqK (K : PySem.W.Frag) (h : X.K = K := by rfl) : OpR X (compareOp .NotIn) (rIn K true) := by subst h; exact op_notIn_seq
theorem call_len_seqK (K : PySem.W.Frag) (h : X.K = K := by rfl) : CallR X (.builtin "len") (rLenQ K) := by subst h; exact call_len_seq
theorem call_list_ofK (K : PySem.W.Frag) (h : X.K = K := by rfl) : CallR X (.type "list") (rListQ K) := by subst h; exact call_list_of
theorem call_tuple_ofK (K : PySem.W.Frag) (h : X.K = K := by rfl) : CallR X (.type "tuple") (rTupQ K) := by subst h; exact call_tuple_of
theorem call_isiK' (K : PySem.W.Frag) (h : X.K = K := by rfl) : CallR X (.builtin "isinstance") (rIsi K) := by subst h; exact call_isi
theorem cr_sumK (K : PySem.W.Frag) (hc : X.calm = true) (h : X.K = K := by rfl) : CallR X (.builtin "sum") (rSum K) := by subst h; exact cr_sum hc
variable {tg l e : Expr} {tl : TE} {ta : TA} {p pos apos cpos : Pos} {t : TGs} {es : List Expr} {k n : Nat}
theorem pi_listK (K : PySem.W.Frag) (hl : PE X l tl) (h : X.K = K := by rfl) : PI X tg l (iList K tl) := by subst h; exact pi_list hl
theorem pi_tupK (K : PySem.W.Frag) (hl : PE X l tl) (h : X.K = K := by rfl) : PI X tg l (iTup K tl) := by subst h; exact pi_tup hl
theorem pi_enumK (K : PySem.W.Frag) {tpos : Pos} {elts : List Expr} {kk : Nat} (hg : Gl X "enumerate") (hm : X.mg "enumerate" = none) (ha : PA X [e] ta) (h : X.K = K := by rfl) (hs : starEach [e] X.env = [(false, eval e X.env)] := by rfl) :
    PI X (.Tuple elts kk tpos) (.Call (.Name "enumerate" p) [e] [] pos) (iEnum K ta) := by subst h; exact pi_enum hg hm ha hs
theorem pg_tupK (K : PySem.W.Frag) (n : Nat) (hc : X.calm = true) (h : PGs X es t) (hK : X.K = K := by rfl)
    (hn : (assignEach es X.env).length = n := by rfl) (hst : (assignEach es X.env).findIdx? (·.1) = none := by rfl) : PG X (.Tuple es k pos) (gTup K n t) := by subst hK; exact pg_tup hc h hn hst
end
/-! ### a def as it stands; a thing; primes -/
structure Df (P : Program) (w : World) (K : PySem.W.Frag) (mg : Str → Option Value) (base : Heap) (CX : CXT) (k : Nat) (x : Str) (ps : List Str) (sp : Sp) : Type where
  f : Addr
  fd : FuncData
  ok : FnOk P w K mg base CX k f fd ps sp
  g : mg x = some (.ref f)
  kp : PySem.W.keepIn K (.ref f) = true
  b : Binds K fd ps []
/-- a written tuple by its name -/
structure Cn (K : PySem.W.Frag) (mg : Str → Option Value) (x : Str) (xs : List V) : Type where
  a : Addr
  g : mg x = some (.ref a)
  s : ∀ H, SqT K H a xs
inductive Th (K : PySem.W.Frag) (H : Hp) : V → Prop where
  | non : Th K H .non
  | bl (b : Bool) : Th K H (.bl b)
  | int (i : Int) : Th K H (.int i)
  | str (s : Str) : Th K H (.str s)
  | tup {a : Addr} {xs : List V} (h : SqT K H a xs) : Th K H (.ref a)
theorem sqT_ty {K : PySem.W.Frag} {H : Hp} {a : Addr} {xs : List V} (h : SqT K H a xs) : TyX K H (.ref a) (.type "tuple") := by
  rcases h with (h | ⟨o, h⟩) | ⟨o, its, n, h, c, _⟩
  · exact .base (.tup h)
  · exact .fTuple h
  · exact .kTuple h c
def isW : V → Bool
  | .int _ => true
  | _ => false
def Pr (p : Int) : Prop := p = 2 ∨ p = 3 ∨ p = 5
instance (p : Int) : Decidable (Pr p) := inferInstanceAs (Decidable (_ ∨ _ ∨ _))
def isPr : V → Bool
  | .int p => decide (Pr p)
  | _ => false
theorem Pr.is {p : Int} (h : Pr p) : isPr (.int p) = true := decide_eq_true h
theorem isPr_int {x : V} (h : isPr x = true) : ∃ p, x = .int p ∧ Pr p := by
  cases x <;> first | exact ⟨_, rfl, of_decide_eq_true h⟩ | cases h
theorem isPr_W {x : V} (h : isW x = false) : isPr x = false := by
  cases x <;> first | rfl | cases h
theorem Th.kt {K : PySem.W.Frag} {H H' : Hp} {x : V} (e : Kt K H H') (h : Th K H x) : Th K H' x := by
  cases h with
  | non => exact .non
  | bl b => exact .bl b
  | int i => exact .int i
  | str s => exact .str s
  | tup h => exact .tup (e _ _ h)
theorem Th.mono {K : PySem.W.Frag} {H H' : Hp} {x : V} (e : Ex H H') (h : Th K H x) : Th K H' x := h.kt (Kt.ex e)
/-- what is no prime -/
def rBad (K : PySem.W.Frag) : Rp Unit := fun H _ v => Th K H v ∧ isPr v = false
instance {K : PySem.W.Frag} : Me (rBad K) := ⟨fun e h => ⟨h.1.mono e, h.2⟩⟩
instance {K : PySem.W.Frag} : Mkt K (rBad K) := ⟨fun e h => ⟨h.1.kt e, h.2⟩⟩
theorem er_bad {K : PySem.W.Frag} {α : Type} {R : Rp α} {t : TE} {σ : L2.St} {H : Hp} {x : α} (h : Er R t σ H x) (k : ∀ v H1, R H1 x v → Th K H1 v ∧ isPr v = false) : Er (rBad K) t σ H () := fun H1 e Q q => h H1 e Q fun v H2 e2 r => q v H2 e2 (k v H2 r)
theorem er_badI {K : PySem.W.Frag} {t : TE} {σ : L2.St} {H : Hp} {x : Int} (h : Er rI t σ H x) (k : isPr (.int x) = false := by decide) : Er (rBad K) t σ H () := er_bad h fun v H1 r => by cases r; exact ⟨.int x, k⟩
theorem er_badB {K : PySem.W.Frag} {t : TE} {σ : L2.St} {H : Hp} {x : Bool} (h : Er rB t σ H x) : Er (rBad K) t σ H () := er_bad h fun v H1 r => by cases r; exact ⟨.bl x, rfl⟩
theorem er_badN {K : PySem.W.Frag} {t : TE} {σ : L2.St} {H : Hp} (h : Er rN t σ H ()) : Er (rBad K) t σ H () := er_bad h fun v H1 r => by cases r; exact ⟨.non, rfl⟩
theorem er_badS {K : PySem.W.Frag} {t : TE} {σ : L2.St} {H : Hp} {x : Str} (h : Er rS t σ H x) : Er (rBad K) t σ H () := er_bad h fun v H1 r => by cases r; exact ⟨.str x, rfl⟩
theorem er_badT {K : PySem.W.Frag} {α : Type} {R : Rp α} {t : TE} {σ : L2.St} {H : Hp} {x : List α} (h : Er (rT K R) t σ H x) : Er (rBad K) t σ H () := er_bad h fun v H1 r => by
  obtain ⟨a, vs, rfl, h2, _⟩ := r
  exact ⟨.tup h2, rfl⟩
/-- a thing's kind among built-in classes -/
def isIB : V → Bool
  | .int _ => true
  | .bl _ => true
  | _ => false
def isB : V → Bool
  | .bl _ => true
  | _ => false
theorem isW_eq (x : V) : isW x = (isIB x && !isB x) := by cases x <;> rfl
theorem Th.ty {K : PySem.W.Frag} {H : Hp} {x : V} (h : Th K H x) : ∃ t : String, TyX K H x (.type t) ∧ kitB t "int" = some (isIB x) ∧ kitB t "bool" = some (isB x) := by
  cases h with
  | non => exact ⟨_, .base .non, (show kitB _ "int" = some false by decide +kernel), (show kitB _ "bool" = some false by decide +kernel)⟩
  | bl b => exact ⟨_, .base (.bl b), (show kitB _ "int" = some true by decide +kernel), (show kitB _ "bool" = some true by decide +kernel)⟩
  | int i => exact ⟨_, .base (.int i), (show kitB _ "int" = some true by decide +kernel), (show kitB _ "bool" = some false by decide +kernel)⟩
  | str s => exact ⟨_, .base (.str s), (show kitB _ "int" = some false by decide +kernel), (show kitB _ "bool" = some false by decide +kernel)⟩
  | tup h => exact ⟨_, sqT_ty h, (show kitB _ "int" = some false by decide +kernel), (show kitB _ "bool" = some false by decide +kernel)⟩

/-! ### the bag of a law: three numbers -/
def Bag (H : Hp) (b : Addr) : Prop := ∃ b0 b1 c : Int, Lt rI H b [b0, b1, c] ∧ 0 ≤ b0 ∧ 0 ≤ b1 ∧ b1 < 17179869184
theorem Bag.ex {H H' : Hp} {b : Addr} (h : Bag H b) (e : Ex H H') : Bag H' b := let ⟨a, c, d, l, r⟩ := h; ⟨a, c, d, l.ex e, r⟩
theorem Bag.kt {K : PySem.W.Frag} {H H' : Hp} {b : Addr} (h : Bag H b) (c : C1 b H H') : Kt K H H' := let ⟨_, _, _, l, _⟩ := h; l.kt c
theorem Bag.keep {H H' : Hp} {b p : Addr} (h : Bag H b) (c : C1 p H H') (n : b ≠ p) : Bag H' b := let ⟨a, d, e, ⟨vs, h1, h2⟩, r⟩ := h; ⟨a, d, e, ⟨vs, c _ _ n h1, h2⟩, r⟩
theorem Bag.there {H : Hp} {b : Addr} (h : Bag H b) : ∃ xs, H b = some (.lst xs) := let ⟨_, _, _, ⟨vs, h1, _⟩, _⟩ := h; ⟨vs, h1⟩
theorem Bag.ne {H : Hp} {b q : Addr} (h : Bag H b) (hq : H q = none) : b ≠ q := let ⟨_, h1⟩ := h.there; ne_of_none h1 hq
/-- what was fresh -/
theorem fb {H H' : Hp} {b p : Addr} (c : C1 b H H') (h : Bag H' b) (hp : H' p = none) : H p = none := by
  by_cases z : p = b
  · obtain ⟨xs, q⟩ := h.there
    rw [z, q] at hp
    cases hp
  · cases q : H p with
    | none => rfl
    | some o =>
      rw [c p o z q] at hp
      cases hp
/-- a list that is read by whoever holds it -/
theorem rl_of {K : PySem.W.Frag} {H : Hp} {a : Addr} {ns : List Int} (h : SqL K H a (ns.map V.int)) : rL K rI H ns (.ref a) := ⟨a, _, rfl, h, pI' ns⟩

/-! ### steps one by one -/
section
variable {α : Type} {K : PySem.W.Frag} {H : Hp} {σ : L2.St} {ta tb te : TE} {t u : TT} {R : Rp α} {x : α} {D : Ends} {tu tw tz : TS} {j : Nat}
theorem q_asg0 (h : te σ H fun x H1 => tz D (σ.set j (some x)) H1) : tSeq (tAsg te (gName j)) tz D σ H := h
theorem s_asg0 (h : te σ H fun x H1 => D.nx (σ.set j (some x)) H1) : tAsg te (gName j) D σ H := h
theorem q_if0 (h : t σ H fun b H1 => if b = true then tu { D with nx := tz D } σ H1 else tw { D with nx := tz D } σ H1) : tSeq (tIfS t tu tw) tz D σ H := h
theorem q_when0 (h : t σ H fun b H1 => if b = true then tu { D with nx := tz D } σ H1 else tz D σ H1) : tSeq (tIfS t tu tNext) tz D σ H := h
theorem s_when0 (h : t σ H fun b H1 => if b = true then tu D σ H1 else D.nx σ H1) : tIfS t tu tNext D σ H := h
theorem q_for0 {wi : TI} {g : TG} (h : wi σ H fun J H1 => Fl J g tu { D with nx := tz D } σ H1) : tSeq (tFor wi g tu) tz D σ H := h
theorem s_for0 {wi : TI} {g : TG} (h : wi σ H fun J H1 => Fl J g tu D σ H1) : tFor wi g tu D σ H := h
theorem q_drop0 (h : te σ H fun _ H1 => tz D σ H1) : tSeq (tDrop te) tz D σ H := h
theorem go_call1 {sp : Sp} {E : XK} {Q : VK} (h : ta σ H fun x H1 => sp [x] H1 Q E) : tCall sp [] E (tCons ta tNil) σ H Q := h
theorem go_call2 {sp : Sp} {E : XK} {Q : VK} (h : ta σ H fun x H1 => tb σ H1 fun y H2 => sp [x, y] H2 Q E) : tCall sp [] E (tCons ta (tCons tb tNil)) σ H Q := h
theorem go_call3 {sp : Sp} {E : XK} {Q : VK} {tc : TE} (h : ta σ H fun x H1 => tb σ H1 fun y H2 => tc σ H2 fun z H3 => sp [x, y, z] H3 Q E) : tCall sp [] E (tCons ta (tCons tb (tCons tc tNil))) σ H Q := h
theorem go_not {Q : Bool → Hp → Prop} (h : t σ H fun b H1 => Q (!b) H1) : tNot t σ H Q := h
theorem go_tB {Q : Bool → Hp → Prop} (h : te σ H fun x H1 => ∃ c, x = .bl c ∧ Q c H1) : tB te σ H Q := h
theorem go_tT {Q : Bool → Hp → Prop} (h : te σ H fun x H1 => ∃ c, x = .bl c ∧ Q c H1) : tTest te σ H Q := h
theorem go_var {Q : VK} {i : Nat} {v : V} (h : σ[i]? = some (some v)) (k : Q v H) : tVar i σ H Q := ⟨v, h, k⟩
theorem go_op {r : R2} {Q : VK} (h : ta σ H fun x H1 => tb σ H1 fun y H2 => r x y H2 Q) : tOp r ta tb σ H Q := h
theorem go_ixL [Me R] {Q : VK} {p : Addr} {xs : List α} {i : Int} (l : Lt R H p xs) (h1 : -(xs.length : Int) ≤ i) (h2 : i < xs.length) (d : α) (k : ∀ v, R H (gt0 d xs i) v → Q v H) : rIxL K (.ref p) (.int i) H Q := by
  obtain ⟨vs, e1, e2⟩ := l
  obtain ⟨u, hu, ru⟩ := paired_get e2 (gt0_some (d := d) h1 h2)
  have hl := paired_len e2
  rw [hl] at h1 h2 hu
  exact ⟨p, vs, i, u, rfl, rfl, SqL.of e1, atI_ixs h1 h2 hu, k u ru⟩
theorem er_isI {i : Int} (h : Er rI ta σ H i) : Er rB (tCB (rIsi K) (tCons ta (tCons (tC (.ty "int")) tNil))) σ H true := fun H1 e Q q =>
  h H1 e _ fun v H2 e2 r => by
    cases r
    exact ⟨_, _, _, _, true, rfl, .ty "int", .base (.int i), kit_ty (show kitB "int" "int" = some true by decide +kernel), q _ H2 e2 rfl⟩
theorem er_isIb {i : Int} (h : Er rI ta σ H i) : Er rB (tCB (rIsi K) (tCons ta (tCons (tC (.ty "bool")) tNil))) σ H false := fun H1 e Q q =>
  h H1 e _ fun v H2 e2 r => by
    cases r
    exact ⟨_, _, _, _, false, rfl, .ty "bool", .base (.int i), kit_ty (show kitB "int" "bool" = some false by decide +kernel), q _ H2 e2 rfl⟩
theorem er_chain {g g' : Int → Int → Bool} {a b c : Int} {tc : TE} (ha : Er rI ta σ H a) (hb : Er rI tb σ H b) (hc : Er rI tc σ H c) : Er rB (tChain (rI0 fun i j => V.bl (g i j)) (rI0 fun i j => V.bl (g' i j)) ta tb tc) σ H (g a b && g' b c) := fun H1 e Q q =>
  ha H1 e _ fun v H2 e2 r1 => hb H2 (e.trans e2) _ fun u H3 e3 r2 => by
    cases r1
    cases r2
    refine ⟨a, b, rfl, rfl, g a b, rfl, ?_⟩
    cases hg : g a b with
    | true => exact hc H3 ((e.trans e2).trans e3) _ fun w H4 e4 r3 => ⟨b, c, rfl, r3, q _ H4 ((e2.trans e3).trans e4) (by rw [hg]; rfl)⟩
    | false => exact q _ H3 (e2.trans e3) (by rw [hg]; rfl)
/-- a way that can't be -/
theorem q_not {b : Bool} (h : Et t σ H b) (hb : b = false) (k : ∀ H1, Ex H H1 → tz D σ H1) : tSeq (tIfS t tu tNext) tz D σ H := q_when h (fun z => by rw [hb] at z; cases z) fun _ H1 e => k H1 e
theorem s_not {b : Bool} (h : Et t σ H b) (hb : b = false) (k : ∀ H1, Ex H H1 → D.nx σ H1) : tIfS t tu tNext D σ H := s_when h (fun z => by rw [hb] at z; cases z) fun _ H1 e => k H1 e
/-- a reading of which something is known -/
theorem pss_ex {X : Cx} {st : List Stmt} {ι : Type} {P : ι → Prop} {t : ι → TS} (h : ∀ z, P z → PSs X st (t z)) : PSs X st (fun D σ H => ∃ z, P z ∧ t z D σ H) :=
  ⟨fun pins s σ H D I ⟨z, hz, q⟩ => (h z hz).run pins s σ H D I q⟩
end

/-! ### kinds of errors -/
theorem kit_self {K : PySem.W.Frag} {C : Addr} : PySem.W.kitOne K (.ref C) (.ref C) = some true := by
  unfold PySem.W.kitOne
  rw [if_pos (by simp)]
theorem kit_base {K : PySem.W.Frag} {C : Addr} {T : String} {b : Bool} (h : PySem.W.subIn K (.ref C) (.type T) = some b) (hm : PySem.W.kitMeta T = true) : PySem.W.kitOne K (.ref C) (.type T) = some b := by
  unfold PySem.W.kitOne
  rw [if_neg (by intro z; cases (eq_of_beq z))]
  show (if PySem.W.kitMeta T = true then PySem.W.subIn K (.ref C) (.type T) else none) = some b
  rw [if_pos hm, h]
theorem kit_own {K : PySem.W.Frag} {C D : Addr} {b : Bool} (hne : C ≠ D) (h1 : PySem.W.isClsIn K D = true) (h2 : PySem.W.typeIn K (.ref D) = some (.type "type")) (h : PySem.W.subIn K (.ref C) (.ref D) = some b) : PySem.W.kitOne K (.ref C) (.ref D) = some b := by
  unfold PySem.W.kitOne
  rw [if_neg (by intro z; exact hne (Value.ref.inj (eq_of_beq z)))]
  show (if ((PySem.W.clsIn K D).isSome && PySem.W.typeIn K (.ref D) == some (.type "type")) = true then PySem.W.subIn K (.ref C) (.ref D) else none) = some b
  have e : (PySem.W.clsIn K D).isSome = true := h1
  rw [e, h2, h]
  rfl
end Dg

set_option maxRecDepth 100000
set_option maxHeartbeats 4000000
namespace PySem
set_option maxRecDepth 100000
set_option maxHeartbeats 1000000 in
theorem meets_enumerate_newB1 {v : Value} {o : Obj} {H : Heap → Prop} (B : Begins v o H) :
    Meets (Builtin.«enumerate.__new__» ⟨[.type "enumerate", v], []⟩) (fun _ R s => H s.heap ∧
      R (.ok (.ret (.ref (s.heap.push o).objs.size))) { s with heap := (s.heap.push o).push { cls := .type "enumerate", data := .fields #[.none, .bool false, .ref s.heap.objs.size, rawInt 0, .none, .none] } }) :=
  .of_wp fun prog w A R s h => by
    obtain ⟨hp, g, d, tk, os⟩ := s; obtain ⟨h1, h⟩ := h
    have hsub := sub_enumerate
    have q1 : ∀ {A' : Around} {E : Value → Shared → Prop} {Q : Value → Shared → Prop}, Q (.ref hp.objs.size) ⟨hp.push o, g, d, tk, os⟩ → wpAny (model prog w) A' (pyIter v) Q E ⟨hp, g, d, tk, os⟩ :=
      fun q => B.iter prog w _ _ ⟨hp, g, d, tk, os⟩ _ h1 q
    wp_walk using q1
    refine wpAny_stack_any fun st => wpAny_pure ?_
    split
    · rename_i c _ _ _ _ _
      cases (c == Value.type "enumerate")
      · wp_walk using q1
        exact ⟨_, rfl, h⟩
      · wp_walk using q1
        exact ⟨_, rfl, h⟩
    · wp_walk using q1
      exact ⟨_, rfl, h⟩
theorem enum_begins1 {prog : Program} {w : World} {A : Around} {E : Value → Shared → Prop} {s : Shared} {v : Value} {o : Obj} {H : Heap → Prop} {Q : Value → Shared → Prop} (B : Begins v o H) (h1 : H s.heap)
    (h : ∀ h', IsEnum h' (s.heap.objs.size + 1) s.heap.objs.size 0 .none → h'.get? s.heap.objs.size = some o → h'.objs.size = s.heap.objs.size + 2 →
      (∀ b o, s.heap.get? b = some o → h'.get? b = some o) → Q (.ref (s.heap.objs.size + 1)) { s with heap := h' }) :
    wpAny (model prog w) A (call (.type "enumerate") [v]) Q E s := by
  refine callType_new F.called_enumerate (by decide) (F.typeCall_enumerate_1 _) (F.newCall_enumerate_1 _) (fun obj => F.args_object_init_2 obj _) F.entry_enumerate_new
    (meets_enumerate_newB1 B) ⟨h1, ?_⟩
  have hz : (s.heap.push o).objs.size = s.heap.objs.size + 1 := Heap.size_push ..
  show _ ∧ _
  rw [hz]
  have he : IsEnum ((s.heap.push o).push { cls := .type "enumerate", data := .fields #[.none, .bool false, .ref s.heap.objs.size, rawInt 0, .none, .none] }) (s.heap.objs.size + 1) s.heap.objs.size 0 .none := by
    have := Heap.get?_push_size (s.heap.push o) (o := { cls := .type "enumerate", data := .fields #[.none, .bool false, .ref s.heap.objs.size, rawInt 0, .none, .none] }) rfl
    rw [hz] at this; exact this
  refine ⟨⟨_, he, rfl⟩, h _ he (Heap.get?_push_of_some _ (Heap.get?_push_size _ B.free)) (by rw [Heap.size_push, hz]) fun b o x => Heap.get?_push_of_some _ (Heap.get?_push_of_some _ x)⟩
end PySem
namespace Dg
open PySem PySem.Spec PyProof.Rows L2 Evl
/-! ### enumerate(tuple) -/
def IteT (K : PySem.W.Frag) (a : Addr) : It :=
  ⟨fun i H => ∃ (xs : List V) (x : V), SqT K H a xs ∧ xs[i]? = some x, fun i H v H' => ∃ T x, v = .ref T ∧ H T = none ∧ H' = upd H T (.tup [.int (i : Nat), x]) ∧ ∀ xs, SqT K H a xs → xs[i]? = some x, fun i H => ∃ xs : List V, SqT K H a xs ∧ xs.length ≤ i⟩
theorem tup_ne_iter {h : Heap} {a it : Addr} {i : Nat} {its : Array Value} (p : IsTup h a its) (q : h.IsTupleIter it a i) : a ≠ it := by
  rintro rfl
  obtain ⟨o, ho, hc, _⟩ := q
  obtain ⟨o', ho', hc', _⟩ := p
  rw [ho] at ho'
  cases ho'
  rw [hc] at hc'
  exact absurd (Value.type.inj hc') (by decide)
theorem enum_ne_tup {h : Heap} {a e it : Addr} {i : Int} {old : Value} {its : Array Value} (p : IsTup h a its) (q : IsEnum h e it i old) : e ≠ a := by
  rintro rfl
  obtain ⟨o', ho', hc', _⟩ := p
  have q' : h.get? e = some _ := q
  rw [q'] at ho'
  cases ho'
  exact absurd (Value.type.inj hc') (by decide)
theorem turn_enumT {P : Program} {w : World} {K : PySem.W.Frag} {elts : List Expr} {kk : Nat} {tpos : Pos} (a e it : Addr) :
    Turn P w K (.Tuple elts kk tpos) (IteT K a) [e, it] e (fun i h => (∃ old, IsEnum h e it ((i : Nat) : Int) old) ∧ h.IsTupleIter it a i ∧ e ≠ it) where
  mem := by simp
  obj := fun i h st b hb => by
    obtain ⟨⟨old, he⟩, ⟨o, ho, hc, hd⟩, _⟩ := st
    have e' : b = e ∨ b = it := by simpa using hb
    rcases e' with z | z
    · rw [z]; exact ⟨_, he, fun v q => nomatch q⟩
    · rw [z]; exact ⟨o, ho, fun v q => by rw [hd] at q; cases q⟩
  keep := fun i h h' st k => let ⟨⟨old, he⟩, hi, hne⟩ := st; ⟨⟨old, k e (by simp) _ he⟩, hi.at fun o q => k it (by simp) o q, hne⟩
  item := by
    intro X hP hw hK hc i pins s σ H E I hf st hg
    subst hP hw hK
    obtain ⟨⟨old, he⟩, hit, hne⟩ := st
    obtain ⟨xs, x, hq, hx⟩ := hg
    obtain ⟨its, rv, p, hz⟩ := I.tuple hq
    obtain ⟨u, hu, ru⟩ := rv.get hx
    have hel : e < s.heap.objs.size := Heap.lt_size he
    have hil : it < s.heap.objs.size := by obtain ⟨_, q, _⟩ := hit; exact Heap.lt_size q
    have hai := tup_ne_iter p hit
    have hea := enum_ne_tup p he
    have hlt : i < its.toArray.size := by
      have := List.getElem?_eq_some_iff.mp hu
      simpa using this.1
    refine wpAny_pyNext_enum_itemD (Draws.tuple (A := X.A.in1) (I.ok.hd hc) it a hai its.toArray) he ⟨hit, p⟩ hlt hne (by simp; exact ⟨hne, hea⟩) fun x' h' tk hx' ho hit' hT hsz hk => ?_
    have ex : x' = u := by
      have hx2 : its.toArray[i]? = some x' := hx'
      have hu2 : its.toArray[i]? = some u := by simpa using hu
      rw [hu2] at hx2
      exact (Option.some.inj hx2).symm
    subst ex
    refine ⟨_, rfl, wpAny_letOwnedTupleGo_enum (s := { s with heap := h', toks := tk + 1 }) ho fun h'' he' sb => ?_⟩
    have hT2 : h''.get? s.heap.objs.size = some { cls := .type "tuple", data := .seq #[.int i tk, x'] } := (sb.2 _ (Nat.ne_of_gt hel)).trans hT
    have new : ObjOk X.prog X.w (upd H s.heap.objs.size (.tup [.int (i : Nat), x])) h'' s.heap.objs.size (.tup [.int (i : Nat), x]) :=
      ⟨by show 2 ≤ sizeLine; decide, [.int i tk, x'], .cons ⟨_, rfl⟩ (.cons ru .nil), ⟨_, hT2, rfl, _, rfl⟩⟩
    have I1 : Inv X pins σ (upd H s.heap.objs.size (.tup [.int (i : Nat), x])) { s with heap := h'', toks := tk + 1 } :=
      I.turnedNew (ch := [e, it]) (fun b ob hb q => (sb.2 b (fun z => hb (by simp [z]))).trans (hk b ob (fun z => hb (by simp [z])) (fun z => hb (by simp [z])) q)) hf (Nat.le_refl _) new
    refine ⟨.ref s.heap.objs.size, _, I1, rfl, ⟨_, x, rfl, I.hok.fresh (Nat.le_refl _), rfl, fun ys hy => by rw [I.tuple_inj hy hq]; exact hx⟩, ⟨⟨x', ?_⟩, hit'.1.at fun o q => (sb.2 it (Ne.symm hne)).trans q, hne⟩, fun b hb => ?_⟩
    · have e1 : ((i + 1 : Nat) : Int) = (i : Int) + 1 := by omega
      rw [e1]; exact he'
    · have hb' : b < s.heap.objs.size := by
        have e' : b = e ∨ b = it := by simpa using hb
        rcases e' with z | z
        · rw [z]; exact hel
        · rw [z]; exact hil
      rw [upd_ne (Nat.ne_of_lt hb')]
      exact (hf b hb).1
  done := by
    intro X hP hw hK hc i pins s σ H E I hf st hg
    subst hP hw hK
    obtain ⟨⟨old, he⟩, hit, hne⟩ := st
    obtain ⟨xs, hq, hx⟩ := hg
    obtain ⟨its, rv, p, hz⟩ := I.tuple hq
    obtain ⟨f0, f1, f2, f3, f4, f5⟩ := hf it (by simp)
    have hl := rv.length
    have hT : s.TypeIs (.ref e) "enumerate" := ⟨_, he, rfl⟩
    unfold pyNext
    refine wpAny_bind (wpAny_attempt (wpAny_callSpecial?_slot (name := Str.ofString "__next__") hT F.slot_enumerate_next
      (wpAny_call_entry F.slot_enumerate_next hT F.entry_enumerate_next ?_ (F.args_enumerate_next_1 _))))
    show wpAny _ _ (field (.ref e) 2 >>= _) _ _ _
    refine wpAny_bind (wpAny_field he rfl (x := .ref it) rfl ?_)
    refine wpAny_bind (wpAny_nextOf_tuple_end (A := X.A.in1) (I.ok.hd hc) hit p (by simp; omega) fun h' x he' hx' => ?_)
    obtain ⟨o, ho, hcl⟩ := hx'
    refine wpAny_bind (wpAny_isInstance (T := "StopIteration") (b := true) ⟨o, ho, hcl⟩ isSubtype_stop ?_)
    exact wpAny_pure ⟨rfl, I.turned (t' := s.toks) (fun b o hb q => he' b o hb q) f0 f1 f3 f4 f5⟩
  self := fun A i s Q E st h => let ⟨⟨_, he⟩, _⟩ := st; wpAny_pyIter_enum he h
def iEnumT (K : PySem.W.Frag) (ta : TA) : TI := fun σ H R => ta σ H fun vs H1 => ∃ a xs, vs = [.ref a] ∧ SqT K H1 a xs ∧ R (IteT K a) H1
theorem pi_enumT {X : Cx} {e : Expr} {ta : TA} {p pos tpos : Pos} {elts : List Expr} {kk : Nat} (hg : Gl X "enumerate") (hm : X.mg "enumerate" = none) (ha : PA X [e] ta) (hs : starEach [e] X.env = [(false, eval e X.env)] := by rfl) :
    PI X (.Tuple elts kk tpos) (.Call (.Name "enumerate" p) [e] [] pos) (iEnumT X.K ta) := by
  refine ⟨fun pins s σ H R I h => ?_⟩
  refine Call_ (ld_blt I hg hm boot_enumerate (PyProof.Rows.callWith_type1 (thn (ha.run pos pins s σ H _ I h) fun us s1 ⟨vs, H1, I1, r1, q1⟩ => ?_) hs rfl))
  obtain ⟨a, xs, ex, hq, q⟩ := q1
  subst ex
  cases r1 with
  | cons r rr =>
    cases rr
    cases r
    obtain ⟨its, rv, p', hz⟩ := I1.tuple hq
    refine enum_begins1 (begins_tuple a its.toArray) p' fun h' he hit hsz hk => wpAny_pyIter_enum he ?_
    have I2 : Inv X pins σ H1 { s1 with heap := h' } := I1.kept (t' := s1.toks) hk
    refine ⟨s1.heap.objs.size + 1, [s1.heap.objs.size + 1, s1.heap.objs.size], _, _, H1, rfl, I2, turn_enumT a (s1.heap.objs.size + 1) s1.heap.objs.size, ⟨⟨.none, he⟩, ⟨_, hit, rfl, rfl⟩, Nat.succ_ne_self _⟩, fun b hb => ?_, q⟩
    have e' : b = s1.heap.objs.size + 1 ∨ b = s1.heap.objs.size := by simpa using hb
    have hle : s1.heap.objs.size ≤ b := by
      rcases e' with z | z
      · rw [z]; exact Nat.le_add_right _ _
      · rw [z]; exact Nat.le_refl _
    exact I1.fpOk hle (I1.hok.fresh hle)
theorem pi_enumTK {X : Cx} {e : Expr} {ta : TA} {p pos : Pos} (K : PySem.W.Frag) {tpos : Pos} {elts : List Expr} {kk : Nat} (hg : Gl X "enumerate") (hm : X.mg "enumerate" = none) (ha : PA X [e] ta) (h : X.K = K := by rfl) (hs : starEach [e] X.env = [(false, eval e X.env)] := by rfl) :
    PI X (.Tuple elts kk tpos) (.Call (.Name "enumerate" p) [e] [] pos) (iEnumT K ta) := by subst h; exact pi_enumT hg hm ha hs

/-! ### tuple * int -/
end Dg
namespace PySem
set_option maxRecDepth 100000
set_option maxHeartbeats 1000000
theorem tuple_mulS (l : Addr) (items : Array Value) (n : Nat) (dd : Option Addr) (sl : Array (Option Value)) (x : Int) (u : Tok) (c0 : (decide (x < -(2 ^ 63)) || decide (x ≥ 2 ^ 63)) = false) (c1 : (items.isEmpty || x == 1) = true) :
    Meets (Builtin.«tuple.__mul__» ⟨[.ref l, .int x u], []⟩) (fun _ R s => s.heap.get? l = some { cls := .type "tuple", dict := dd, data := .seq items n, slots := sl } ∧ R (.ok (.ret (Value.ref l))) s) :=
  .of_wp fun prog w A R s h => by
    obtain ⟨hp, g, d, tk, os⟩ := s
    obtain ⟨hl, h⟩ := h
    have f1 := AutoSeq1.idx_int
    wp_walk using AutoSeq1.wpAny_loadPart' hl
    repeat (first
      | (refine wpAny_ite_false (decide_eq_false (by rw [c0]; exact Bool.false_ne_true)) ?_; wp_walk using AutoSeq1.wpAny_loadPart' hl)
      | (refine wpAny_ite_true (decide_eq_true (by exact c1)) ?_; wp_walk using AutoSeq1.wpAny_loadPart' hl))
    exact ⟨_, rfl, h⟩
theorem tuple_mul0 (l : Addr) (items : Array Value) (n : Nat) (dd : Option Addr) (sl : Array (Option Value)) (x : Int) (u : Tok) (c0 : (decide (x < -(2 ^ 63)) || decide (x ≥ 2 ^ 63)) = false) (c1 : (items.isEmpty || x == 1) = false) (c2 : (decide (x ≤ 0) || items.isEmpty) = true) :
    Meets (Builtin.«tuple.__mul__» ⟨[.ref l, .int x u], []⟩) (fun _ R s => s.heap.get? l = some { cls := .type "tuple", dict := dd, data := .seq items n, slots := sl } ∧
      R (.ok (.ret (Value.ref s.heap.objs.size))) { s with heap := s.heap.push { cls := Value.type "tuple", data := Data.seq #[] }, toks := s.toks }) :=
  .of_wp fun prog w A R s h => by
    obtain ⟨hp, g, d, tk, os⟩ := s
    obtain ⟨hl, h⟩ := h
    have f1 := AutoSeq1.idx_int
    wp_walk using AutoSeq1.wpAny_loadPart' hl
    repeat (first
      | (refine wpAny_ite_false (decide_eq_false (by rw [c0]; exact Bool.false_ne_true)) ?_; wp_walk using AutoSeq1.wpAny_loadPart' hl)
      | (refine wpAny_ite_false (decide_eq_false (by rw [c1]; exact Bool.false_ne_true)) ?_; wp_walk using AutoSeq1.wpAny_loadPart' hl)
      | (refine wpAny_ite_true (decide_eq_true (by exact c2)) ?_; wp_walk using AutoSeq1.wpAny_loadPart' hl))
    exact ⟨_, rfl, h⟩
end PySem
namespace Dg
open PySem PySem.Spec PyProof.Rows L2 Evl
section
variable {X : Cx}
def rRepTA (K : PySem.W.Frag) : R2 := fun x y H Q => ∃ l k xs, x = .ref l ∧ y = .int k ∧ SqT K H l xs ∧ -1000000 ≤ k ∧ k ≤ 1000 ∧ xs.length ≤ 1000 ∧
  (xs = [] ∨ k = 1 → Q (.ref l) H) ∧ (xs ≠ [] → k ≠ 1 → ∀ p, H p = none → Q (.ref p) (upd H p (.tup (List.replicate k.toNat xs).flatten)))
theorem op_repTA : OpR X (binaryOp .Mult) (rRepTA X.K) := by
  intro pins s σ H x y v u Q I rx ry h
  obtain ⟨l, k, xs, rfl, rfl, hT, h0, h1, hz, q1, q2⟩ := h
  by_cases hs : xs = [] ∨ k = 1
  · cases rx
    obtain ⟨t, rfl⟩ := ry
    obtain ⟨its, r, ⟨⟨cls, dd, data, sl⟩, ho, hc, n, hd⟩, hz'⟩ := I.tuple hT
    simp only at hc hd
    subst hc hd
    have c0 : (decide (k < -(2 ^ 63)) || decide (k ≥ 2 ^ 63)) = false := by
      rw [decide_eq_false (by omega), decide_eq_false (by omega)] <;> rfl
    have c1 : (its.toArray.isEmpty || k == 1) = true := by
      rcases hs with hs | hs
      · subst hs
        cases r
        rfl
      · rw [hs, Bool.or_eq_true]
        exact .inr rfl
    exact wpAny_binaryOp_repeat_ref (T := "tuple") (U := "int") (by decide) ⟨_, ho, rfl⟩ (fun s' => typeIs_int s' k t) noFill_tuple_mul F.fills_int_mul F.slot_int_rmul repeat_tuple F.slot_int_index.lookup
      (call_meets F.slot_int_rmul (typeIs_int s k t) F.entry_int_rmul (F.args_int_rmul_2 _ _) (int_rmul_tuple k t l its.toArray n dd sl)
        ⟨ho, rfl, ⟨_, ho, rfl⟩, call_meets F.slot_tuple_mul ⟨_, ho, rfl⟩ F.entry_tuple_mul (F.args_tuple_mul_2 _ _) (tuple_mulS l its.toArray n dd sl k t c0 c1) ⟨ho, ⟨.ref l, H, I, rfl, q1 hs⟩⟩⟩)
  · have hne : xs ≠ [] := fun z => hs (.inl z)
    have hk1 : k ≠ 1 := fun z => hs (.inr z)
    by_cases h2 : 2 ≤ k
    · exact op_repT pins s σ H _ _ v u Q I rx ry ⟨l, k, xs, rfl, rfl, hT, hne, h2, h1, hz, q2 hne hk1⟩
    · cases rx
      obtain ⟨t, rfl⟩ := ry
      obtain ⟨its, r, ⟨⟨cls, dd, data, sl⟩, ho, hc, n, hd⟩, hz'⟩ := I.tuple hT
      simp only at hc hd
      subst hc hd
      have c0 : (decide (k < -(2 ^ 63)) || decide (k ≥ 2 ^ 63)) = false := by
        rw [decide_eq_false (by omega), decide_eq_false (by omega)] <;> rfl
      have hi : its.toArray.isEmpty = false := by
        cases its with
        | nil => cases r; exact absurd rfl hne
        | cons a b => rfl
      have c1 : (its.toArray.isEmpty || k == 1) = false := by
        rw [hi, Bool.false_or]
        exact beq_eq_false_iff_ne.mpr hk1
      have c2 : (decide (k ≤ 0) || its.toArray.isEmpty) = true := by
        rw [decide_eq_true (show k ≤ 0 by omega)] <;> rfl
      refine wpAny_binaryOp_repeat_ref (T := "tuple") (U := "int") (by decide) ⟨_, ho, rfl⟩ (fun s' => typeIs_int s' k t) noFill_tuple_mul F.fills_int_mul F.slot_int_rmul repeat_tuple F.slot_int_index.lookup
        (call_meets F.slot_int_rmul (typeIs_int s k t) F.entry_int_rmul (F.args_int_rmul_2 _ _) (int_rmul_tuple k t l its.toArray n dd sl)
          ⟨ho, rfl, ⟨_, ho, rfl⟩, call_meets F.slot_tuple_mul ⟨_, ho, rfl⟩ F.entry_tuple_mul (F.args_tuple_mul_2 _ _) (tuple_mul0 l its.toArray n dd sl k t c0 c1 c2) ⟨ho, ?_⟩⟩)
      have ek : k.toNat = 0 := by omega
      have q3 := q2 hne hk1 _ (I.hok.fresh (Nat.le_refl _))
      rw [ek] at q3
      refine ⟨.ref s.heap.objs.size, _, I.laid (t' := s.toks) (o := .tup []) (fun b ob q => Heap.get?_push_of_some _ q) (Nat.le_refl _) ⟨Nat.zero_le _, [], .nil, IsTup.new _ _⟩, rfl, q3⟩
theorem op_repTAK (K : PySem.W.Frag) (h : X.K = K := by rfl) : OpR X (binaryOp .Mult) (rRepTA K) := by subst h; exact op_repTA
end
section
variable {α : Type} {K : PySem.W.Frag} {H : Hp} {σ : L2.St} {ta tb te tl : TE} {R : Rp α}
theorem repL_one (x : α) (k : Int) : repL [x] k = List.replicate k.toNat x := by
  unfold repL
  induction k.toNat with
  | zero => rfl
  | succ n ih => rw [List.replicate_succ, List.flatten_cons, ih, List.replicate_succ]; rfl
theorem er_repT [Me R] {xs : List α} {k : Int} (ha : Er (rT K R) ta σ H xs) (hb : Er rI tb σ H k) (h0 : -1000000 ≤ k ∧ k ≤ 1000) (hl : xs.length ≤ 1000) : Er (rT K R) (tOp (rRepTA K) ta tb) σ H (repL xs k) := fun H1 e Q q =>
  ha H1 e _ fun v H2 e2 r1 => hb H2 (e.trans e2) _ fun w H3 e3 r2 => by
    cases r2
    obtain ⟨a, vs, rfl, h1, h2⟩ := r1
    refine ⟨a, k, vs, rfl, rfl, ex_t e3 h1, h0.1, h0.2, by rw [← paired_len h2]; exact hl, fun z => ?_, fun _ _ p np => ?_⟩
    · refine q _ H3 (e2.trans e3) ⟨a, vs, rfl, ex_t e3 h1, ?_⟩
      rcases z with z | z
      · subst z
        cases h2
        unfold repL
        simp
        exact .nil
      · subst z
        unfold repL
        simp
        exact pm h2 fun _ _ z => Me.ex e3 z
    · exact q _ _ ((e2.trans e3).trans (Ex.new np)) ⟨p, _, rfl, SqT.of upd_same, paired_flat (pm h2 fun _ _ z => Me.ex (e3.trans (Ex.new np)) z) k.toNat⟩
end
/-! ### max with a default -/
theorem holdI {h : Heap} : ∀ {us : List Value} {ns : List Int}, IntsAre us ns → ReadsAll h us (ns.map PySem.W.Datum.toD) ((ns.map fun _ => []).flatten)
  | [], [], .nil => ReadsAll.nil
  | _ :: _, n :: ns, .cons _ k r => by
    show ReadsAll h _ _ ([] ++ (ns.map fun _ => []).flatten)
    exact ReadsAll.cons (Reads.int n k) (holdI r)
def mxI (x : Int) (xs : List Int) : Int := xs.foldl (fun a b => if a < b then b else a) x
def mxD (d : Int) : List Int → Int
  | [] => d
  | x :: xs => mxI x xs
theorem mxI_eq (x : Int) (xs : List Int) : PySem.W.maxOf x xs = mxI x xs := by
  unfold PySem.W.maxOf mxI
  congr 1
  funext a y
  show (if PySem.W.DatumOrd.lt a y = true then y else a) = _
  show (if decide (a < y) = true then y else a) = _
  simp only [decide_eq_true_eq]
theorem mxI_le : ∀ (xs : List Int) (x : Int), x ≤ mxI x xs ∧ ∀ y ∈ xs, y ≤ mxI x xs
  | [], x => ⟨Int.le_refl _, fun _ h => nomatch h⟩
  | z :: xs, x => by
    have h := mxI_le xs (if x < z then z else x)
    have e : mxI x (z :: xs) = mxI (if x < z then z else x) xs := rfl
    rw [e]
    refine ⟨?_, fun y hy => ?_⟩
    · have := h.1
      split at this <;> split <;> omega
    · rcases List.mem_cons.mp hy with hy | hy
      · subst hy
        have := h.1
        split at this <;> split <;> omega
      · exact h.2 y hy
theorem mxI_mem : ∀ (xs : List Int) (x : Int), mxI x xs = x ∨ mxI x xs ∈ xs
  | [], x => .inl rfl
  | z :: xs, x => by
    have e : mxI x (z :: xs) = mxI (if x < z then z else x) xs := rfl
    rw [e]
    rcases mxI_mem xs (if x < z then z else x) with h | h
    · rw [h]
      split
      · exact .inr (List.mem_cons_self ..)
      · exact .inl rfl
    · exact .inr (List.mem_cons_of_mem _ h)
section
variable {X : Cx} {e d : Expr} {te td : TE} {x : Str} {p pos kpos : Pos}
def tMaxd (K : PySem.W.Frag) (ta tk : TA) : TE := fun σ H Q => ta σ H fun vs H1 => tk σ H1 fun ws H2 => ∃ (a : Addr) (ns : List Int) (k : Int), vs = [.ref a] ∧ ws = [.int k] ∧ SqL K H2 a (ns.map V.int) ∧ Q (.int (mxD k ns)) H2
theorem pe_maxd (hg : Gl X "max") (hm : X.mg "max" = none) (hb : bootBuiltins "max" = some (.builtin "max")) (hu : X.A.units + 64 < cLine) (hc : X.calm = true) (he : PE X e te) (hd : PE X d td)
    (hs : starEach [e] X.env = (false, eval e X.env) :: starEach [] X.env := by rfl) : PE X (.Call (.Name "max" p) [e] [⟨some "default", d, kpos⟩] pos) (tMaxd X.K (tCons te tNil) (tCons td tNil)) := by
  refine ⟨fun pins s σ H Q I h => ?_⟩
  refine wpAny_Call_Name_kw (ld_blt I hg hm hb ?_)
  refine PyProof.Rows.callWith_kw ?_ (by rw [hs]; rfl) (by rw [hs]; rfl)
  refine thn ((pa_cons he pa_nil hs).run pos pins s σ H _ I h) fun us s1 ⟨vs, H1, I1, r1, q1⟩ => ?_
  refine thn ((pk_cons (nm := some "default") (kpos := kpos) hd pk_nil).run pos pins s1 σ H1 _ I1 q1) fun ws s2 ⟨zs, H2, I2, rz, a, ns, k, e1, e2, hL, q2⟩ => ?_
  subst e1 e2
  obtain ⟨its, rv, hl, _⟩ := I2.list hL
  rw [Vals.ref1 r1]
  cases rz with
  | cons r rr =>
    cases rr
    obtain ⟨t, rfl⟩ := r
    refine PySem.W.max_list_datum_default (xs := ns) (I2.ok.hd hc) hl.isList ⟨_, holdI rv.ints⟩ (by show X.A.units + 1 + 0 < cLine; omega) (fun e h' tk hk => ?_) fun y ys i v h' tk e hi hv hk => ?_
    · subst e
      exact ⟨.int k, H2, I2.kept hk, ⟨_, rfl⟩, q2⟩
    · subst e
      obtain ⟨as, rd⟩ := hv
      rw [mxI_eq] at rd
      cases rd
      exact ⟨.int _, H2, I2.kept hk, ⟨_, rfl⟩, q2⟩
theorem pe_maxdK (K : PySem.W.Frag) (hg : Gl X "max") (hm : X.mg "max" = none) (hb : bootBuiltins "max" = some (.builtin "max")) (hu : X.A.units + 64 < cLine) (hc : X.calm = true) (he : PE X e te) (hd : PE X d td) (h : X.K = K := by rfl)
    (hs : starEach [e] X.env = (false, eval e X.env) :: starEach [] X.env := by rfl) : PE X (.Call (.Name "max" p) [e] [⟨some "default", d, kpos⟩] pos) (tMaxd K (tCons te tNil) (tCons td tNil)) := by subst h; exact pe_maxd hg hm hb hu hc he hd hs
end
section
variable {K : PySem.W.Frag} {H : Hp} {σ : L2.St} {ta tb te tl : TE}
theorem er_maxd {xs : List Int} {k : Int} (ha : Er (rL K rI) ta σ H xs) (hb : Er rI tb σ H k) : Er rI (tMaxd K (tCons ta tNil) (tCons tb tNil)) σ H (mxD k xs) := fun H1 e Q q =>
  ha H1 e _ fun v H2 e2 r1 => hb H2 (e.trans e2) _ fun w H3 e3 r2 => by
    cases r2
    obtain ⟨a, vs, rfl, h1, h2⟩ := r1
    have e4 := pI h2
    subst e4
    exact ⟨a, xs, k, rfl, rfl, ex_l e3 h1, q _ H3 (e2.trans e3) rfl⟩
end
/-! ### data compared -/
class Rd {α : Type} (K : PySem.W.Frag) (R : Rp α) where
  to : α → PyData
  dep : Nat
  dp : ∀ {H : Hp} {x : α} {v : V}, R H x v → Dp K H v (to x)
  lay : ∀ x, (to x).canLay0 = true
  dle : ∀ x, (to x).depth ≤ dep
  eqv : ∀ x y, (PyData.eqv (to x) (to y) = true) ↔ x = y
section
variable {α β : Type} {K : PySem.W.Frag}
instance : Rd K rI where
  to := .int
  dep := 0
  dp h := by cases h; exact .int _
  lay _ := by simp only [PyData.canLay0]
  dle _ := by simp only [PyData.depth]; exact Nat.le_refl _
  eqv x y := by simp only [PyData.eqv, beq_iff_eq]
instance : Rd K rB where
  to := .bool
  dep := 0
  dp h := by cases h; exact .bl _
  lay _ := by simp only [PyData.canLay0]
  dle _ := by simp only [PyData.depth]; exact Nat.le_refl _
  eqv x y := by simp only [PyData.eqv, beq_iff_eq]
instance : Rd K rN where
  to _ := .none
  dep := 0
  dp h := by cases h; exact .non
  lay _ := by simp only [PyData.canLay0]
  dle _ := by simp only [PyData.depth]; exact Nat.le_refl _
  eqv x y := by simp only [PyData.eqv]
theorem dpAll_of {R : Rp α} (f : α → PyData) {H : Hp} (h : ∀ {x v}, R H x v → Dp K H v (f x)) : ∀ {xs : List α} {vs : List V}, Paired (R H) xs vs → DpAll K H vs (xs.map f)
  | _, _, .nil => .nil
  | _, _, .cons r t => .cons (h r) (dpAll_of f h t)
theorem layAll_of (f : α → PyData) (h : ∀ x, (f x).canLay0 = true) : ∀ xs : List α, PyData.canLayAll0 (xs.map f) = true
  | [] => by simp only [List.map_nil, PyData.canLayAll0]
  | x :: xs => by simp only [List.map_cons, PyData.canLayAll0, h x, layAll_of f h xs, Bool.and_self]
theorem depAll_of (f : α → PyData) {n : Nat} (h : ∀ x, (f x).depth ≤ n) : ∀ xs : List α, PyData.depthAll (xs.map f) ≤ n
  | [] => by simp only [List.map_nil, PyData.depthAll]; omega
  | x :: xs => by
    have h1 := h x
    have h2 := depAll_of f h xs
    simp only [List.map_cons, PyData.depthAll]
    omega
theorem eqvAll_of (f : α → PyData) (h : ∀ x y, (PyData.eqv (f x) (f y) = true) ↔ x = y) : ∀ xs ys : List α, (PyData.eqvAll (xs.map f) (ys.map f) = true) ↔ xs = ys
  | [], [] => by simp [PyData.eqvAll]
  | [], _ :: _ => by simp [PyData.eqvAll]
  | _ :: _, [] => by simp [PyData.eqvAll]
  | x :: xs, y :: ys => by simp only [List.map_cons, PyData.eqvAll, Bool.and_eq_true, h x y, eqvAll_of f h xs ys, List.cons.injEq]
instance {R : Rp α} [r : Rd K R] : Rd K (rT K R) where
  to xs := .tuple (xs.map r.to)
  dep := r.dep + 1
  dp h := by obtain ⟨a, vs, rfl, h1, h2⟩ := h; exact .tup h1 (dpAll_of r.to (fun q => r.dp q) h2)
  lay xs := by simp only [PyData.canLay0]; exact layAll_of _ r.lay xs
  dle xs := by simp only [PyData.depth]; exact Nat.succ_le_succ (depAll_of _ r.dle xs)
  eqv xs ys := by simp only [PyData.eqv]; exact eqvAll_of _ r.eqv xs ys
instance {R : Rp α} [r : Rd K R] : Rd K (rL K R) where
  to xs := .list (xs.map r.to)
  dep := r.dep + 1
  dp h := by obtain ⟨a, vs, rfl, h1, h2⟩ := h; exact .lst h1 (dpAll_of r.to (fun q => r.dp q) h2)
  lay xs := by simp only [PyData.canLay0]; exact layAll_of _ r.lay xs
  dle xs := by simp only [PyData.depth]; exact Nat.succ_le_succ (depAll_of _ r.dle xs)
  eqv xs ys := by simp only [PyData.eqv]; exact eqvAll_of _ r.eqv xs ys
instance {R : Rp α} {S : Rp β} [r : Rd K R] [s : Rd K S] : Rd K (r2 K R S) where
  to x := .tuple [r.to x.1, s.to x.2]
  dep := max r.dep s.dep + 1
  dp h := by obtain ⟨a, u, w, rfl, h1, h2, h3⟩ := h; exact .tup h1 (.cons (r.dp h2) (.cons (s.dp h3) .nil))
  lay x := by simp only [PyData.canLay0, PyData.canLayAll0, r.lay, s.lay, Bool.and_self]
  dle x := by
    have h1 := r.dle x.1
    have h2 := s.dle x.2
    simp only [PyData.depth, PyData.depthAll]
    omega
  eqv x y := by
    simp only [PyData.eqv, PyData.eqvAll, Bool.and_eq_true, r.eqv, s.eqv, and_true]
    exact ⟨fun h => Prod.ext h.1 h.2, fun h => by rw [h]; exact ⟨rfl, rfl⟩⟩
variable {R : Rp α} {H : Hp} {σ : L2.St} {ta tb : TE} {x y : α}
theorem Rd.shaped [r : Rd K R] (h : r.dep ≤ 64 := by exact Nat.le_of_ble_eq_true rfl) (x : α) : SeqAt.shaped (r.to x) = true := by
  unfold SeqAt.shaped
  rw [r.lay x, Bool.true_and]
  exact decide_eq_true (Nat.le_trans (r.dle x) h)
theorem er_eqD [DecidableEq α] [Me R] [r : Rd K R] (ha : Er R ta σ H x) (hb : Er R tb σ H y) (h : r.dep ≤ 64 := by exact Nat.le_of_ble_eq_true rfl) : Er rB (tOp (rEqD K) ta tb) σ H (decide (x = y)) := fun H1 e Q q =>
  ha H1 e _ fun v H2 e2 r1 => hb H2 (e.trans e2) _ fun w H3 e3 r2 => ⟨r.to x, r.to y, r.dp (Me.ex e3 r1), r.dp r2, Rd.shaped h x, Rd.shaped h y, by
    rw [show PyData.eqv (r.to x) (r.to y) = decide (x = y) by rw [Bool.eq_iff_iff, decide_eq_true_eq]; exact r.eqv x y]
    exact q _ H3 (e2.trans e3) rfl⟩
theorem er_neD [DecidableEq α] [Me R] [r : Rd K R] (ha : Er R ta σ H x) (hb : Er R tb σ H y) (h : r.dep ≤ 64 := by exact Nat.le_of_ble_eq_true rfl) : Er rB (tOp (rNeD K) ta tb) σ H (!decide (x = y)) := fun H1 e Q q =>
  ha H1 e _ fun v H2 e2 r1 => hb H2 (e.trans e2) _ fun w H3 e3 r2 => ⟨r.to x, r.to y, r.dp (Me.ex e3 r1), r.dp r2, Rd.shaped h x, Rd.shaped h y, by
    rw [show PyData.eqv (r.to x) (r.to y) = decide (x = y) by rw [Bool.eq_iff_iff, decide_eq_true_eq]; exact r.eqv x y]
    exact q _ H3 (e2.trans e3) rfl⟩
end
section
variable {X : Cx}
theorem op_eqDK (K : PySem.W.Frag) (hu : X.A.units + 64 < cLine) (h : X.K = K := by rfl) : OpR X (compareOp .Eq) (rEqD K) := by subst h; exact op_eqD hu
theorem op_neDK (K : PySem.W.Frag) (hu : X.A.units + 64 < cLine) (h : X.K = K := by rfl) : OpR X (compareOp .NotEq) (rNeD K) := by subst h; exact op_neD hu
end
section
variable {α : Type} {K : PySem.W.Frag} {H : Hp} {σ : L2.St} {R : Rp α} {D : Ends} {tu tz : TS} {j : Nat}
theorem s_forET {ta : TE} {g : TG} {xs : List α} (h : Er (rT K R) ta σ H xs) (k : ∀ v H1, Ex H H1 → rT K R H1 xs v → ∀ a, v = .ref a → Fl (IteT K a) g tu D σ H1) : tFor (iEnumT K (tCons ta tNil)) g tu D σ H :=
  h H (Ex.refl H) _ fun v H1 e r => by
    obtain ⟨a, vs, h1, h2, h3⟩ := id r
    exact ⟨a, vs, by rw [h1], h2, k v H1 e r a h1⟩
theorem fl_ET {i0 : Nat} {xs : List α} {v : V} (r : rT K R H xs v) (Pv : Nat → L2.St → Hp → Prop) (h0 : Pv 0 σ H) (hG : ∀ i σ H', i ≤ xs.length → Pv i σ H' → rT K R H' xs v)
    (hs : ∀ i x u σ H' H'', i < (enm xs).length → (enm xs)[i]? = some x → Pv i σ H' → Ex H' H'' → R H' x.2 u → tu { D with nx := Pv (i + 1), ct := Pv (i + 1), bk := D.nx } ((σ.set i0 (some (.int x.1))).set j (some u)) H'') (hd : ∀ σ H', Pv (enm xs).length σ H' → D.nx σ H') :
    ∀ a, v = .ref a → Fl (IteT K a) (g2 K i0 j) tu D σ H := by
  rintro a rfl
  have hle := enm_len xs
  refine fl_core (n := xs.length) Pv h0 (fun i σ H' hi p => ?_) (fun σ H' p => ?_) (fun i x σ H' H'' hi p y => ?_) (fun σ H' p => hd σ H' (by rw [hle]; exact p))
  · obtain ⟨_, vs, h1, h2, h3⟩ := hG i σ H' (by omega) p
    cases h1
    have hl := paired_len h3
    exact ⟨vs, vs[i]'(by omega), h2, List.getElem?_eq_getElem _⟩
  · obtain ⟨_, vs, h1, h2, h3⟩ := hG _ σ H' (Nat.le_refl _) p
    cases h1
    exact ⟨vs, h2, by rw [paired_len h3]; exact Nat.le_refl _⟩
  · obtain ⟨_, vs, h1, h2, h3⟩ := hG i σ H' (by omega) p
    cases h1
    obtain ⟨T, u, rfl, nT, rfl, y⟩ := y
    have hx := y vs h2
    obtain ⟨z, hz, rz⟩ := paired_get' h3 hx
    exact ⟨T, [.int (i : Nat), u], rfl, SqT.of upd_same, rfl, _, _, rfl, _, _, rfl, rfl, hs i ((i : Int), z) u σ H' _ (by omega) (enm_get hz) p (Ex.new nT) rz⟩
theorem fl_ETI {i0 : Nat} {xs : List Int} {v : V} (r : rT K rI H xs v) (Pv : Nat → L2.St → Hp → Prop) (h0 : Pv 0 σ H) (hG : ∀ i σ H', i ≤ xs.length → Pv i σ H' → rT K rI H' xs v)
    (hs : ∀ i x σ H' H'', i < (enm xs).length → (enm xs)[i]? = some x → Pv i σ H' → Ex H' H'' → tu { D with nx := Pv (i + 1), ct := Pv (i + 1), bk := D.nx } ((σ.set i0 (some (.int x.1))).set j (some (.int x.2))) H'') (hd : ∀ σ H', Pv (enm xs).length σ H' → D.nx σ H') :
    ∀ a, v = .ref a → Fl (IteT K a) (g2 K i0 j) tu D σ H := fl_ET r Pv h0 hG (fun i x u σ H' H'' hi hx p e r => by cases r; exact hs i x σ H' H'' hi hx p e) hd

theorem q_forET {ta : TE} {g : TG} {xs : List α} (h : Er (rT K R) ta σ H xs) (k : ∀ v H1, Ex H H1 → rT K R H1 xs v → ∀ a, v = .ref a → Fl (IteT K a) g tu { D with nx := tz D } σ H1) : tSeq (tFor (iEnumT K (tCons ta tNil)) g tu) tz D σ H := s_forET (D := { D with nx := tz D }) h k
theorem fq_ET {i0 : Nat} {xs : List α} {v : V} (r : rT K R H xs v) (Pv : Nat → L2.St → Hp → Prop) (h0 : Pv 0 σ H) (hG : ∀ i σ H', i ≤ xs.length → Pv i σ H' → rT K R H' xs v)
    (hs : ∀ i x u σ H' H'', i < (enm xs).length → (enm xs)[i]? = some x → Pv i σ H' → Ex H' H'' → R H' x.2 u → tu { nx := Pv (i + 1), rt := D.rt, bk := tz D, ct := Pv (i + 1) } ((σ.set i0 (some (.int x.1))).set j (some u)) H'') (hd : ∀ σ H', Pv (enm xs).length σ H' → tz D σ H') :
    ∀ a, v = .ref a → Fl (IteT K a) (g2 K i0 j) tu { D with nx := tz D } σ H := fl_ET (D := { D with nx := tz D }) r Pv h0 hG hs hd
theorem fq_ETI {i0 : Nat} {xs : List Int} {v : V} (r : rT K rI H xs v) (Pv : Nat → L2.St → Hp → Prop) (h0 : Pv 0 σ H) (hG : ∀ i σ H', i ≤ xs.length → Pv i σ H' → rT K rI H' xs v)
    (hs : ∀ i x σ H' H'', i < (enm xs).length → (enm xs)[i]? = some x → Pv i σ H' → Ex H' H'' → tu { nx := Pv (i + 1), rt := D.rt, bk := tz D, ct := Pv (i + 1) } ((σ.set i0 (some (.int x.1))).set j (some (.int x.2))) H'') (hd : ∀ σ H', Pv (enm xs).length σ H' → tz D σ H') :
    ∀ a, v = .ref a → Fl (IteT K a) (g2 K i0 j) tu { D with nx := tz D } σ H := fl_ETI (D := { D with nx := tz D }) r Pv h0 hG hs hd
end
section
variable {α β ι : Type} {K : PySem.W.Frag} {H : Hp} {σ : L2.St} {ta tb te tl : TE} {tt : TT} {R : Rp α} {Ri : Rp β} {vs : List Nat} {j : Nat}
theorem el_lcELc [Me R] [Mkt K R] [Me Ri] {i0 : Nat} {xs : List β} {c : Int × β → Bool} {f : Int × β → α} (h : Er (rL K Ri) tl σ H xs) (hb : xs.length < 1000000) (hw : ∀ x y, wipe (((wipe σ vs).set i0 (some x)).set j (some y)) vs = wipe σ vs)
    (ht : ∀ x v H1, Ex H H1 → x ∈ enm xs → Ri H1 x.2 v → Et tt (((wipe σ vs).set i0 (some (.int x.1))).set j (some v)) H1 (c x)) (he : ∀ x v H1, Ex H H1 → x ∈ enm xs → Ri H1 x.2 v → c x = true → Er R te (((wipe σ vs).set i0 (some (.int x.1))).set j (some v)) H1 (f x)) :
    El R (tLc (iEnum K (tCons tl tNil)) (g2 K i0 j) tt te vs) σ H (((enm xs).filter c).map f) := fun H1 e1 Q q =>
  h H1 e1 _ fun v H2 e2 r => by
    obtain ⟨a, us, rfl, hs, hp⟩ := r
    have hl := paired_len hp
    have hle := enm_len xs
    refine ⟨a, us, rfl, hs, el_core (K := K) (R := R) (J := Ite K a) (xs := enm xs) c f (by omega) (fun i H' e3 h => ⟨us, us[i]'(by omega), ex_l e3 hs, List.getElem?_eq_getElem _⟩) (fun H' e3 => ⟨us, ex_l e3 hs, by omega⟩) (fun i x u H' H'' C hx e3 y k => ?_) Q fun p H3 n3 e3 l3 => q p H3 (fresh_back e2 n3) (e2.trans e3) l3⟩
    obtain ⟨T, u', rfl, nT, rfl, y⟩ := y
    obtain ⟨n0, z0⟩ := x
    have ea := enm_at hx
    obtain rfl : n0 = (i : Int) := ea.1
    obtain ⟨u2, hu, ru⟩ := paired_get hp ea.2
    have eu := y us (ex_l e3 hs)
    rw [hu] at eu
    cases eu
    have eN := Ex.new (o := .tup [.int (i : Nat), u']) nT
    have e9 := ((e1.trans e2).trans e3).trans eN
    have hm := List.mem_of_getElem? hx
    refine ⟨T, [.int (i : Nat), u'], rfl, SqT.of upd_same, rfl, _, _, rfl, _, _, rfl, rfl, k _ _ eN ⟨hw _ _, ?_, fun hc => ?_⟩⟩
    · exact ht ((i : Int), z0) u' _ e9 hm (Me.ex (e3.trans eN) ru)
    · exact he ((i : Int), z0) u' _ e9 hm (Me.ex (e3.trans eN) ru) hc
theorem el_lcEL [Me R] [Mkt K R] [Me Ri] {i0 : Nat} {xs : List β} {f : Int × β → α} (h : Er (rL K Ri) tl σ H xs) (hb : xs.length < 1000000) (hw : ∀ x y, wipe (((wipe σ vs).set i0 (some x)).set j (some y)) vs = wipe σ vs)
    (he : ∀ x v H1, Ex H H1 → x ∈ enm xs → Ri H1 x.2 v → Er R te (((wipe σ vs).set i0 (some (.int x.1))).set j (some v)) H1 (f x)) :
    El R (tLc (iEnum K (tCons tl tNil)) (g2 K i0 j) tYes te vs) σ H ((enm xs).map f) := by
  have z := el_lcELc (K := K) (c := fun _ => true) (f := f) h hb hw (fun _ _ _ _ _ _ => et_yes) fun x v H1 e hx r _ => he x v H1 e hx r
  rw [List.filter_eq_self.mpr fun _ _ => rfl] at z
  exact z
theorem el_lcELIc [Me R] [Mkt K R] {i0 : Nat} {xs : List Int} {c : Int × Int → Bool} {f : Int × Int → α} (h : Er (rL K rI) tl σ H xs) (hb : xs.length < 1000000) (hw : ∀ x y, wipe (((wipe σ vs).set i0 (some x)).set j (some y)) vs = wipe σ vs)
    (ht : ∀ x H1, Ex H H1 → x ∈ enm xs → Et tt (((wipe σ vs).set i0 (some (.int x.1))).set j (some (.int x.2))) H1 (c x)) (he : ∀ x H1, Ex H H1 → x ∈ enm xs → c x = true → Er R te (((wipe σ vs).set i0 (some (.int x.1))).set j (some (.int x.2))) H1 (f x)) :
    El R (tLc (iEnum K (tCons tl tNil)) (g2 K i0 j) tt te vs) σ H (((enm xs).filter c).map f) :=
  el_lcELc h hb hw (fun x v H1 e hx r => by cases r; exact ht x H1 e hx) fun x v H1 e hx r hc => by cases r; exact he x H1 e hx hc
theorem el_lcELI [Me R] [Mkt K R] {i0 : Nat} {xs : List Int} {f : Int × Int → α} (h : Er (rL K rI) tl σ H xs) (hb : xs.length < 1000000) (hw : ∀ x y, wipe (((wipe σ vs).set i0 (some x)).set j (some y)) vs = wipe σ vs)
    (he : ∀ x H1, Ex H H1 → x ∈ enm xs → Er R te (((wipe σ vs).set i0 (some (.int x.1))).set j (some (.int x.2))) H1 (f x)) :
    El R (tLc (iEnum K (tCons tl tNil)) (g2 K i0 j) tYes te vs) σ H ((enm xs).map f) :=
  el_lcEL h hb hw fun x v H1 e hx r => by cases r; exact he x H1 e hx
theorem el_lcETc [Me R] [Mkt K R] [Me Ri] {i0 : Nat} {xs : List β} {c : Int × β → Bool} {f : Int × β → α} (h : Er (rT K Ri) tl σ H xs) (hb : xs.length < 1000000) (hw : ∀ x y, wipe (((wipe σ vs).set i0 (some x)).set j (some y)) vs = wipe σ vs)
    (ht : ∀ x v H1, Ex H H1 → x ∈ enm xs → Ri H1 x.2 v → Et tt (((wipe σ vs).set i0 (some (.int x.1))).set j (some v)) H1 (c x)) (he : ∀ x v H1, Ex H H1 → x ∈ enm xs → Ri H1 x.2 v → c x = true → Er R te (((wipe σ vs).set i0 (some (.int x.1))).set j (some v)) H1 (f x)) :
    El R (tLc (iEnumT K (tCons tl tNil)) (g2 K i0 j) tt te vs) σ H (((enm xs).filter c).map f) := fun H1 e1 Q q =>
  h H1 e1 _ fun v H2 e2 r => by
    obtain ⟨a, us, rfl, hs, hp⟩ := r
    have hl := paired_len hp
    have hle := enm_len xs
    refine ⟨a, us, rfl, hs, el_core (K := K) (R := R) (J := IteT K a) (xs := enm xs) c f (by omega) (fun i H' e3 h => ⟨us, us[i]'(by omega), ex_t e3 hs, List.getElem?_eq_getElem _⟩) (fun H' e3 => ⟨us, ex_t e3 hs, by omega⟩) (fun i x u H' H'' C hx e3 y k => ?_) Q fun p H3 n3 e3 l3 => q p H3 (fresh_back e2 n3) (e2.trans e3) l3⟩
    obtain ⟨T, u', rfl, nT, rfl, y⟩ := y
    obtain ⟨n0, z0⟩ := x
    have ea := enm_at hx
    obtain rfl : n0 = (i : Int) := ea.1
    obtain ⟨u2, hu, ru⟩ := paired_get hp ea.2
    have eu := y us (ex_t e3 hs)
    rw [hu] at eu
    cases eu
    have eN := Ex.new (o := .tup [.int (i : Nat), u']) nT
    have e9 := ((e1.trans e2).trans e3).trans eN
    have hm := List.mem_of_getElem? hx
    refine ⟨T, [.int (i : Nat), u'], rfl, SqT.of upd_same, rfl, _, _, rfl, _, _, rfl, rfl, k _ _ eN ⟨hw _ _, ?_, fun hc => ?_⟩⟩
    · exact ht ((i : Int), z0) u' _ e9 hm (Me.ex (e3.trans eN) ru)
    · exact he ((i : Int), z0) u' _ e9 hm (Me.ex (e3.trans eN) ru) hc
theorem el_lcET [Me R] [Mkt K R] [Me Ri] {i0 : Nat} {xs : List β} {f : Int × β → α} (h : Er (rT K Ri) tl σ H xs) (hb : xs.length < 1000000) (hw : ∀ x y, wipe (((wipe σ vs).set i0 (some x)).set j (some y)) vs = wipe σ vs)
    (he : ∀ x v H1, Ex H H1 → x ∈ enm xs → Ri H1 x.2 v → Er R te (((wipe σ vs).set i0 (some (.int x.1))).set j (some v)) H1 (f x)) :
    El R (tLc (iEnumT K (tCons tl tNil)) (g2 K i0 j) tYes te vs) σ H ((enm xs).map f) := by
  have z := el_lcETc (K := K) (c := fun _ => true) (f := f) h hb hw (fun _ _ _ _ _ _ => et_yes) fun x v H1 e hx r _ => he x v H1 e hx r
  rw [List.filter_eq_self.mpr fun _ _ => rfl] at z
  exact z
theorem el_lcETIc [Me R] [Mkt K R] {i0 : Nat} {xs : List Int} {c : Int × Int → Bool} {f : Int × Int → α} (h : Er (rT K rI) tl σ H xs) (hb : xs.length < 1000000) (hw : ∀ x y, wipe (((wipe σ vs).set i0 (some x)).set j (some y)) vs = wipe σ vs)
    (ht : ∀ x H1, Ex H H1 → x ∈ enm xs → Et tt (((wipe σ vs).set i0 (some (.int x.1))).set j (some (.int x.2))) H1 (c x)) (he : ∀ x H1, Ex H H1 → x ∈ enm xs → c x = true → Er R te (((wipe σ vs).set i0 (some (.int x.1))).set j (some (.int x.2))) H1 (f x)) :
    El R (tLc (iEnumT K (tCons tl tNil)) (g2 K i0 j) tt te vs) σ H (((enm xs).filter c).map f) :=
  el_lcETc h hb hw (fun x v H1 e hx r => by cases r; exact ht x H1 e hx) fun x v H1 e hx r hc => by cases r; exact he x H1 e hx hc
theorem el_lcETI [Me R] [Mkt K R] {i0 : Nat} {xs : List Int} {f : Int × Int → α} (h : Er (rT K rI) tl σ H xs) (hb : xs.length < 1000000) (hw : ∀ x y, wipe (((wipe σ vs).set i0 (some x)).set j (some y)) vs = wipe σ vs)
    (he : ∀ x H1, Ex H H1 → x ∈ enm xs → Er R te (((wipe σ vs).set i0 (some (.int x.1))).set j (some (.int x.2))) H1 (f x)) :
    El R (tLc (iEnumT K (tCons tl tNil)) (g2 K i0 j) tYes te vs) σ H ((enm xs).map f) :=
  el_lcET h hb hw fun x v H1 e hx r => by cases r; exact he x H1 e hx
end
/-! ### steps by values at hand -/
def tK (v : V) : TE := fun _ H Q => Q v H
def tKs (vs : List V) : TA := fun _ H Q => Q vs H
section
variable {α : Type} {K : PySem.W.Frag} {H : Hp} {σ : L2.St} {ta tb te : TE} {t : TA} {R : Rp α} {x : α} {Q : VK}
theorem er_K [Me R] {v : V} (r : R H x v) : Er R (tK v) σ H x := fun H1 e _ q => q v H1 (Ex.refl H1) (Me.ex e r)
theorem er_iK {i : Int} : Er rI (tK (.int i)) σ H i := fun H1 _ _ q => q _ H1 (Ex.refl H1) rfl
theorem er_bK {i : Bool} : Er rB (tK (.bl i)) σ H i := fun H1 _ _ q => q _ H1 (Ex.refl H1) rfl
theorem er_sK {i : Str} : Er rS (tK (.str i)) σ H i := fun H1 _ _ q => q _ H1 (Ex.refl H1) rfl
theorem er_nK : Er rN (tK .non) σ H () := fun H1 _ _ q => q _ H1 (Ex.refl H1) rfl
theorem go_opK {r : R2} (h : ta σ H fun x H1 => tb σ H1 fun y H2 => tOp r (tK x) (tK y) [] H2 Q) : tOp r ta tb σ H Q := h
theorem go_unK {r : V → Hp → VK → Prop} (h : ta σ H fun x H1 => tUn r (tK x) [] H1 Q) : tUn r ta σ H Q := h
theorem go_callA {sp : Sp} {E : XK} (h : t σ H fun vs H1 => sp vs H1 Q E) : tCall sp [] E t σ H Q := by
  show t σ H fun vs H1 => sp (vs ++ []) H1 Q E
  simp only [List.append_nil]
  exact h
theorem go_cbA {r : List V → Hp → VK → Prop} (h : t σ H fun vs H1 => tCB r (tKs vs) [] H1 Q) : tCB r t σ H Q := h
theorem go_lstA (h : t σ H fun vs H1 => tLst (tKs vs) [] H1 Q) : tLst t σ H Q := h
theorem go_tupA (h : t σ H fun vs H1 => tTup (tKs vs) [] H1 Q) : tTup t σ H Q := h
theorem go_cons {Q' : List V → Hp → Prop} (h : ta σ H fun x H1 => t σ H1 fun xs H2 => Q' (x :: xs) H2) : tCons ta t σ H Q' := h
theorem go_nil {Q' : List V → Hp → Prop} (h : Q' [] H) : tNil σ H Q' := h
theorem ea_K [Me R] {xs : List α} {vs : List V} (h : Paired (R H) xs vs) : Ea (tKs vs) σ H (As R xs) := fun H1 e Q q => q vs H1 (Ex.refl H1) (pm h fun _ _ z => Me.ex e z)
theorem go_B {i : Bool} (h : Er rB te σ H i) (k : ∀ H1, Ex H H1 → Q (.bl i) H1) : te σ H Q := h H (Ex.refl H) _ fun v H1 e r => by cases r; exact k H1 e
theorem go_S {i : Str} (h : Er rS te σ H i) (k : ∀ H1, Ex H H1 → Q (.str i) H1) : te σ H Q := h H (Ex.refl H) _ fun v H1 e r => by cases r; exact k H1 e
theorem go_N {u : Unit} (h : Er rN te σ H u) (k : ∀ H1, Ex H H1 → Q .non H1) : te σ H Q := h H (Ex.refl H) _ fun v H1 e r => by cases r; exact k H1 e
theorem go_tV {Q : Bool → Hp → Prop} (h : te σ H fun x H1 => ∃ c, x = .bl c ∧ Q c H1) : tTest te σ H Q := h
theorem s_ret0 {D : Ends} (h : te σ H D.rt) : tRet te D σ H := h
theorem s_drop0 {D : Ends} (h : te σ H fun _ H1 => D.nx σ H1) : tDrop te D σ H := h
theorem s_if0 {D : Ends} {t : TT} {tu tw : TS} (h : t σ H fun b H1 => if b = true then tu D σ H1 else tw D σ H1) : tIfS t tu tw D σ H := h
end
theorem ite_no {b : Bool} {X Y : Prop} (h : b = false) (k : Y) : if b = true then X else Y := by rw [h]; exact k
theorem ite_ok {b : Bool} {X Y : Prop} (h : b = true) (k : X) : if b = true then X else Y := by rw [if_pos h]; exact k
section
variable {α : Type} {K : PySem.W.Frag} {H : Hp} {σ : L2.St} {ta te : TE} {R : Rp α} {vs : List Nat} {j : Nat} {b : Addr} {Q : VK}
/-! ### a new list of drawn things -/
def LcGo (j : Nat) (te : TE) (vs : List Nat) (σ : L2.St) (H : Hp) (hi : Int) (Q : VK) : Prop := ∀ D, H D = none → ∃ W : Nat → Nat → Hp → Prop, (∃ m, W 0 m (upd H D (.lst []))) ∧ ∀ i m H, W i m H →
      ((Itr 0 hi.toNat).stop i H ∧ Q (.ref D) H) ∨ ((Itr 0 hi.toNat).go i H ∧ ∃ Nx : Hp → Prop, (∀ H', Nx H' → ∃ m', m' < m ∧ W (i + 1) m' H') ∧ ∀ x H', (Itr 0 hi.toNat).yld i H x H' → gName j x (wipe σ vs) H' fun σ2 H2 => wipe σ2 vs = wipe σ vs ∧ tYes σ2 H2 fun b H3 =>
        if b = true then te σ2 H3 fun y H4 => ∃ acc, H4 D = some (.lst acc) ∧ acc.length < sizeLine ∧ Nx (upd H4 D (.lst (acc ++ [y]))) else Nx H3)
theorem lc_open (h : ta σ H fun v H1 => ∃ hi : Int, [v] = [V.int hi] ∧ -(2 ^ 62) ≤ hi ∧ hi < 2 ^ 62 ∧ LcGo j te vs σ H1 hi Q) : tLc (iRng1 (tCons ta tNil)) (gName j) tYes te vs σ H Q := h
/-- the body of a comprehension over a range, its items drawn from the bag -/
theorem lcR1B [Me R] [Mkt K R] (Py : α → Prop) (hB : Bag H b) {hi : Int} (hh : hi < 1000000) (hw : ∀ x, wipe ((wipe σ vs).set j (some x)) vs = wipe σ vs)
    (he : ∀ x H1 (C : VK), C1 b H H1 → Bag H1 b → (0 ≤ x ∧ x < hi) → (∀ v H2 y, C1 b H1 H2 → Bag H2 b → R H2 y v → Py y → C v H2) → te ((wipe σ vs).set j (some (.int x))) H1 C)
    (q : ∀ p H2 (ys : List α), H p = none → C1 b H H2 → Bag H2 b → ys.length = hi.toNat → (∀ y ∈ ys, Py y) → Lt R H2 p ys → Q (.ref p) H2) :
    LcGo j te vs σ H hi Q := by
  intro D hD
  have hbD : b ≠ D := hB.ne hD
  refine ⟨fun i m H' => m = hi.toNat - i ∧ i ≤ hi.toNat ∧ C1 b H H' ∧ Bag H' b ∧ ∃ ys : List α, ys.length = i ∧ (∀ y ∈ ys, Py y) ∧ Lt R H' D ys, ⟨hi.toNat, rfl, Nat.zero_le _, C1.ex (Ex.new hD), hB.ex (Ex.new hD), [], rfl, (fun _ h => by cases h), ⟨[], upd_same, .nil⟩⟩, ?_⟩
  rintro i m H1 ⟨rfl, hi1, c1, B1, ys, hl, hy, l1⟩
  by_cases hlt : i < hi.toNat
  · refine .inr ⟨hlt, fun H' => C1 b H H' ∧ Bag H' b ∧ ∃ ys : List α, ys.length = i + 1 ∧ (∀ y ∈ ys, Py y) ∧ Lt R H' D ys, fun H' h => ⟨hi.toNat - (i + 1), by omega, rfl, hlt, h⟩, ?_⟩
    rintro u H2 ⟨rfl, rfl⟩
    refine ⟨hw _, ?_⟩
    show te _ H2 _
    refine he _ H2 _ c1 B1 (by omega) fun v H3 y c3 B3 r3 py => ?_
    obtain ⟨acc, a1, a2⟩ := l1.keep (B1.kt (K := K) c3) c3 (Ne.symm hbD)
    have la : acc.length = i := by rw [← paired_len a2, hl]
    have kt1 : Kt K H3 (upd H3 D (.lst (acc ++ [v]))) := Kt.c1 a1 (C1.up (C1.refl D H3))
    refine ⟨acc, a1, sz0 (by omega), fun a o n h => ?_, B3.keep (C1.up (C1.refl D H3)) hbD, ys ++ [y], by simp [hl], fun z hz => ?_, ⟨acc ++ [v], upd_same, paired_append (pm a2 fun _ _ z => Mkt.kt kt1 z) (.cons (Mkt.kt kt1 r3) .nil)⟩⟩
    · rw [upd_ne (ne_of_none h hD)]
      exact c3 _ _ n (c1 _ _ n h)
    · rcases List.mem_append.mp hz with hz | hz
      · exact hy z hz
      · rw [List.mem_singleton.mp hz]; exact py
  · have e : i = hi.toNat := by omega
    exact .inl ⟨Nat.le_of_not_lt hlt, q D H1 ys hD c1 B1 (hl.trans e) hy l1⟩
theorem go_lcR1B [Me R] [Mkt K R] (Py : α → Prop) (hB : Bag H b) {hi : Int} (h : Er rI ta σ H hi) (hh : -(2 ^ 62) ≤ hi ∧ hi < 1000000) (hw : ∀ x, wipe ((wipe σ vs).set j (some x)) vs = wipe σ vs)
    (he : ∀ x H1 (C : VK), C1 b H H1 → Bag H1 b → (0 ≤ x ∧ x < hi) → (∀ v H2 y, C1 b H1 H2 → Bag H2 b → R H2 y v → Py y → C v H2) → te ((wipe σ vs).set j (some (.int x))) H1 C)
    (q : ∀ p H2 (ys : List α), H p = none → C1 b H H2 → Bag H2 b → ys.length = hi.toNat → (∀ y ∈ ys, Py y) → Lt R H2 p ys → Q (.ref p) H2) : tLc (iRng1 (tCons ta tNil)) (gName j) tYes te vs σ H Q := by
  refine h H (Ex.refl H) _ fun v H1 e r => ?_
  cases r
  refine ⟨hi, rfl, hh.1, by omega, lcR1B (K := K) Py (hB.ex e) hh.2 hw (fun x H2 C c => he x H2 C ((C1.ex e).trans c)) fun p H2 ys n c => q p H2 ys (fresh_back e n) ((C1.ex e).trans c)⟩
/-- tuple(l) of a list of one's own -/
theorem rtup_own {l : Addr} {xs : List α} [Me R] (l1 : Lt R H l xs) (k : ∀ v H1, Ex H H1 → rT K R H1 xs v → Q v H1) : rTupQ K [.ref l] H Q := by
  obtain ⟨us, h1, h2⟩ := l1
  exact ⟨l, us, rfl, .inl ⟨SqL.of h1, fun p np => k _ _ (Ex.new np) ⟨p, us, rfl, SqT.of upd_same, pm h2 fun _ _ z => Me.ex (Ex.new np) z⟩⟩⟩
end
section
variable {α : Type} {K : PySem.W.Frag} {H : Hp} {σ : L2.St} {ta tb te : TE} {R : Rp α}
/-! ### own lists put together -/
def Ew (R : Rp α) (t : TE) (σ : L2.St) (H : Hp) (xs : List α) : Prop := ∀ H1, Ex H H1 → ∀ Q : VK, (∀ p H2, Ex H1 H2 → Lt R H2 p xs → Q (.ref p) H2) → t σ H1 Q
theorem El.ew {xs : List α} (h : El R te σ H xs) : Ew R te σ H xs := fun H1 e Q q => h H1 e Q fun p H2 _ e2 l => q p H2 e2 l
theorem ew_var [Me R] {i : Nat} {p : Addr} {xs : List α} (h : σ[i]? = some (some (.ref p))) (l : Lt R H p xs) : Ew R (tVar i) σ H xs := fun H1 e Q q => ⟨_, h, q p H1 (Ex.refl H1) (l.ex e)⟩
theorem ew_K [Me R] {p : Addr} {xs : List α} (l : Lt R H p xs) : Ew R (tK (.ref p)) σ H xs := fun H1 e Q q => q p H1 (Ex.refl H1) (l.ex e)
theorem el_catW [Me R] {xs ys : List α} (ha : Ew R ta σ H xs) (hb : Ew R tb σ H ys) (hl : xs.length + ys.length ≤ 1000000) : El R (tOp rCat ta tb) σ H (xs ++ ys) := fun H1 e Q q =>
  ha H1 e _ fun p H2 e2 l2 => hb H2 (e.trans e2) _ fun p' H3 e3 l3 => by
    obtain ⟨vs, h1, h2⟩ := l2
    obtain ⟨ws, h3, h4⟩ := l3
    refine ⟨p, p', vs, ws, rfl, rfl, e3 _ _ h1, h3, by rw [← paired_len h2, ← paired_len h4]; exact sz1 hl, fun a na => ?_⟩
    exact q a _ (fresh_back (e2.trans e3) na) ((e2.trans e3).trans (Ex.new na)) ⟨_, upd_same, paired_append (pm h2 fun _ _ z => Me.ex (e3.trans (Ex.new na)) z) (pm h4 fun _ _ z => Me.ex (Ex.new na) z)⟩
theorem s_forLw {D : Ends} {tu : TS} {g : TG} {xs : List α} (h : Ew R te σ H xs) (k : ∀ p H1, Ex H H1 → Lt R H1 p xs → Fl (Itl K p) g tu D σ H1) : tFor (iList K te) g tu D σ H :=
  h H (Ex.refl H) _ fun p H1 e l => by
    obtain ⟨vs, h1, h2⟩ := id l
    exact ⟨p, rfl, ⟨vs, SqL.of h1⟩, k p H1 e l⟩
theorem q_forLw {D : Ends} {tu tz : TS} {g : TG} {xs : List α} (h : Ew R te σ H xs) (k : ∀ p H1, Ex H H1 → Lt R H1 p xs → Fl (Itl K p) g tu { D with nx := tz D } σ H1) : tSeq (tFor (iList K te) g tu) tz D σ H := s_forLw (D := { D with nx := tz D }) h k
theorem s_forELw {D : Ends} {tu : TS} {g : TG} {xs : List α} (h : Ew R te σ H xs) (k : ∀ p H1, Ex H H1 → Lt R H1 p xs → Fl (Ite K p) g tu D σ H1) : tFor (iEnum K (tCons te tNil)) g tu D σ H :=
  h H (Ex.refl H) _ fun p H1 e l => by
    obtain ⟨vs, h1, h2⟩ := id l
    exact ⟨p, vs, rfl, SqL.of h1, k p H1 e l⟩
theorem q_forELw {D : Ends} {tu tz : TS} {g : TG} {xs : List α} (h : Ew R te σ H xs) (k : ∀ p H1, Ex H H1 → Lt R H1 p xs → Fl (Ite K p) g tu { D with nx := tz D } σ H1) : tSeq (tFor (iEnum K (tCons te tNil)) g tu) tz D σ H := s_forELw (D := { D with nx := tz D }) h k
theorem s_forLn {D : Ends} {tu : TS} {g : TG} {xs : List α} (h : El R te σ H xs) (k : ∀ p H1, H p = none → Ex H H1 → Lt R H1 p xs → Fl (Itl K p) g tu D σ H1) : tFor (iList K te) g tu D σ H :=
  h H (Ex.refl H) _ fun p H1 n e l => by
    obtain ⟨vs, h1, h2⟩ := id l
    exact ⟨p, rfl, ⟨vs, SqL.of h1⟩, k p H1 n e l⟩
theorem q_forLn {D : Ends} {tu tz : TS} {g : TG} {xs : List α} (h : El R te σ H xs) (k : ∀ p H1, H p = none → Ex H H1 → Lt R H1 p xs → Fl (Itl K p) g tu { D with nx := tz D } σ H1) : tSeq (tFor (iList K te) g tu) tz D σ H := s_forLn (D := { D with nx := tz D }) h k
theorem s_forELn {D : Ends} {tu : TS} {g : TG} {xs : List α} (h : El R te σ H xs) (k : ∀ p H1, H p = none → Ex H H1 → Lt R H1 p xs → Fl (Ite K p) g tu D σ H1) : tFor (iEnum K (tCons te tNil)) g tu D σ H :=
  h H (Ex.refl H) _ fun p H1 n e l => by
    obtain ⟨vs, h1, h2⟩ := id l
    exact ⟨p, vs, rfl, SqL.of h1, k p H1 n e l⟩
theorem q_forELn {D : Ends} {tu tz : TS} {g : TG} {xs : List α} (h : El R te σ H xs) (k : ∀ p H1, H p = none → Ex H H1 → Lt R H1 p xs → Fl (Ite K p) g tu { D with nx := tz D } σ H1) : tSeq (tFor (iEnum K (tCons te tNil)) g tu) tz D σ H := s_forELn (D := { D with nx := tz D }) h k
theorem s_forLv {D : Ends} {tu : TS} {g : TG} {xs : List α} {i : Nat} {p : Addr} (h : σ[i]? = some (some (.ref p))) (l : Lt R H p xs) (k : Fl (Itl K p) g tu D σ H) : tFor (iList K (tVar i)) g tu D σ H := by
  obtain ⟨vs, h1, h2⟩ := l
  exact ⟨_, h, p, rfl, ⟨vs, SqL.of h1⟩, k⟩
theorem q_forLv {D : Ends} {tu tz : TS} {g : TG} {xs : List α} {i : Nat} {p : Addr} (h : σ[i]? = some (some (.ref p))) (l : Lt R H p xs) (k : Fl (Itl K p) g tu { D with nx := tz D } σ H) : tSeq (tFor (iList K (tVar i)) g tu) tz D σ H := s_forLv (D := { D with nx := tz D }) h l k
theorem s_forELv {D : Ends} {tu : TS} {g : TG} {xs : List α} {i : Nat} {p : Addr} (h : σ[i]? = some (some (.ref p))) (l : Lt R H p xs) (k : Fl (Ite K p) g tu D σ H) : tFor (iEnum K (tCons (tVar i) tNil)) g tu D σ H := by
  obtain ⟨vs, h1, h2⟩ := l
  exact ⟨_, h, p, vs, rfl, SqL.of h1, k⟩
theorem q_forELv {D : Ends} {tu tz : TS} {g : TG} {xs : List α} {i : Nat} {p : Addr} (h : σ[i]? = some (some (.ref p))) (l : Lt R H p xs) (k : Fl (Ite K p) g tu { D with nx := tz D } σ H) : tSeq (tFor (iEnum K (tCons (tVar i) tNil)) g tu) tz D σ H := s_forELv (D := { D with nx := tz D }) h l k
end
/-! ### a sequence read: a tuple or a list -/
def rQ {α : Type} (K : PySem.W.Frag) (R : Rp α) : Rp (List α) := fun H xs v => rT K R H xs v ∨ rL K R H xs v
instance {α : Type} {K : PySem.W.Frag} {R : Rp α} [Me R] : Me (rQ K R) := ⟨fun e h => h.elim (fun h => .inl (Me.ex e h)) fun h => .inr (Me.ex e h)⟩
theorem el_listQ {α : Type} {K : PySem.W.Frag} {R : Rp α} [Me R] {ta : TE} {σ : L2.St} {H : Hp} {xs : List α} (ha : Er (rQ K R) ta σ H xs) : El R (tCB (rListQ K) (tCons ta tNil)) σ H xs := fun H1 e Q q =>
  ha H1 e _ fun v H2 e2 h => by
    rcases h with ⟨a, vs, h1, hs, hp⟩ | ⟨a, vs, h1, hs, hp⟩
    · exact ⟨a, vs, by rw [h1], .inr hs, fun l nl => q l _ (fresh_back e2 nl) (e2.trans (Ex.new nl)) ⟨_, upd_same, pm hp fun _ _ z => Me.ex (Ex.new nl) z⟩⟩
    · exact ⟨a, vs, by rw [h1], .inl hs, fun l nl => q l _ (fresh_back e2 nl) (e2.trans (Ex.new nl)) ⟨_, upd_same, pm hp fun _ _ z => Me.ex (Ex.new nl) z⟩⟩
theorem er_QT {α : Type} {K : PySem.W.Frag} {R : Rp α} {ta : TE} {σ : L2.St} {H : Hp} {xs : List α} (ha : Er (rT K R) ta σ H xs) : Er (rQ K R) ta σ H xs := fun H1 e Q q => ha H1 e Q fun v H2 e2 r => q v H2 e2 (.inl r)
theorem er_QL {α : Type} {K : PySem.W.Frag} {R : Rp α} {ta : TE} {σ : L2.St} {H : Hp} {xs : List α} (ha : Er (rL K R) ta σ H xs) : Er (rQ K R) ta σ H xs := fun H1 e Q q => ha H1 e Q fun v H2 e2 r => q v H2 e2 (.inr r)
/-! ### loops over pairs -/
section
variable {α β : Type} {K : PySem.W.Frag} {H : Hp} {σ : L2.St} {R : Rp α} {S : Rp β} {D : Ends} {tu tz : TS} {j : Nat}
theorem fl_LP {i0 : Nat} {xs : List (α × β)} {v : V} (r : rL K (r2 K R S) H xs v) (Pv : Nat → L2.St → Hp → Prop) (h0 : Pv 0 σ H) (hG : ∀ i σ H', i ≤ xs.length → Pv i σ H' → rL K (r2 K R S) H' xs v)
    (hs : ∀ i x u w σ H', i < xs.length → xs[i]? = some x → Pv i σ H' → R H' x.1 u → S H' x.2 w → tu { D with nx := Pv (i + 1), ct := Pv (i + 1), bk := D.nx } ((σ.set i0 (some u)).set j (some w)) H') (hd : ∀ σ H', Pv xs.length σ H' → D.nx σ H') :
    ∀ a, v = .ref a → Fl (Itl K a) (g2 K i0 j) tu D σ H := by
  rintro a rfl
  refine fl_core Pv h0 (fun i σ H' hi p => ?_) (fun σ H' p => ?_) (fun i x σ H' H'' hi p y => ?_) hd
  · obtain ⟨_, vs, h1, h2, h3⟩ := hG i σ H' (by omega) p
    cases h1
    have hl := paired_len h3
    exact ⟨vs, vs[i]'(by omega), h2, List.getElem?_eq_getElem _⟩
  · obtain ⟨_, vs, h1, h2, h3⟩ := hG _ σ H' (Nat.le_refl _) p
    cases h1
    exact ⟨vs, h2, by rw [paired_len h3]; exact Nat.le_refl _⟩
  · obtain ⟨_, vs, h1, h2, h3⟩ := hG i σ H' (by omega) p
    cases h1
    obtain ⟨rfl, y⟩ := y
    have hx := y vs h2
    obtain ⟨z, hz, T, u, w, rfl, hT, ru, rw'⟩ := paired_get' h3 hx
    exact ⟨T, [u, w], rfl, hT, rfl, _, _, rfl, _, _, rfl, rfl, hs i z u w σ H'' hi hz p ru rw'⟩
theorem fq_LP {i0 : Nat} {xs : List (α × β)} {v : V} (r : rL K (r2 K R S) H xs v) (Pv : Nat → L2.St → Hp → Prop) (h0 : Pv 0 σ H) (hG : ∀ i σ H', i ≤ xs.length → Pv i σ H' → rL K (r2 K R S) H' xs v)
    (hs : ∀ i x u w σ H', i < xs.length → xs[i]? = some x → Pv i σ H' → R H' x.1 u → S H' x.2 w → tu { nx := Pv (i + 1), rt := D.rt, bk := tz D, ct := Pv (i + 1) } ((σ.set i0 (some u)).set j (some w)) H') (hd : ∀ σ H', Pv xs.length σ H' → tz D σ H') :
    ∀ a, v = .ref a → Fl (Itl K a) (g2 K i0 j) tu { D with nx := tz D } σ H := fl_LP (D := { D with nx := tz D }) r Pv h0 hG hs hd
theorem fl_TP {i0 : Nat} {xs : List (α × β)} {v : V} (r : rT K (r2 K R S) H xs v) (Pv : Nat → L2.St → Hp → Prop) (h0 : Pv 0 σ H) (hG : ∀ i σ H', i ≤ xs.length → Pv i σ H' → rT K (r2 K R S) H' xs v)
    (hs : ∀ i x u w σ H', i < xs.length → xs[i]? = some x → Pv i σ H' → R H' x.1 u → S H' x.2 w → tu { D with nx := Pv (i + 1), ct := Pv (i + 1), bk := D.nx } ((σ.set i0 (some u)).set j (some w)) H') (hd : ∀ σ H', Pv xs.length σ H' → D.nx σ H') :
    ∀ a, v = .ref a → Fl (Itt K a) (g2 K i0 j) tu D σ H := by
  rintro a rfl
  refine fl_core Pv h0 (fun i σ H' hi p => ?_) (fun σ H' p => ?_) (fun i x σ H' H'' hi p y => ?_) hd
  · obtain ⟨_, vs, h1, h2, h3⟩ := hG i σ H' (by omega) p
    cases h1
    have hl := paired_len h3
    exact ⟨vs, vs[i]'(by omega), h2, List.getElem?_eq_getElem _⟩
  · obtain ⟨_, vs, h1, h2, h3⟩ := hG _ σ H' (Nat.le_refl _) p
    cases h1
    exact ⟨vs, h2, by rw [paired_len h3]; exact Nat.le_refl _⟩
  · obtain ⟨_, vs, h1, h2, h3⟩ := hG i σ H' (by omega) p
    cases h1
    obtain ⟨rfl, y⟩ := y
    have hx := y vs h2
    obtain ⟨z, hz, T, u, w, rfl, hT, ru, rw'⟩ := paired_get' h3 hx
    exact ⟨T, [u, w], rfl, hT, rfl, _, _, rfl, _, _, rfl, rfl, hs i z u w σ H'' hi hz p ru rw'⟩
theorem fq_TP {i0 : Nat} {xs : List (α × β)} {v : V} (r : rT K (r2 K R S) H xs v) (Pv : Nat → L2.St → Hp → Prop) (h0 : Pv 0 σ H) (hG : ∀ i σ H', i ≤ xs.length → Pv i σ H' → rT K (r2 K R S) H' xs v)
    (hs : ∀ i x u w σ H', i < xs.length → xs[i]? = some x → Pv i σ H' → R H' x.1 u → S H' x.2 w → tu { nx := Pv (i + 1), rt := D.rt, bk := tz D, ct := Pv (i + 1) } ((σ.set i0 (some u)).set j (some w)) H') (hd : ∀ σ H', Pv xs.length σ H' → tz D σ H') :
    ∀ a, v = .ref a → Fl (Itt K a) (g2 K i0 j) tu { D with nx := tz D } σ H := fl_TP (D := { D with nx := tz D }) r Pv h0 hG hs hd
theorem er_pr [Me R] [Me S] {ta tb : TE} {x : α} {y : β} (ha : Er R ta σ H x) (hb : Er S tb σ H y) : Er (r2 K R S) (tTup (tCons ta (tCons tb tNil))) σ H (x, y) := fun H1 e Q q =>
  ha H1 e _ fun u H2 e2 r1 => hb H2 (e.trans e2) _ fun w H3 e3 r2' => ⟨by show 2 ≤ sizeLine; decide, fun a na => q _ _ ((e2.trans e3).trans (Ex.new na)) ⟨a, u, w, rfl, SqT.of upd_same, Me.ex (e3.trans (Ex.new na)) r1, Me.ex (Ex.new na) r2'⟩⟩
end
/-- any value -/
def rV0 : Rp Unit := fun _ _ _ => True
instance : Me rV0 := ⟨fun _ h => h⟩
instance {K : PySem.W.Frag} : Mkt K rV0 := ⟨fun _ h => h⟩
theorem er_v0 {α : Type} {R : Rp α} {t : TE} {σ : L2.St} {H : Hp} {x : α} (h : Er R t σ H x) : Er rV0 t σ H () := fun H1 e Q q => h H1 e Q fun v H2 e2 _ => q v H2 e2 trivial
/-! ### what kind an error is -/
theorem er_isEc {K : PySem.W.Frag} {σ : L2.St} {H : Hp} {i : Nat} {a D C : Addr} {b : Bool} (h : σ[i]? = some (some (.ref a))) (hk : PySem.W.kitOne K (.ref D) (.ref C) = some b) : Er rB (tCB (rIsE K D a) (tCons (tVar i) (tCons (tC (.ref C)) tNil))) σ H b := fun H1 _ Q q => ⟨_, h, .ref C, .ref C, b, rfl, fun u r => r, hk, q _ H1 (Ex.refl H1) rfl⟩
theorem er_isEv {K : PySem.W.Frag} {σ : L2.St} {H : Hp} {i : Nat} {a D : Addr} {b : Bool} (h : σ[i]? = some (some (.ref a))) (hk : PySem.W.kitOne K (.ref D) (.type "ValueError") = some b) : Er rB (tCB (rIsE K D a) (tCons (tVar i) (tCons (tC (.ty "ValueError")) tNil))) σ H b := fun H1 _ Q q => ⟨_, h, .ty "ValueError", .type "ValueError", b, rfl, fun u r => r, hk, q _ H1 (Ex.refl H1) rfl⟩
end Dg

set_option maxRecDepth 100000
set_option maxHeartbeats 4000000
/-! Texts by their signs. -/
namespace Dg
open PySem PySem.Spec PyProof.Rows L2 Evl
open SX (S)
def rX : Rp (List Nat) := fun _ s v => v = .str (S s)
section
variable {α : Type} {K : PySem.W.Frag} {H : Hp} {σ : L2.St} {ta tb te : TE} {R : Rp α} {a b c : List Nat}
instance : Me rX := ⟨fun _ h => h⟩
instance : Mkt K rX := ⟨fun _ h => h⟩
theorem er_xv {i : Nat} (h : σ[i]? = some (some (.str (S a))) := by rfl) : Er rX (tVar i) σ H a := fun H1 _ _ q => ⟨_, h, q _ H1 (Ex.refl H1) rfl⟩
theorem er_xK : Er rX (tK (.str (S a))) σ H a := fun H1 _ _ q => q _ H1 (Ex.refl H1) rfl
theorem er_xc {k : Str} (a : List Nat) (h : k = S a := by decide) : Er rX (tC (.str k)) σ H a := fun H1 _ _ q => q _ H1 (Ex.refl H1) (by rw [h]; rfl)
theorem er_xs {k : Str} (h : Er rX te σ H a) (e : S a = k) : Er rS te σ H k := fun H1 e1 Q q => h H1 e1 Q fun v H2 e2 r => q v H2 e2 (by rw [← e]; exact r)
abbrev rCatS : R2 := fun x y H Q => ∃ i j, x = .str i ∧ y = .str j ∧ i.length + j.length ≤ sizeLine ∧ Q (.str (i ++ j)) H
theorem er_xadd (ha : Er rX ta σ H a) (hb : Er rX tb σ H b) (hl : a.length + b.length ≤ 1000000) : Er rX (tOp rCatS ta tb) σ H (a ++ b) := fun H1 e Q q =>
  ha H1 e _ fun v H2 e2 r1 => hb H2 (e.trans e2) _ fun w H3 e3 r2 => ⟨S a, S b, r1, r2, by rw [SX.S_len, SX.S_len]; exact sz1 hl, q _ H3 (e2.trans e3) (by rw [SX.S_cat]; rfl)⟩
/-- text * int -/
def rRepS : R2 := fun x y H Q => ∃ i k, x = .str i ∧ y = .int k ∧ -1000000 ≤ k ∧ k ≤ 1000 ∧ i.length ≤ 1000 ∧ Q (.str (S (repL i.cps.toList k))) H
end
theorem foldl_cat : ∀ (n : Nat) (x : Array Nat) (acc : Array Nat), (List.foldl (fun a b => a ++ b) acc (List.replicate n x)).toList = acc.toList ++ (List.replicate n x.toList).flatten
  | 0, x, acc => by simp
  | n + 1, x, acc => by
    rw [List.replicate_succ, List.foldl_cons, foldl_cat n x (acc ++ x), List.replicate_succ, List.flatten_cons, Array.toList_append, List.append_assoc]
theorem op_repS {X : Cx} : OpR X (binaryOp .Mult) rRepS := by
  intro pins s σ H x y v u Q I rx ry h
  obtain ⟨i, k, rfl, rfl, h0, h1, hz, q⟩ := h
  obtain ⟨t, rfl⟩ := rx
  obtain ⟨t', rfl⟩ := ry
  have hl : i.length = i.cps.toList.length := by simp [Str.length]
  refine PySem.P.mul_str ?_ (fun _ _ => ?_) (fun _ _ => ?_) ?_
  · rw [decide_eq_false (by omega), decide_eq_false (by omega)] <;> rfl
  · have : (1000 : Int) ≤ (2 ^ 63 - 1) / k := Int.le_ediv_of_mul_le (by omega) (by omega)
    omega
  · unfold Builtin.Str.tooLong
    refine decide_eq_false ?_
    have : i.length * k.toNat ≤ 1000 * 1000 := Nat.mul_le_mul hz (by omega)
    have e := sizeLine_eq
    omega
  · split
    · refine ⟨by decide, ⟨.str _, H, I.tok _, ⟨_, rfl⟩, ?_⟩⟩
      have : k.toNat = 0 := by omega
      unfold repL at q
      rw [this] at q
      exact q
    · split
      · rename_i hc
        rw [Bool.or_eq_true, beq_iff_eq, beq_iff_eq] at hc
        refine ⟨.str _, H, I, ⟨_, rfl⟩, ?_⟩
        have e : S (repL i.cps.toList k) = i := by
          refine TL.ext_tl ?_
          show repL i.cps.toList k = i.cps.toList
          unfold repL
          rcases hc with hc | hc
          · subst hc; simp
          · have : i.cps.toList = [] := List.eq_nil_of_length_eq_zero (by omega)
            rw [this]; simp
        rw [e] at q
        exact q
      · have e : (⟨(List.replicate k.toNat i.cps).foldl (· ++ ·) #[]⟩ : Str) = S (repL i.cps.toList k) := by
          refine TL.ext_tl ?_
          show (List.foldl (fun a b => a ++ b) #[] (List.replicate k.toNat i.cps)).toList = repL i.cps.toList k
          rw [foldl_cat]
          rfl
        rw [e]
        refine ⟨?_, ⟨.str _, H, I.tok _, ⟨_, rfl⟩, q⟩⟩
        rw [SX.S_len, repL_len]
        have : k.toNat * i.cps.toList.length ≤ 1000 * 1000 := Nat.mul_le_mul (by omega) (by omega)
        have e := sizeLine_eq
        omega
section
variable {α : Type} {K : PySem.W.Frag} {H : Hp} {σ : L2.St} {ta tb te : TE} {R : Rp α} {a b c : List Nat}
theorem er_xrep {k : Int} (ha : Er rX ta σ H a) (hb : Er rI tb σ H k) (h : -1000000 ≤ k ∧ k ≤ 1000) (hl : a.length ≤ 1000) : Er rX (tOp rRepS ta tb) σ H (repL a k) := fun H1 e Q q =>
  ha H1 e _ fun v H2 e2 r1 => hb H2 (e.trans e2) _ fun w H3 e3 r2 => ⟨S a, k, r1, r2, h.1, h.2, by rw [SX.S_len]; exact hl, q _ H3 (e2.trans e3) rfl⟩
theorem dec_S : decide (V.str (S a) = V.str (S b)) = decide (a = b) := decide_eq_decide.mpr ⟨fun z => SX.S_inj (V.str.inj z), fun z => by rw [z]⟩
theorem er_xeq (ha : Er rX ta σ H a) (hb : Er rX tb σ H b) : Er rB (tOp rEq ta tb) σ H (decide (a = b)) := fun H1 e Q q =>
  ha H1 e _ fun v H2 e2 r1 => hb H2 (e.trans e2) _ fun w H3 e3 r2 => by
    cases r1; cases r2
    exact ⟨rfl, q _ H3 (e2.trans e3) (by show V.bl _ = V.bl _; rw [dec_S])⟩
theorem er_xne (ha : Er rX ta σ H a) (hb : Er rX tb σ H b) : Er rB (tOp rNe ta tb) σ H (!decide (a = b)) := fun H1 e Q q =>
  ha H1 e _ fun v H2 e2 r1 => hb H2 (e.trans e2) _ fun w H3 e3 r2 => by
    cases r1; cases r2
    exact ⟨rfl, q _ H3 (e2.trans e3) (by show V.bl _ = V.bl _; rw [dec_S])⟩
abbrev rLenS : List V → Hp → VK → Prop := fun xs H Q => ∃ z, xs = [.str z] ∧ z.length ≤ sizeLine ∧ Q (.int z.length) H
theorem er_xlen (ha : Er rX ta σ H a) (hz : a.length ≤ 1000000) : Er rI (tCB rLenS (tCons ta tNil)) σ H (a.length : Int) := fun H1 e Q q =>
  ha H1 e _ fun v H2 e2 h => ⟨S a, by rw [h], by rw [SX.S_len]; exact sz1 hz, q _ H2 e2 (by rw [SX.S_len]; rfl)⟩
theorem er_xix {i : Int} {d : Nat} (ha : Er rX ta σ H a) (hb : Er rI tb σ H i) (h1 : -(a.length : Int) ≤ i) (h2 : i < a.length) (hz : a.length ≤ 1000000) (hd : a[ixs a.length i]? = some d) : Er rX (tOp rIxS ta tb) σ H [d] := fun H1 e Q q =>
  ha H1 e _ fun v H2 e2 r1 => hb H2 (e.trans e2) _ fun w H3 e3 r2 => by
    cases r1; cases r2
    refine ⟨S a, i, d, rfl, rfl, by rw [SX.S_len]; exact sz1 hz, ?_, q _ H3 (e2.trans e3) rfl⟩
    unfold atI
    show (ixN a.length i).bind _ = _
    rw [(ixN_ixs h1 h2).1]
    exact hd
theorem cutS_S (a : List Nat) (lo hi : Option Int) : cutS (S a) lo hi = S (cutL a lo hi) := rfl
theorem er_xsl {tl th : TO} {lo hi : Option Int} (h : Er rX te σ H a) (h1 : Eo tl σ H lo) (h2 : Eo th σ H hi) (hz : a.length ≤ 1000000) : Er rX (tSl rSlS te tl th) σ H (cutL a lo hi) := fun H1 e Q q =>
  h H1 e _ fun v H2 e2 r => h1 H2 (e.trans e2) _ fun H3 e3 => h2 H3 ((e.trans e2).trans e3) _ fun H4 e4 => ⟨S a, r, by rw [SX.S_len]; exact sz1 hz, q _ H4 ((e2.trans e3).trans e4) (by rw [cutS_S]; rfl)⟩
/-- part of a text -/
def subX (a b : List Nat) : Bool := !(Builtin.Str.occurrences (S b) (S a) 0 (S b).length 1).isEmpty
theorem subX_one (b : List Nat) (c : Nat) : subX [c] b = decide (c ∈ b) := SX.in_one b c
abbrev rInS : R2 := fun x y H Q => ∃ i j, x = .str i ∧ y = .str j ∧ Q (.bl (!(Builtin.Str.occurrences j i 0 j.length 1).isEmpty)) H
theorem er_xin (ha : Er rX ta σ H a) (hb : Er rX tb σ H b) : Er rB (tOp rInS ta tb) σ H (subX a b) := fun H1 e Q q =>
  ha H1 e _ fun v H2 e2 r1 => hb H2 (e.trans e2) _ fun w H3 e3 r2 => ⟨S a, S b, r1, r2, q _ H3 (e2.trans e3) rfl⟩
theorem pX : ∀ {xs : List (List Nat)} {vs : List V}, Paired (rX H) xs vs → vs = (xs.map S).map V.str
  | [], _, .nil => rfl
  | x :: xs, _, .cons r t => by
    have e : _ = V.str (S x) := r
    rw [e, pX t]
    rfl
theorem pX' : ∀ (xs : List (List Nat)), Paired (rX H) xs ((xs.map S).map V.str)
  | [] => .nil
  | _ :: xs => .cons rfl (pX' xs)
abbrev rJoinS (K : PySem.W.Frag) : V → List V → Hp → VK → Prop := fun x xs H Q => ∃ a p, ∃ ys : List Str, x = .str a ∧ xs = [.ref p] ∧ (SqL K H p (ys.map V.str) ∨ SqT K H p (ys.map V.str)) ∧
      (ys.map (·.length)).sum + ys.length * a.length ≤ 16777216 ∧ Q (.str (Txt.join a ys)) H
theorem lensS (ys : List (List Nat)) : ((ys.map S).map (·.length)).sum = (ys.map List.length).sum := by
  rw [List.map_map]
  congr 1
theorem er_xjoin {ys : List (List Nat)} (ha : Er rX ta σ H a) (hb : Er (rL K rX) tb σ H ys) (hz : (ys.map List.length).sum + ys.length * a.length ≤ 1000000) : Er rX (tM1 (rJoinS K) ta tb) σ H (TL.joinL a ys) := fun H1 e Q q =>
  ha H1 e _ fun v H2 e2 r1 => ⟨⟨_, r1⟩, hb H2 (e.trans e2) _ fun w H3 e3 ⟨p, vs, r2, h1, h2⟩ => by
    have e4 := pX h2
    subst e4
    exact ⟨S a, p, ys.map S, r1, by rw [r2], .inl h1, by rw [lensS, List.length_map, SX.S_len]; omega, q _ H3 (e2.trans e3) (by rw [SX.join_S]; rfl)⟩⟩
abbrev rSplitS : V → List V → Hp → VK → Prop := fun x xs H Q => ∃ a b, x = .str a ∧ xs = [.str b] ∧ (b.length == 0) = false ∧ a.length + 2 ≤ sizeLine ∧ rNewStrs (Txt.split a b) H Q
theorem el_xsplit (ha : Er rX ta σ H a) (hb : Er rX tb σ H b) (hz : a.length ≤ 999990) (hn : b ≠ []) (hk : b.all (· < 256) = true) : El rX (tM1 rSplitS ta tb) σ H (TL.spl b 0 [] a) := fun H1 e Q q =>
  ha H1 e _ fun v H2 e2 r1 => ⟨⟨_, r1⟩, hb H2 (e.trans e2) _ fun w H3 e3 r2 => by
    refine ⟨S a, S b, r1, by rw [show w = _ from r2], ?_, ?_, ?_⟩
    · rw [SX.S_len]
      cases b with
      | nil => exact absurd rfl hn
      | cons x r => rfl
    · rw [SX.S_len]
      exact sz1 (by omega)
    · rw [SX.split_S hn hk]
      exact fun p np => q p _ (fresh_back (e2.trans e3) np) ((e2.trans e3).trans (Ex.new np)) ⟨_, upd_same, pX' _⟩⟩
abbrev rIntS : List V → Hp → VK → Prop := fun xs H Q => ∃ a n, xs = [.str a] ∧ PySem.intText? a = some n ∧ a.length ≤ 640 ∧ Q (.int n) H
theorem er_xint {n : Int} (ha : Er rX ta σ H a) (h : PySem.intText? (S a) = some n) (hl : a.length ≤ 640) : Er rI (tCB rIntS (tCons ta tNil)) σ H n := fun H1 e Q q =>
  ha H1 e _ fun v H2 e2 r => ⟨S a, n, by rw [show v = _ from r], h, by rw [SX.S_len]; exact hl, q _ H2 e2 rfl⟩
abbrev rStrI : List V → Hp → VK → Prop := fun xs H Q => ∃ i : Int, xs = [.int i] ∧ i.natAbs.log2 < 1920 ∧ Q (.str (toString i)) H
theorem er_xstr {i : Int} (ha : Er rI ta σ H i) (h : 0 ≤ i ∧ i < 1000000) : Er rX (tCB rStrI (tCons ta tNil)) σ H (TL.numL i.toNat) := fun H1 e Q q =>
  ha H1 e _ fun v H2 e2 r => ⟨i, by rw [show v = _ from r], by
    have h1 : i.natAbs.log2 ≤ i.natAbs := Nat.log2_le_self _
    have h2 : i.natAbs < 2 ^ 20 := by omega
    have h3 : i.natAbs.log2 < 20 := by
      by_cases z : i.natAbs = 0
      · rw [z]; decide
      · exact (Nat.log2_lt z).mpr h2
    omega, q _ H2 e2 (by
    obtain ⟨n, rfl⟩ : ∃ n : Nat, i = n := ⟨i.toNat, by omega⟩
    show V.str _ = V.str (S (TL.numL n))
    rw [← SX.num_S])⟩
variable {Q : VK} {D : Ends} {tz : TS} {j : Nat}
def gtX (a : List Nat) (i : Int) : Nat := (a[ixs a.length i]?).getD 0
theorem er_xix0 {i : Int} (ha : Er rX ta σ H a) (hb : Er rI tb σ H i) (h1 : -(a.length : Int) ≤ i) (h2 : i < a.length) (hz : a.length ≤ 1000000) : Er rX (tOp rIxS ta tb) σ H [gtX a i] :=
  er_xix ha hb h1 h2 hz (by unfold gtX; rw [List.getElem?_eq_getElem (ixN_ixs h1 h2).2]; rfl)
theorem go_X (h : Er rX te σ H a) (k : ∀ H1, Ex H H1 → Q (.str (S a)) H1) : te σ H Q := h H (Ex.refl H) _ fun v H1 e r => by cases r; exact k H1 e
theorem s_asgX (h : Er rX te σ H a) (k : ∀ H1, Ex H H1 → D.nx (σ.set j (some (.str (S a)))) H1) : tAsg te (gName j) D σ H := h H (Ex.refl H) _ fun v H1 e r => by cases r; exact k H1 e
theorem q_asgX (h : Er rX te σ H a) (k : ∀ H1, Ex H H1 → tz D (σ.set j (some (.str (S a)))) H1) : tSeq (tAsg te (gName j)) tz D σ H := s_asgX (D := { D with nx := tz D }) h k
theorem er_isX (h : Er rX te σ H a) : Er rB (tCB (rIsi K) (tCons te (tCons (tC (.ty "str")) tNil))) σ H true := fun H1 e Q q =>
  h H1 e _ fun v H2 e2 r => by
    cases r
    exact ⟨_, _, _, _, true, rfl, .ty "str", .base (.str _), kit_ty (show kitB "str" "str" = some true by decide +kernel), q _ H2 e2 rfl⟩
end
/-! ### written things by their names -/
def Cg (mg : Str → Option Value) (x : Str) (v : V) : Prop := ∃ u, mg x = some u ∧ RelV v u
theorem er_cn {K : PySem.W.Frag} {mg : Str → Option Value} {x : Str} {xs : List Int} {σ : L2.St} {H : Hp} (c : Cn K mg x (xs.map V.int)) : Er (rT K rI) (tC (.ref c.a)) σ H xs := fun H1 _ _ q => q _ H1 (Ex.refl H1) ⟨c.a, _, rfl, c.s H1, pI' xs⟩
section
variable {α β ι : Type} {K : PySem.W.Frag} {H : Hp} {σ : L2.St} {ta tb te tl : TE} {tt : TT} {R : Rp α} {Ri : Rp β} {vs : List Nat} {j : Nat} {D : Ends} {tu tz : TS}
theorem el_lcLX [Me R] [Mkt K R] {xs : List (List Nat)} {f : List Nat → α} (h : Er (rL K rX) tl σ H xs) (hb : xs.length < 1000000) (hw : ∀ x, wipe ((wipe σ vs).set j (some x)) vs = wipe σ vs)
    (he : ∀ x H1, Ex H H1 → x ∈ xs → Er R te ((wipe σ vs).set j (some (.str (S x)))) H1 (f x)) : El R (tLc (iList K tl) (gName j) tYes te vs) σ H (xs.map f) :=
  el_lcL h hb hw fun x v H1 e hx r => by cases r; exact he x H1 e hx
theorem el_lcTX [Me R] [Mkt K R] {xs : List (List Nat)} {f : List Nat → α} (h : Er (rT K rX) tl σ H xs) (hb : xs.length < 1000000) (hw : ∀ x, wipe ((wipe σ vs).set j (some x)) vs = wipe σ vs)
    (he : ∀ x H1, Ex H H1 → x ∈ xs → Er R te ((wipe σ vs).set j (some (.str (S x)))) H1 (f x)) : El R (tLc (iTup K tl) (gName j) tYes te vs) σ H (xs.map f) :=
  el_lcT h hb hw fun x v H1 e hx r => by cases r; exact he x H1 e hx
theorem el_lcLXc [Me R] [Mkt K R] {xs : List (List Nat)} {c : List Nat → Bool} {f : List Nat → α} (h : Er (rL K rX) tl σ H xs) (hb : xs.length < 1000000) (hw : ∀ x, wipe ((wipe σ vs).set j (some x)) vs = wipe σ vs)
    (ht : ∀ x H1, Ex H H1 → x ∈ xs → Et tt ((wipe σ vs).set j (some (.str (S x)))) H1 (c x)) (he : ∀ x H1, Ex H H1 → x ∈ xs → c x = true → Er R te ((wipe σ vs).set j (some (.str (S x)))) H1 (f x)) : El R (tLc (iList K tl) (gName j) tt te vs) σ H ((xs.filter c).map f) :=
  el_lcLc h hb hw (fun x v H1 e hx r => by cases r; exact ht x H1 e hx) fun x v H1 e hx r hc => by cases r; exact he x H1 e hx hc
theorem el_lcTXc [Me R] [Mkt K R] {xs : List (List Nat)} {c : List Nat → Bool} {f : List Nat → α} (h : Er (rT K rX) tl σ H xs) (hb : xs.length < 1000000) (hw : ∀ x, wipe ((wipe σ vs).set j (some x)) vs = wipe σ vs)
    (ht : ∀ x H1, Ex H H1 → x ∈ xs → Et tt ((wipe σ vs).set j (some (.str (S x)))) H1 (c x)) (he : ∀ x H1, Ex H H1 → x ∈ xs → c x = true → Er R te ((wipe σ vs).set j (some (.str (S x)))) H1 (f x)) : El R (tLc (iTup K tl) (gName j) tt te vs) σ H ((xs.filter c).map f) :=
  el_lcTc h hb hw (fun x v H1 e hx r => by cases r; exact ht x H1 e hx) fun x v H1 e hx r hc => by cases r; exact he x H1 e hx hc
theorem fl_TX {xs : List (List Nat)} {v : V} (r : rT K rX H xs v) (Pv : Nat → L2.St → Hp → Prop) (h0 : Pv 0 σ H) (hG : ∀ i σ H', i ≤ xs.length → Pv i σ H' → rT K rX H' xs v)
    (hs : ∀ i x σ H', i < xs.length → xs[i]? = some x → Pv i σ H' → tu { D with nx := Pv (i + 1), ct := Pv (i + 1), bk := D.nx } (σ.set j (some (.str (S x)))) H') (hd : ∀ σ H', Pv xs.length σ H' → D.nx σ H') :
    ∀ a, v = .ref a → Fl (Itt K a) (gName j) tu D σ H := fl_T r Pv h0 hG (fun i x u σ H' hi hx p r => by cases r; exact hs i x σ H' hi hx p) hd
theorem fl_LX {xs : List (List Nat)} {v : V} (r : rL K rX H xs v) (Pv : Nat → L2.St → Hp → Prop) (h0 : Pv 0 σ H) (hG : ∀ i σ H', i ≤ xs.length → Pv i σ H' → rL K rX H' xs v)
    (hs : ∀ i x σ H', i < xs.length → xs[i]? = some x → Pv i σ H' → tu { D with nx := Pv (i + 1), ct := Pv (i + 1), bk := D.nx } (σ.set j (some (.str (S x)))) H') (hd : ∀ σ H', Pv xs.length σ H' → D.nx σ H') :
    ∀ a, v = .ref a → Fl (Itl K a) (gName j) tu D σ H := fl_L r Pv h0 hG (fun i x u σ H' hi hx p r => by cases r; exact hs i x σ H' hi hx p) hd
theorem fq_TX {xs : List (List Nat)} {v : V} (r : rT K rX H xs v) (Pv : Nat → L2.St → Hp → Prop) (h0 : Pv 0 σ H) (hG : ∀ i σ H', i ≤ xs.length → Pv i σ H' → rT K rX H' xs v)
    (hs : ∀ i x σ H', i < xs.length → xs[i]? = some x → Pv i σ H' → tu { nx := Pv (i + 1), rt := D.rt, bk := tz D, ct := Pv (i + 1) } (σ.set j (some (.str (S x)))) H') (hd : ∀ σ H', Pv xs.length σ H' → tz D σ H') :
    ∀ a, v = .ref a → Fl (Itt K a) (gName j) tu { D with nx := tz D } σ H := fl_TX (D := { D with nx := tz D }) r Pv h0 hG hs hd
theorem fq_LX {xs : List (List Nat)} {v : V} (r : rL K rX H xs v) (Pv : Nat → L2.St → Hp → Prop) (h0 : Pv 0 σ H) (hG : ∀ i σ H', i ≤ xs.length → Pv i σ H' → rL K rX H' xs v)
    (hs : ∀ i x σ H', i < xs.length → xs[i]? = some x → Pv i σ H' → tu { nx := Pv (i + 1), rt := D.rt, bk := tz D, ct := Pv (i + 1) } (σ.set j (some (.str (S x)))) H') (hd : ∀ σ H', Pv xs.length σ H' → tz D σ H') :
    ∀ a, v = .ref a → Fl (Itl K a) (gName j) tu { D with nx := tz D } σ H := fl_LX (D := { D with nx := tz D }) r Pv h0 hG hs hd
end
section
variable {K : PySem.W.Frag} {H : Hp} {σ : L2.St} {ta tb te : TE}
theorem pB : ∀ {xs : List Bool} {vs : List V}, Paired (rB H) xs vs → vs = xs.map V.bl
  | [], _, .nil => rfl
  | x :: xs, _, .cons r t => by
    have e : _ = V.bl x := r
    rw [e, pB t]
    rfl
theorem er_any {xs : List Bool} (ha : Er (rL K rB) ta σ H xs) : Er rB (tCB (rAny K) (tCons ta tNil)) σ H (xs.any id) := fun H1 e Q q =>
  ha H1 e _ fun v H2 e2 ⟨a, vs, h1, hs, hp⟩ => by
    have e4 := pB hp
    subst e4
    exact ⟨a, xs, by rw [h1], hs, q _ H2 e2 rfl⟩
theorem er_all {xs : List Bool} (ha : Er (rL K rB) ta σ H xs) : Er rB (tCB (rAll K) (tCons ta tNil)) σ H (xs.all id) := fun H1 e Q q =>
  ha H1 e _ fun v H2 e2 ⟨a, vs, h1, hs, hp⟩ => by
    have e4 := pB hp
    subst e4
    exact ⟨a, xs, by rw [h1], hs, q _ H2 e2 rfl⟩
theorem er_sum {xs : List Int} (ha : Er (rL K rI) ta σ H xs) : Er rI (tCB (rSum K) (tCons ta tNil)) σ H xs.sum := fun H1 e Q q =>
  ha H1 e _ fun v H2 e2 ⟨a, vs, h1, hs, hp⟩ => by
    have e4 := pI hp
    subst e4
    exact ⟨a, xs, by rw [h1], hs, q _ H2 e2 rfl⟩
end
section
variable {X : Cx}
theorem cr_anyK (K : PySem.W.Frag) (hc : X.calm = true) (h : X.K = K := by rfl) : CallR X (.builtin "any") (rAny K) := by subst h; exact cr_any hc
theorem cr_allK (K : PySem.W.Frag) (hc : X.calm = true) (h : X.K = K := by rfl) : CallR X (.builtin "all") (rAll K) := by subst h; exact cr_all hc
end
end Dg

set_option maxRecDepth 100000
set_option maxHeartbeats 4000000
namespace Dg
open PySem PySem.Spec PyProof.Rows L2 Evl
open SX (S)
section
/-! ### t[a:b:c] of a tuple -/
open HT in
/-- the places that a slice with a step names -/
def stepA (n : Nat) (lo hi : Option Int) (c : Int) : Int × Nat := ((Builtin.Slice.sliceAdjust lo hi c (n : Int)).1, Builtin.Slice.slicePlaces (Builtin.Slice.sliceAdjust lo hi c (n : Int)).1 (Builtin.Slice.sliceAdjust lo hi c (n : Int)).2 c)
def stepL {α : Type} (xs : List α) (lo hi : Option Int) (c : Int) : List α := (List.range (stepA xs.length lo hi c).2).filterMap fun (m : Nat) => xs[((stepA xs.length lo hi c).1 + (m : Int) * c).toNat]?
section
variable {prog : Program} {w : World} {A : Around} {E : Value → Shared → Prop} {s : Shared}
theorem sliceApplied_step {sl : Addr} {vl vu vs : Value} {lo hi : Option Int} {c : Int} {n : Nat} {Q : Int × Int × Nat → Shared → Prop} (hs : s.heap.IsSliceOf sl vl vu vs) (pl : IsPart vl lo) (pu : IsPart vu hi) (ps : IsPart vs (some c)) (h0 : c ≠ 0)
    (h : Q ((stepA n lo hi c).1, c, (stepA n lo hi c).2) s) : wpAny (model prog w) A (Builtin.Slice.sliceApplied (.ref sl) (pure (n : Int))) Q E s := by
  obtain ⟨os, hos, hcs, hds⟩ := id hs
  unfold Builtin.Slice.sliceApplied Builtin.Slice.sliceFields
  refine wpAny_bind (wpAny_bind (wpAny_field hos hds (x := vl) rfl (wpAny_bind (wpAny_field hos hds (x := vu) rfl (wpAny_bind (wpAny_field hos hds (x := vs) rfl (wpAny_pure ?_)))))))
  refine wpAny_bind (HT.slicePart_ ps ?_)
  show wpAny _ _ (if (c == 0) = true then _ else _) _ _ s
  rw [if_neg (by simpa using h0)]
  refine wpAny_bind (HT.slicePart_ pl (wpAny_bind (HT.slicePart_ pu (wpAny_bind (wpAny_pure ?_)))))
  exact wpAny_pure h
theorem getItem_tuple_step {t sl : Addr} {items : Array Value} {vl vu vs : Value} {lo hi : Option Int} {c : Int} {Q : Value → Shared → Prop} (ht : IsTup s.heap t items) (hs : s.heap.IsSliceOf sl vl vu vs) (pl : IsPart vl lo) (pu : IsPart vu hi) (ps : IsPart vs (some c)) (h0 : c ≠ 0) (h1 : c ≠ 1)
    (h : Q (.ref s.heap.objs.size) { s with heap := s.heap.push { cls := .type "tuple", data := .seq (stepL items.toList lo hi c).toArray } })
    (hsz : (stepL items.toList lo hi c).length ≤ sizeLine) : wpAny (model prog w) A (getItem (.ref t) (.ref sl)) Q E s := by
  have htake : sizeOk (.seq (stepL items.toList lo hi c).toArray) := by
    show (stepL items.toList lo hi c).toArray.size ≤ sizeLine
    rw [List.size_toArray]; exact hsz
  obtain ⟨os, hos, hcs, hds⟩ := id hs
  have hTs : s.TypeIs (.ref sl) "slice" := ⟨os, hos, hcs⟩
  unfold getItem
  try with_reducible refine wpAny_holding ?_
  first | refine wpAny_bind (wpAny_pure ?_) | skip
  refine wpAny_bind (wpAny_sequenceKey ht.typeIs (by decide) ?_)
  refine wpAny_bind (wpAny_callSpecial?_slot (name := Str.ofString "__getitem__") ht.typeIs PyProof.Rows.slot_tuple_getitem
    (wpAny_call_entry PyProof.Rows.slot_tuple_getitem ht.typeIs entry_tuple_getitem ?_ (args_tuple_getitem _ _)))
  show wpAny _ _ (Builtin.Tuple.tupleItemsOf (.ref t) >>= _) _ _ s
  refine wpAny_bind (tupleItemsOf_ ht ?_)
  refine wpAny_bind (wpAny_typeOf hTs ?_)
  rw [if_pos (by decide)]
  refine wpAny_bind (sliceApplied_step hs pl pu ps h0 ?_)
  have hno : ¬ (((stepA items.size lo hi c).1 == 0 && c == 1 && (stepA items.size lo hi c).2 == items.size) = true) := by
    intro q
    rw [Bool.and_eq_true, Bool.and_eq_true] at q
    exact h1 (eq_of_beq q.1.2)
  show wpAny _ _ (if ((stepA items.size lo hi c).1 == 0 && c == 1 && (stepA items.size lo hi c).2 == items.size) = true then _ else _) _ _ s
  rw [if_neg hno]
  have e : ((List.range (stepA items.size lo hi c).2).filterMap fun (m : Nat) => items[((stepA items.size lo hi c).1 + (m : Int) * c).toNat]?).toArray = (stepL items.toList lo hi c).toArray := by
    unfold stepL
    rw [Array.length_toList]
    congr 1
    simp only [Array.getElem?_toList]
  rw [e]
  first
    | exact wpAny_bind (m := Builtin.Tuple.tupleExact _) (wpAny_newObj_type (wpAny_pure ⟨_, rfl, wpAny_pure h⟩) htake)
    | exact wpAny_bind (m := Builtin.Tuple.tupleExact _) (wpAny_newObj_type (wpAny_bind (wpAny_pure (wpAny_pure ⟨_, rfl, wpAny_pure h⟩))) htake)
    | exact wpAny_bind (wpAny_bind (m := Builtin.Tuple.tupleExact _) (wpAny_newObj_type (wpAny_pure (wpAny_pure ⟨_, rfl, wpAny_pure h⟩)) htake))
    | exact wpAny_bind (wpAny_bind (m := Builtin.Tuple.tupleExact _) (wpAny_newObj_type (wpAny_pure ⟨_, rfl, wpAny_pure h⟩) htake))
end
theorem stepL_len {α : Type} (xs : List α) (lo hi : Option Int) (c : Int) : (stepL xs lo hi c).length ≤ (stepA xs.length lo hi c).2 := by
  unfold stepL
  exact Nat.le_trans (List.length_filterMap_le _ _) (by rw [List.length_range]; exact Nat.le_refl _)
theorem stepL_paired {α β : Type} {F : α → β → Prop} {l : List α} {m : List β} (h : Paired F l m) (lo hi : Option Int) (c : Int) : Paired F (stepL l lo hi c) (stepL m lo hi c) := by
  unfold stepL
  rw [← paired_len h]
  generalize (stepA l.length lo hi c).1 = a
  generalize (stepA l.length lo hi c).2 = k
  generalize List.range k = ks
  induction ks with
  | nil => exact .nil
  | cons k ks ih =>
    rw [List.filterMap_cons, List.filterMap_cons]
    cases e : l[(a + (k : Int) * c).toNat]? with
    | none =>
      have : m[(a + (k : Int) * c).toNat]? = none := by
        cases e2 : m[(a + (k : Int) * c).toNat]? with
        | none => rfl
        | some y => obtain ⟨x, h1, _⟩ := paired_get' h e2; rw [e] at h1; cases h1
      rw [this]
      exact ih
    | some x =>
      obtain ⟨y, h1, h2⟩ := paired_get h e
      rw [h1]
      exact .cons h2 ih
def rSl3 (K : PySem.W.Frag) (x : V) (lo hi : Option Int) (c : Int) (H : Hp) (Q : VK) : Prop := ∃ a xs, x = .ref a ∧ SqT K H a xs ∧ c ≠ 0 ∧ c ≠ 1 ∧ (stepL xs lo hi c).length ≤ sizeLine ∧ ∀ p, H p = none → Q (.ref p) (upd H p (.tup (stepL xs lo hi c)))
def tSl3 (K : PySem.W.Frag) (te : TE) (tl th : TO) (ts : TE) : TE := fun σ H Q => te σ H fun x H1 => tl σ H1 fun l H2 => th σ H2 fun u H3 => ts σ H3 fun y H4 => ∃ c, y = .int c ∧ rSl3 K x l u c H4 Q
theorem pe_sl3 {X : Cx} {e f : Expr} {lo hi : Option Expr} {te ts : TE} {tl th : TO} {p3 pos : Pos} (K : PySem.W.Frag) (he : PE X e te) (hl : PO X lo tl) (hh : PO X hi th) (hs : PE X f ts) (hK : X.K = K := by rfl) : PE X (.Subscript e (.Slice lo hi (some f) p3) pos) (tSl3 K te tl th ts) := by
  subst hK
  refine ⟨fun pins s σ H Q I h => ?_⟩
  refine Subscript_ (thn (he.run pins s σ H _ I h) fun v s1 ⟨x, H1, I1, r1, q1⟩ => ?_)
  refine wpAny_Slice (thn (hl.run pins s1 σ H1 _ I1 q1) fun vl s2 ⟨l, H2, I2, pl, q2⟩ => ?_)
  refine thn (hh.run pins s2 σ H2 _ I2 q2) fun vu s3 ⟨u, H3, I3, pu, q3⟩ => ?_
  refine thn ((po_some hs).run pins s3 σ H3 (fun o H4 => ∃ c, o = some c ∧ rSl3 X.K x l u c H4 Q) I3 (by
    show ts σ H3 _
    refine (?_ : ts σ H3 _)
    have e : (fun y H4 => ∃ c, y = V.int c ∧ rSl3 X.K x l u c H4 Q) = fun y H4 => ∃ i, y = V.int i ∧ ∃ c, some i = some c ∧ rSl3 X.K x l u c H4 Q := by
      funext y H4
      exact propext ⟨fun ⟨c, h1, h2⟩ => ⟨c, h1, c, rfl, h2⟩, fun ⟨i, h1, c, h2, h3⟩ => ⟨c, by cases h2; exact h1, h3⟩⟩
    exact e ▸ q3)) fun vs s4 ⟨o, H4, I4, ps, q4⟩ => ?_
  obtain ⟨c, rfl, a, xs, rfl, hx, h0, h1, hz, q⟩ := q4
  cases r1
  have I5 : Inv X pins σ H4 { s4 with heap := s4.heap.push { cls := .type "slice", data := .fields #[vl, vu, vs] } } := I4.kept (t' := s4.toks) fun b ob q => Heap.get?_push_of_some _ q
  obtain ⟨its, r, ht, hz2⟩ := I5.tuple hx
  show wpAny (model X.prog X.w) X.A (subscriptTail e (.Slice lo hi (some f) p3) (.ref a) (.ref s4.heap.objs.size)) (EP X pins σ Q) X.xe { s4 with heap := s4.heap.push { cls := .type "slice", data := .fields #[vl, vu, vs] } }
  refine tail_any (ops := [.ref a, .ref s4.heap.objs.size]) ht.typeIs (PyProof.Rows.slot_tuple_getitem.lookup) ?_ (by with_unfolding_all rfl)
  have rr := stepL_paired r l u c
  have e2 : its.toArray.toList = its := rfl
  refine getItem_tuple_step ht (Heap.IsSliceOf.new _ vl vu vs) pl pu ps h0 h1 ?_ (by rw [e2, ← paired_len rr]; exact hz)
  rw [e2]
  refine ⟨.ref _, _, I5.laid (t' := s4.toks) (o := .tup (stepL xs l u c)) (fun b ob q => Heap.get?_push_of_some _ q) (Nat.le_refl _) ?_, rfl, q _ (I5.hok.fresh (Nat.le_refl _))⟩
  exact ⟨hz, _, rr, IsTup.new _ _⟩
theorem er_sl3 {α : Type} {K : PySem.W.Frag} {R : Rp α} [Me R] {σ : L2.St} {H : Hp} {te ts : TE} {tl th : TO} {xs : List α} {lo hi : Option Int} {c : Int} (h : Er (rT K R) te σ H xs) (h1 : Eo tl σ H lo) (h2 : Eo th σ H hi) (h3 : Er rI ts σ H c) (n0 : c ≠ 0) (n1 : c ≠ 1) (hz : (stepL xs lo hi c).length ≤ sizeLine) : Er (rT K R) (tSl3 K te tl th ts) σ H (stepL xs lo hi c) := fun H1 e Q q =>
  h H1 e _ fun v H2 e2 r => h1 H2 (e.trans e2) _ fun H3 e3 => h2 H3 ((e.trans e2).trans e3) _ fun H4 e4 => h3 H4 (((e.trans e2).trans e3).trans e4) _ fun y H5 e5 ry => by
    cases ry
    obtain ⟨a, vs, rfl, hs, hp⟩ := r
    have hs5 := ex_t e5 (ex_t e4 (ex_t e3 hs))
    have hp5 : Paired (R H5) xs vs := pm hp fun _ _ z => Me.ex ((e3.trans e4).trans e5) z
    have rr := stepL_paired hp5 lo hi c
    refine ⟨c, rfl, a, vs, rfl, hs5, n0, n1, by rw [← paired_len rr]; exact hz, fun p np => ?_⟩
    refine q _ _ (((e2.trans e3).trans (e4.trans e5)).trans (Ex.new np)) ⟨p, _, rfl, SqT.of upd_same, pm rr fun _ _ z => Me.ex (Ex.new np) z⟩
theorem stepA_rev (n : Nat) : stepA n none none (-1) = ((n : Int) - 1, n) := by
  unfold stepA Builtin.Slice.sliceAdjust Builtin.Slice.slicePlaces
  simp only [show (-1 : Int) < 0 by decide, if_true, show ¬ ((-1 : Int) > 0) by decide, if_false]
  congr 1
  rw [show -(-1 : Int) = 1 from rfl, Int.ediv_one]
  split <;> omega
theorem stepL_rev {α : Type} (xs : List α) : stepL xs none none (-1) = xs.reverse := by
  unfold stepL
  rw [stepA_rev]
  refine List.ext_getElem? fun i => ?_
  have e : ((List.range xs.length).filterMap fun (m : Nat) => xs[((xs.length : Int) - 1 + (m : Int) * -1).toNat]?) = (List.range xs.length).filterMap fun m => xs.reverse[m]? := by
    have : ∀ (l : List Nat), (∀ m ∈ l, m < xs.length) → (l.filterMap fun (m : Nat) => xs[((xs.length : Int) - 1 + (m : Int) * -1).toNat]?) = l.filterMap fun m => xs.reverse[m]? := by
      intro l
      induction l with
      | nil => intro _; rfl
      | cons m l ih =>
        intro h
        have hm := h m (List.mem_cons_self ..)
        rw [List.filterMap_cons, List.filterMap_cons, ih fun k hk => h k (List.mem_cons_of_mem _ hk), List.getElem?_reverse hm, show ((xs.length : Int) - 1 + (m : Int) * -1).toNat = xs.length - 1 - m by omega]
    exact this _ fun m hm => List.mem_range.mp hm
  show ((List.range xs.length).filterMap fun (m : Nat) => xs[((xs.length : Int) - 1 + (m : Int) * -1).toNat]?)[i]? = _
  rw [e]
  have : ∀ (ys : List α), (List.range ys.length).filterMap (fun m => ys[m]?) = ys := by
    intro ys
    induction ys with
    | nil => rfl
    | cons y ys ih =>
      rw [List.length_cons, List.range_succ_eq_map, List.filterMap_cons]
      show y :: _ = _
      rw [List.filterMap_map]
      show y :: (List.range ys.length).filterMap (fun m => ys[m]?) = _
      rw [ih]
  have e3 := this xs.reverse
  rw [List.length_reverse] at e3
  rw [e3]
theorem er_revT {α : Type} {K : PySem.W.Frag} {R : Rp α} [Me R] {σ : L2.St} {H : Hp} {te : TE} {xs : List α} (h : Er (rT K R) te σ H xs) (hz : xs.length ≤ sizeLine) : Er (rT K R) (tSl3 K te tNoPart tNoPart (tUn (rU fun i => .int (-i)) (tC (.int 1)))) σ H xs.reverse := by
  have := er_sl3 (c := -1) h eo0 eo0 (er_neg er_int) (by decide) (by decide) (by rw [stepL_rev, List.length_reverse]; exact hz)
  rw [stepL_rev] at this
  exact this
/-- every c-th from a on -/
def everyL {α : Type} (xs : List α) (a c : Int) : List α := stepL xs (some a) none c
theorem er_every {α : Type} {K : PySem.W.Frag} {R : Rp α} [Me R] {σ : L2.St} {H : Hp} {te ta ts : TE} {xs : List α} {a c : Int} (h : Er (rT K R) te σ H xs) (h1 : Er rI ta σ H a) (h3 : Er rI ts σ H c) (n1 : 2 ≤ c) (n0 : 0 ≤ a) (hz : xs.length ≤ sizeLine) : Er (rT K R) (tSl3 K te (tPart ta) tNoPart ts) σ H (everyL xs a c) := by
  refine er_sl3 h (eo1 h1) eo0 h3 (by omega) (by omega) (Nat.le_trans (stepL_len _ _ _ _) ?_)
  refine Nat.le_trans ?_ hz
  unfold stepA Builtin.Slice.sliceAdjust Builtin.Slice.slicePlaces
  simp only [show ¬ (c < 0) by omega, show c > 0 by omega, if_true, if_false, show ¬ (a < 0) by omega]
  split
  · have : ((xs.length : Int) - min a (xs.length : Int) - 1) / c ≤ (xs.length : Int) - min a (xs.length : Int) - 1 := Int.ediv_le_self _ (by omega)
    omega
  · omega
/-! ### xs[::-1] of a list -/
theorem pe_revLK {X : Cx} {e : Expr} {te : TE} {k : Nat} {p1 p2 p3 pos : Pos} (K : PySem.W.Frag) (he : PE X e te) (h : X.K = K := by rfl) : PE X (.Subscript e (.Slice none none (some (.UnaryOp .USub (.Constant (.int 1) k p1) p2)) p3) pos) (tRevL K te) := by subst h; exact pe_revL he
theorem el_revL {α : Type} {K : PySem.W.Frag} {R : Rp α} [Me R] {σ : L2.St} {H : Hp} {te : TE} {xs : List α} (h : Er (rL K R) te σ H xs) : El R (tRevL K te) σ H xs.reverse := fun H1 e Q q =>
  h H1 e _ fun v H2 e2 r => by
    obtain ⟨a, vs, rfl, hs, hp⟩ := r
    exact ⟨a, vs, rfl, hs, fun p np => q p _ (fresh_back e2 np) (e2.trans (Ex.new np)) ⟨_, upd_same, paired_reverse (pm hp fun _ _ z => Me.ex (Ex.new np) z)⟩⟩
end
section
/-! ### lists of own lists -/
variable {α : Type} {K : PySem.W.Frag} {R : Rp α}
def MtA (R : Rp α) (H : Hp) (p : Addr) (as : List Addr) (xss : List (List α)) : Prop := H p = some (.lst (as.map V.ref)) ∧ as.Nodup ∧ p ∉ as ∧ Paired (fun xs a => Lt R H a xs) xss as
theorem MtA.ex {H H' : Hp} {p : Addr} {as : List Addr} {xss : List (List α)} [Me R] (h : MtA R H p as xss) (e : Ex H H') : MtA R H' p as xss := ⟨e _ _ h.1, h.2.1, h.2.2.1, pm h.2.2.2 fun _ _ z => z.ex e⟩
theorem paired_pmem {α β : Type} {F G : α → β → Prop} : ∀ {l : List α} {m : List β}, Paired F l m → (∀ a b, b ∈ m → F a b → G a b) → Paired G l m
  | _, _, .nil, _ => .nil
  | _, _, .cons r t, f => .cons (f _ _ (List.mem_cons_self ..) r) (paired_pmem t fun a b hb => f a b (List.mem_cons_of_mem _ hb))
theorem MtA.keep {H H' : Hp} {p q : Addr} {as : List Addr} {xss : List (List α)} [Mkt K R] (h : MtA R H p as xss) (k : Kt K H H') (c : C1 q H H') (n1 : p ≠ q) (n2 : q ∉ as) : MtA R H' p as xss :=
  ⟨c _ _ n1 h.1, h.2.1, h.2.2.1, paired_pmem h.2.2.2 fun xs a ha z => z.keep k c (fun e => n2 (e ▸ ha))⟩
theorem MtA.ne {H : Hp} {p q : Addr} {as : List Addr} {xss : List (List α)} (h : MtA R H p as xss) (hq : H q = none) : p ≠ q := ne_of_none h.1 hq
theorem MtA.nin {H : Hp} {p q : Addr} {as : List Addr} {xss : List (List α)} (h : MtA R H p as xss) (hq : H q = none) : q ∉ as := fun hm => by
  obtain ⟨i, hi⟩ := List.getElem?_of_mem hm
  obtain ⟨xs, _, vs, h1, _⟩ := paired_get' h.2.2.2 hi
  rw [hq] at h1
  cases h1
theorem MtA.lt {H : Hp} {p : Addr} {as : List Addr} {xss : List (List α)} (h : MtA R H p as xss) : Lt (rL K R) H p xss := by
  refine ⟨as.map V.ref, h.1, ?_⟩
  have h4 := h.2.2.2
  clear h
  induction h4 with
  | nil => exact .nil
  | cons r _ ih => exact .cons r.rl ih
theorem MtA.row {H : Hp} {p : Addr} {as : List Addr} {xss : List (List α)} {i : Nat} {xs : List α} (h : MtA R H p as xss) (hx : xss[i]? = some xs) : ∃ a, as[i]? = some a ∧ a ∈ as ∧ Lt R H a xs := by
  obtain ⟨a, h1, h2⟩ := paired_get h.2.2.2 hx
  exact ⟨a, h1, List.mem_of_getElem? h1, h2⟩
theorem paired_upd {α β : Type} {F G : α → β → Prop} {x : α} : ∀ {l : List α} {m : List β} {i : Nat} {b : β}, m.Nodup → m[i]? = some b → Paired F l m → (∀ a c, c ≠ b → F a c → G a c) → G x b → Paired G (l.set i x) m
  | _, _, i, _, _, hi, .nil, _, _ => by simp at hi
  | _, _, 0, _, nd, hi, .cons r t, f, g => by
    simp only [List.getElem?_cons_zero, Option.some.injEq] at hi
    subst hi
    exact .cons g (paired_pmem t fun a c hc => f a c fun e => (List.nodup_cons.mp nd).1 (e ▸ hc))
  | _, _, i + 1, _, nd, hi, .cons r t, f, g => by
    simp only [List.getElem?_cons_succ] at hi
    refine .cons (f _ _ (fun e => (List.nodup_cons.mp nd).1 (e ▸ List.mem_of_getElem? hi)) r) (paired_upd (List.nodup_cons.mp nd).2 hi t f g)
theorem MtA.set {H H' : Hp} {p a : Addr} {as : List Addr} {xss : List (List α)} {i : Nat} {ys : List α} [Mkt K R] (h : MtA R H p as xss) (ha : as[i]? = some a) (k : Kt K H H') (c : C1 a H H') (l : Lt R H' a ys) : MtA R H' p as (xss.set i ys) :=
  ⟨c _ _ (fun e => h.2.2.1 (e ▸ List.mem_of_getElem? ha)) h.1, h.2.1, h.2.2.1, paired_upd h.2.1 ha h.2.2.2 (fun xs b n z => z.keep k c n) l⟩
/-- a new list of new lists -/
def Em (R : Rp α) (t : TE) (σ : L2.St) (H : Hp) (xss : List (List α)) : Prop := ∀ H1, Ex H H1 → ∀ Q : VK, (∀ p as H2, H1 p = none → (∀ a ∈ as, H1 a = none) → Ex H1 H2 → MtA R H2 p as xss → Q (.ref p) H2) → t σ H1 Q
section
variable {H : Hp} {σ : L2.St} {ta tb te tc : TE} {vs : List Nat} {j : Nat} {b : Addr} {Q : VK} {D : Ends} {tz : TS}
theorem nodup_snoc {as : List Addr} {a : Addr} (h : as.Nodup) (n : a ∉ as) : (as ++ [a]).Nodup := by
  rw [List.nodup_append]
  exact ⟨h, by simp, fun x hx y hy e => n (by rw [List.mem_singleton] at hy; exact hy ▸ e ▸ hx)⟩
theorem em_lcR1 [Me R] [Mkt K R] {hi : Int} {f : Int → List α} (h : Er rI ta σ H hi) (hb : -(2 ^ 62) ≤ hi ∧ hi < 1000000) (hw : ∀ x, wipe ((wipe σ vs).set j (some x)) vs = wipe σ vs)
    (he : ∀ x H1, Ex H H1 → (0 ≤ x ∧ x < hi) → El R te ((wipe σ vs).set j (some (.int x))) H1 (f x)) : Em R (tLc (iRng1 (tCons ta tNil)) (gName j) tYes te vs) σ H ((rng 0 hi).map f) := fun Ha e1 Q q => by
  refine h Ha e1 _ fun v H2 e2 r => ?_
  cases r
  have hln : (rng 0 hi).length = hi.toNat := by rw [rng_len, Int.sub_zero]
  refine ⟨hi, rfl, hb.1, by omega, fun D hD => ?_⟩
  refine ⟨fun i m H' => m = hi.toNat - i ∧ i ≤ hi.toNat ∧ Ex H2 H' ∧ ∃ as : List Addr, (∀ a ∈ as, H2 a = none) ∧ MtA R H' D as (((rng 0 hi).take i).map f), ⟨hi.toNat, rfl, Nat.zero_le _, Ex.new hD, [], (fun _ h => by cases h), upd_same, .nil, (by simp), .nil⟩, ?_⟩
  rintro i m H1 ⟨rfl, hi1, c1, as, hn, M1⟩
  by_cases hlt : i < hi.toNat
  · refine .inr ⟨hlt, fun H' => Ex H2 H' ∧ ∃ as : List Addr, (∀ a ∈ as, H2 a = none) ∧ MtA R H' D as (((rng 0 hi).take (i + 1)).map f), fun H' h => ⟨hi.toNat - (i + 1), by omega, rfl, hlt, h⟩, ?_⟩
    rintro u H3 ⟨rfl, rfl⟩
    refine ⟨hw _, ?_⟩
    show te _ H3 _
    refine he _ H3 ((e1.trans e2).trans c1) (by omega) H3 (Ex.refl H3) _ fun p H4 n4 e4 l4 => ?_
    have M4 := M1.ex e4
    have hl := paired_len M4.2.2.2
    have hpD : p ≠ D := Ne.symm (ne_of_none M1.1 n4)
    have hpa : p ∉ as := M1.nin n4
    have hx : (rng 0 hi)[i]? = some (0 + (i : Int)) := rng_get (by omega)
    have tk : (rng 0 hi).take (i + 1) = (rng 0 hi).take i ++ [0 + (i : Int)] := by rw [List.take_add_one, hx]; rfl
    have kt1 : Kt K H4 (upd H4 D (.lst (as.map V.ref ++ [.ref p]))) := Kt.c1 M4.1 (C1.up (C1.refl D H4))
    have cc : C1 D H4 (upd H4 D (.lst (as.map V.ref ++ [.ref p]))) := C1.up (C1.refl D H4)
    refine ⟨as.map V.ref, M4.1, sz0 (by rw [List.length_map, ← hl, List.length_map, List.length_take]; omega), fun a o ha => ?_, as ++ [p], fun a ha => ?_, ?_⟩
    · rw [upd_ne (ne_of_none ha hD)]
      exact e4 _ _ (c1 _ _ ha)
    · rcases List.mem_append.mp ha with ha | ha
      · exact hn a ha
      · rw [List.mem_singleton.mp ha]; exact fresh_back c1 n4
    · refine ⟨by rw [List.map_append]; exact upd_same, nodup_snoc M4.2.1 hpa, fun hm => ?_, ?_⟩
      · rcases List.mem_append.mp hm with hm | hm
        · exact M4.2.2.1 hm
        · exact hpD (List.mem_singleton.mp hm).symm
      · rw [tk, List.map_append]
        exact paired_append (paired_pmem M4.2.2.2 fun xs a ha z => z.keep kt1 cc fun e => M4.2.2.1 (e ▸ ha)) (.cons (l4.keep kt1 cc hpD) .nil)
  · have e : i = hi.toNat := by omega
    refine .inl ⟨Nat.le_of_not_lt hlt, ?_⟩
    rw [List.take_of_length_le (by omega)] at M1
    exact q D as H1 (fresh_back e2 hD) (fun a ha => fresh_back e2 (hn a ha)) (e2.trans c1) M1
/-- the body of a comprehension over a range, its items new lists drawn from the bag -/
theorem lcR1M [Me R] [Mkt K R] (Py : List α → Prop) (hB : Bag H b) {hi : Int} (hh : hi < 1000000) (hw : ∀ x, wipe ((wipe σ vs).set j (some x)) vs = wipe σ vs)
    (he : ∀ x H1 (C : VK), C1 b H H1 → Bag H1 b → (0 ≤ x ∧ x < hi) → (∀ p H2 y, H1 p = none → C1 b H1 H2 → Bag H2 b → Lt R H2 p y → Py y → C (.ref p) H2) → te ((wipe σ vs).set j (some (.int x))) H1 C)
    (q : ∀ p as H2 (ys : List (List α)), H p = none → (∀ a ∈ as, H a = none) → C1 b H H2 → Bag H2 b → ys.length = hi.toNat → (∀ y ∈ ys, Py y) → MtA R H2 p as ys → Q (.ref p) H2) :
    LcGo j te vs σ H hi Q := by
  intro D hD
  have hbD : b ≠ D := hB.ne hD
  refine ⟨fun i m H' => m = hi.toNat - i ∧ i ≤ hi.toNat ∧ C1 b H H' ∧ Bag H' b ∧ ∃ (as : List Addr) (ys : List (List α)), (∀ a ∈ as, H a = none) ∧ ys.length = i ∧ (∀ y ∈ ys, Py y) ∧ MtA R H' D as ys,
    ⟨hi.toNat, rfl, Nat.zero_le _, C1.ex (Ex.new hD), hB.ex (Ex.new hD), [], [], (fun _ h => by cases h), rfl, (fun _ h => by cases h), upd_same, .nil, (by simp), .nil⟩, ?_⟩
  rintro i m H1 ⟨rfl, hi1, c1, B1, as, ys, hn, hl, hy, M1⟩
  by_cases hlt : i < hi.toNat
  · refine .inr ⟨hlt, fun H' => C1 b H H' ∧ Bag H' b ∧ ∃ (as : List Addr) (ys : List (List α)), (∀ a ∈ as, H a = none) ∧ ys.length = i + 1 ∧ (∀ y ∈ ys, Py y) ∧ MtA R H' D as ys, fun H' h => ⟨hi.toNat - (i + 1), by omega, rfl, hlt, h⟩, ?_⟩
    rintro u H2 ⟨rfl, rfl⟩
    refine ⟨hw _, ?_⟩
    show te _ H2 _
    refine he _ H2 _ c1 B1 (by omega) fun p H3 y n3 c3 B3 r3 py => ?_
    have hba : b ∉ as := fun hm => by
      have := hn b hm
      obtain ⟨xs, hb⟩ := hB.there
      rw [this] at hb; cases hb
    have M3 := M1.keep (B1.kt (K := K) c3) c3 (Ne.symm hbD) hba
    have hl3 := paired_len M3.2.2.2
    have hpD : p ≠ D := Ne.symm (ne_of_none M1.1 n3)
    have hpa : p ∉ as := M1.nin n3
    have kt1 : Kt K H3 (upd H3 D (.lst (as.map V.ref ++ [.ref p]))) := Kt.c1 M3.1 (C1.up (C1.refl D H3))
    have cc : C1 D H3 (upd H3 D (.lst (as.map V.ref ++ [.ref p]))) := C1.up (C1.refl D H3)
    refine ⟨as.map V.ref, M3.1, sz0 (by rw [List.length_map]; omega), fun a o n h => ?_, B3.keep cc hbD, as ++ [p], ys ++ [y], fun a ha => ?_, by simp [hl], fun z hz => ?_, ?_⟩
    · rw [upd_ne (ne_of_none h hD)]
      exact c3 _ _ n (c1 _ _ n h)
    · rcases List.mem_append.mp ha with ha | ha
      · exact hn a ha
      · rw [List.mem_singleton.mp ha]; exact fb c1 B1 n3
    · rcases List.mem_append.mp hz with hz | hz
      · exact hy z hz
      · rw [List.mem_singleton.mp hz]; exact py
    · refine ⟨by rw [List.map_append]; exact upd_same, nodup_snoc M3.2.1 hpa, fun hm => ?_, ?_⟩
      · rcases List.mem_append.mp hm with hm | hm
        · exact M3.2.2.1 hm
        · exact hpD (List.mem_singleton.mp hm).symm
      · exact paired_append (paired_pmem M3.2.2.2 fun xs a ha z => z.keep kt1 cc fun e => M3.2.2.1 (e ▸ ha)) (.cons (r3.keep kt1 cc hpD) .nil)
  · have e : i = hi.toNat := by omega
    exact .inl ⟨Nat.le_of_not_lt hlt, q D as H1 ys hD hn c1 B1 (hl.trans e) hy M1⟩
theorem go_lcR1M [Me R] [Mkt K R] (Py : List α → Prop) (hB : Bag H b) {hi : Int} (h : Er rI ta σ H hi) (hh : -(2 ^ 62) ≤ hi ∧ hi < 1000000) (hw : ∀ x, wipe ((wipe σ vs).set j (some x)) vs = wipe σ vs)
    (he : ∀ x H1 (C : VK), C1 b H H1 → Bag H1 b → (0 ≤ x ∧ x < hi) → (∀ p H2 y, H1 p = none → C1 b H1 H2 → Bag H2 b → Lt R H2 p y → Py y → C (.ref p) H2) → te ((wipe σ vs).set j (some (.int x))) H1 C)
    (q : ∀ p as H2 (ys : List (List α)), H p = none → (∀ a ∈ as, H a = none) → C1 b H H2 → Bag H2 b → ys.length = hi.toNat → (∀ y ∈ ys, Py y) → MtA R H2 p as ys → Q (.ref p) H2) : tLc (iRng1 (tCons ta tNil)) (gName j) tYes te vs σ H Q := by
  refine h H (Ex.refl H) _ fun v H1 e r => ?_
  cases r
  refine ⟨hi, rfl, hh.1, by omega, lcR1M (K := K) Py (hB.ex e) hh.2 hw (fun x H2 C c => he x H2 C ((C1.ex e).trans c)) fun p as H2 ys n n' c => q p as H2 ys (fresh_back e n) (fun a ha => fresh_back e (n' a ha)) ((C1.ex e).trans c)⟩
/-- xss[i][k] = e -/
theorem s_set2 [Mkt K R] [Me R] {p : Addr} {as : List Addr} {xss : List (List α)} {i k : Int} {x : α} (l : MtA R H p as xss) (hj : σ[j]? = some (some (.ref p))) (h : Er R te σ H x) (hi : Er rI tb σ H i) (hk : Er rI tc σ H k) (h1 : -(xss.length : Int) ≤ i) (h2 : i < xss.length)
    (h3 : -((gt0 [] xss i).length : Int) ≤ k) (h4 : k < (gt0 [] xss i).length)
    (kont : ∀ a H1, a ∈ as → C1 a H H1 → Kt K H H1 → MtA R H1 p as (xss.set (ixs xss.length i) ((gt0 [] xss i).set (ixs (gt0 [] xss i).length k) x)) → D.nx σ H1) : tAsg te (gSub (tOp (rIxL K) (tVar j) tb) tc rSetL) D σ H := by
  refine h H (Ex.refl H) _ fun v H1 ex1 r => ⟨_, hj, ?_⟩
  refine hi H1 ex1 _ fun u H2 ex2 ri => ?_
  cases ri
  have hx := gt0_some (d := ([] : List α)) h1 h2
  obtain ⟨a, ha, ham, la⟩ := (l.ex (ex1.trans ex2)).row hx
  have hll := paired_len l.2.2.2
  refine ⟨p, as.map V.ref, i, .ref a, rfl, rfl, SqL.of (l.ex (ex1.trans ex2)).1, ?_, ?_⟩
  · refine atI_ixs (by rw [List.length_map, ← hll]; exact h1) (by rw [List.length_map, ← hll]; exact h2) ?_
    rw [List.length_map, ← hll, List.getElem?_map, ha]; rfl
  refine hk H2 (ex1.trans ex2) _ fun u H3 ex3 rk => ?_
  cases rk
  have M3 := l.ex ((ex1.trans ex2).trans ex3)
  obtain ⟨vs, e1, e2⟩ := la.ex ex3
  have hl := paired_len e2
  refine ⟨a, vs, k, ixs (gt0 [] xss i).length k, rfl, rfl, e1, by rw [← hl]; exact (ixN_ixs h3 h4).1, ?_⟩
  have kt1 : Kt K H3 (upd H3 a (.lst (vs.set (ixs (gt0 [] xss i).length k) v))) := Kt.c1 e1 (C1.up (C1.refl a H3))
  have cc : C1 a H3 (upd H3 a (.lst (vs.set (ixs (gt0 [] xss i).length k) v))) := C1.up (C1.refl a H3)
  exact kont a _ ham ((C1.ex ((ex1.trans ex2).trans ex3)).trans cc) ((Kt.ex ((ex1.trans ex2).trans ex3)).trans kt1) (M3.set ha kt1 cc ⟨_, upd_same, paired_set _ (pm e2 fun _ _ z => Mkt.kt kt1 z) (Mkt.kt ((Kt.ex (K := K) (ex2.trans ex3)).trans kt1) r)⟩)
theorem q_set2 [Mkt K R] [Me R] {p : Addr} {as : List Addr} {xss : List (List α)} {i k : Int} {x : α} (l : MtA R H p as xss) (hj : σ[j]? = some (some (.ref p))) (h : Er R te σ H x) (hi : Er rI tb σ H i) (hk : Er rI tc σ H k) (h1 : -(xss.length : Int) ≤ i) (h2 : i < xss.length)
    (h3 : -((gt0 [] xss i).length : Int) ≤ k) (h4 : k < (gt0 [] xss i).length)
    (kont : ∀ a H1, a ∈ as → C1 a H H1 → Kt K H H1 → MtA R H1 p as (xss.set (ixs xss.length i) ((gt0 [] xss i).set (ixs (gt0 [] xss i).length k) x)) → tz D σ H1) : tSeq (tAsg te (gSub (tOp (rIxL K) (tVar j) tb) tc rSetL)) tz D σ H :=
  s_set2 (K := K) (D := { D with nx := tz D }) l hj h hi hk h1 h2 h3 h4 kont
/-- xss[i].append(e) -/
theorem s_app2 [Mkt K R] [Me R] {p : Addr} {as : List Addr} {xss : List (List α)} {i : Int} {x : α} (l : MtA R H p as xss) (hj : σ[j]? = some (some (.ref p))) (hi : Er rI tb σ H i) (h : Er R te σ H x) (h1 : -(xss.length : Int) ≤ i) (h2 : i < xss.length)
    (hz : (gt0 [] xss i).length < 1000000)
    (kont : ∀ a H1, a ∈ as → C1 a H H1 → Kt K H H1 → MtA R H1 p as (xss.set (ixs xss.length i) ((gt0 [] xss i) ++ [x])) → D.nx σ H1) : tDrop (tBM K "list" rAppend (tOp (rIxL K) (tVar j) tb) (tCons te tNil)) D σ H := by
  refine ⟨_, hj, ?_⟩
  refine hi H (Ex.refl H) _ fun u H2 ex2 ri => ?_
  cases ri
  have hx := gt0_some (d := ([] : List α)) h1 h2
  obtain ⟨a, ha, ham, la⟩ := (l.ex ex2).row hx
  have hll := paired_len l.2.2.2
  refine ⟨p, as.map V.ref, i, .ref a, rfl, rfl, SqL.of (l.ex ex2).1, ?_, ?_⟩
  · refine atI_ixs (by rw [List.length_map, ← hll]; exact h1) (by rw [List.length_map, ← hll]; exact h2) ?_
    rw [List.length_map, ← hll, List.getElem?_map, ha]; rfl
  obtain ⟨vs0, e01, e02⟩ := id la
  refine ⟨.inl ⟨rfl, vs0, SqL.of e01⟩, ?_⟩
  refine h H2 ex2 _ fun v H3 ex3 r => ?_
  have M3 := l.ex (ex2.trans ex3)
  obtain ⟨vs, e1, e2⟩ := la.ex ex3
  have hl := paired_len e2
  refine ⟨a, vs, v, rfl, rfl, e1, by rw [← hl]; exact sz0 hz, ?_⟩
  have kt1 : Kt K H3 (upd H3 a (.lst (vs ++ [v]))) := Kt.c1 e1 (C1.up (C1.refl a H3))
  have cc : C1 a H3 (upd H3 a (.lst (vs ++ [v]))) := C1.up (C1.refl a H3)
  exact kont a _ ham ((C1.ex (ex2.trans ex3)).trans cc) ((Kt.ex (ex2.trans ex3)).trans kt1) (M3.set ha kt1 cc ⟨_, upd_same, paired_append (pm e2 fun _ _ z => Mkt.kt kt1 z) (.cons (Mkt.kt kt1 r) .nil)⟩)
theorem q_app2 [Mkt K R] [Me R] {p : Addr} {as : List Addr} {xss : List (List α)} {i : Int} {x : α} (l : MtA R H p as xss) (hj : σ[j]? = some (some (.ref p))) (hi : Er rI tb σ H i) (h : Er R te σ H x) (h1 : -(xss.length : Int) ≤ i) (h2 : i < xss.length)
    (hz : (gt0 [] xss i).length < 1000000)
    (kont : ∀ a H1, a ∈ as → C1 a H H1 → Kt K H H1 → MtA R H1 p as (xss.set (ixs xss.length i) ((gt0 [] xss i) ++ [x])) → tz D σ H1) : tSeq (tDrop (tBM K "list" rAppend (tOp (rIxL K) (tVar j) tb) (tCons te tNil))) tz D σ H :=
  s_app2 (K := K) (D := { D with nx := tz D }) l hj hi h h1 h2 hz kont
end
end
section
variable {α : Type} {K : PySem.W.Frag} {R : Rp α} {H H' : Hp} {σ : L2.St} {te : TE} {D : Ends} {tz : TS} {j : Nat}
theorem s_asgM {xss : List (List α)} (h : Em R te σ H xss) (k : ∀ p as H1, H p = none → (∀ a ∈ as, H a = none) → Ex H H1 → MtA R H1 p as xss → D.nx (σ.set j (some (.ref p))) H1) : tAsg te (gName j) D σ H := h H (Ex.refl H) _ k
theorem q_asgM {xss : List (List α)} (h : Em R te σ H xss) (k : ∀ p as H1, H p = none → (∀ a ∈ as, H a = none) → Ex H H1 → MtA R H1 p as xss → tz D (σ.set j (some (.ref p))) H1) : tSeq (tAsg te (gName j)) tz D σ H := h H (Ex.refl H) _ k
theorem Bag.nin {b : Addr} {as : List Addr} (h : Bag H b) (hn : ∀ a ∈ as, H a = none) : b ∉ as := fun hm => by
  obtain ⟨xs, e⟩ := h.there
  rw [hn b hm] at e
  cases e
theorem Lt.nin {p : Addr} {as : List Addr} {xs : List α} (h : Lt R H p xs) (hn : ∀ a ∈ as, H a = none) : p ∉ as := fun hm => by
  obtain ⟨vs, e, _⟩ := h
  rw [hn p hm] at e
  cases e
theorem all_fresh {as : List Addr} (e : Ex H H') (hn : ∀ a ∈ as, H' a = none) : ∀ a ∈ as, H a = none := fun a ha => fresh_back e (hn a ha)
theorem all_fb {b : Addr} {as : List Addr} (c : C1 b H H') (h : Bag H' b) (hn : ∀ a ∈ as, H' a = none) : ∀ a ∈ as, H a = none := fun a ha => fb c h (hn a ha)
theorem ne_in {p a : Addr} {as : List Addr} (h : p ∉ as) (ha : a ∈ as) : p ≠ a := fun e => h (e ▸ ha)
/-- xs.pop() -/
theorem paired_dropLast {α β : Type} {F : α → β → Prop} {l : List α} {m : List β} (h : Paired F l m) : Paired F l.dropLast m.dropLast := by
  rw [List.dropLast_eq_take, List.dropLast_eq_take, paired_len h]
  exact paired_take _ h
theorem s_pop [Mkt K R] {l : Addr} {xs : List α} (hl : Lt R H l xs) (hi : σ[j]? = some (some (.ref l))) (h0 : xs ≠ []) (k : ∀ H1, C1 l H H1 → Lt R H1 l xs.dropLast → D.nx σ H1) : tDrop (tBM0 K "list" rPop (tVar j)) D σ H := by
  obtain ⟨vs, h1, h2⟩ := hl
  have hlen := paired_len h2
  have hp : 0 < xs.length := List.length_pos_iff.mpr h0
  refine ⟨_, hi, .inl ⟨rfl, vs, SqL.of h1⟩, l, vs, vs[vs.length - 1]'(by omega), rfl, rfl, h1, List.getElem?_eq_getElem _, ?_⟩
  have kt1 : Kt K H (upd H l (.lst vs.dropLast)) := Kt.c1 h1 (C1.up (C1.refl l H))
  exact k _ (C1.up (C1.refl l H)) ⟨_, upd_same, pm (paired_dropLast h2) fun _ _ z => Mkt.kt kt1 z⟩
theorem q_pop [Mkt K R] {l : Addr} {xs : List α} (hl : Lt R H l xs) (hi : σ[j]? = some (some (.ref l))) (h0 : xs ≠ []) (k : ∀ H1, C1 l H H1 → Lt R H1 l xs.dropLast → tz D σ H1) : tSeq (tDrop (tBM0 K "list" rPop (tVar j))) tz D σ H := s_pop (D := { D with nx := tz D }) hl hi h0 k
end
open Lean.Grind (CommRing)

/-! ### a ring by its words -/
structure RingD (α : Type) where
  add : α → α → α
  mul : α → α → α
  zero : α
  one : α
  neg : α → α
  add_zero : ∀ a, add a zero = a
  add_comm : ∀ a b, add a b = add b a
  add_assoc : ∀ a b c, add (add a b) c = add a (add b c)
  mul_assoc : ∀ a b c, mul (mul a b) c = mul a (mul b c)
  mul_one : ∀ a, mul a one = a
  mul_comm : ∀ a b, mul a b = mul b a
  dist : ∀ a b c, mul a (add b c) = add (mul a b) (mul a c)
  neg_add : ∀ a, add (neg a) a = zero
namespace RingD
variable {α : Type} (d : RingD α)
def nat : Nat → α
  | 0 => d.zero
  | n + 1 => d.add (nat n) d.one
def int : Int → α
  | .ofNat n => d.nat n
  | .negSucc n => d.neg (d.nat (n + 1))
def pow (a : α) : Nat → α
  | 0 => d.one
  | n + 1 => d.mul (pow a n) a
theorem zero_add (a : α) : d.add d.zero a = a := by rw [d.add_comm, d.add_zero]
theorem one_mul (a : α) : d.mul d.one a = a := by rw [d.mul_comm, d.mul_one]
theorem dist' (a b c : α) : d.mul (d.add a b) c = d.add (d.mul a c) (d.mul b c) := by rw [d.mul_comm, d.dist, d.mul_comm c, d.mul_comm c]
theorem cancel {a b c : α} (h : d.add c a = d.add c b) : a = b := by
  have := congrArg (d.add (d.neg c)) h
  rwa [← d.add_assoc, ← d.add_assoc, d.neg_add, d.zero_add, d.zero_add] at this
theorem mul_zero (a : α) : d.mul a d.zero = d.zero := by
  apply d.cancel (c := d.mul a d.zero)
  rw [← d.dist, d.add_zero, d.add_zero]
theorem zero_mul (a : α) : d.mul d.zero a = d.zero := by rw [d.mul_comm, d.mul_zero]
theorem neg_zero : d.neg d.zero = d.zero := by rw [← d.add_zero (d.neg d.zero), d.neg_add]
theorem neg_neg (a : α) : d.neg (d.neg a) = a := by
  apply d.cancel (c := d.neg a)
  rw [d.add_comm, d.neg_add, d.neg_add]
theorem neg_mul (a b : α) : d.mul (d.neg a) b = d.neg (d.mul a b) := by
  apply d.cancel (c := d.mul a b)
  rw [← d.dist', d.add_comm a, d.neg_add, d.zero_mul, d.add_comm, d.neg_add]
theorem int_neg (i : Int) : d.int (-i) = d.neg (d.int i) := by
  cases i with
  | ofNat n =>
    cases n with
    | zero => exact d.neg_zero.symm
    | succ n => rfl
  | negSucc n => exact (d.neg_neg _).symm
@[reducible] def semi : Lean.Grind.Semiring α where
  add := d.add
  mul := d.mul
  natCast := ⟨d.nat⟩
  ofNat n := ⟨d.nat n⟩
  nsmul := ⟨fun n a => d.mul (d.nat n) a⟩
  npow := ⟨d.pow⟩
  add_zero := d.add_zero
  add_comm := d.add_comm
  add_assoc := d.add_assoc
  mul_assoc := d.mul_assoc
  mul_one a := by show d.mul a (d.add d.zero d.one) = a; rw [d.zero_add, d.mul_one]
  one_mul a := by show d.mul (d.add d.zero d.one) a = a; rw [d.zero_add, d.one_mul]
  left_distrib := d.dist
  right_distrib := d.dist'
  zero_mul := d.zero_mul
  mul_zero := d.mul_zero
  pow_zero a := by show d.one = d.add d.zero d.one; rw [d.zero_add]
  pow_succ _ _ := rfl
  ofNat_succ a := by show d.add (d.nat a) d.one = d.add (d.nat a) (d.add d.zero d.one); rw [d.zero_add]
  ofNat_eq_natCast _ := rfl
  nsmul_eq_natCast_mul _ _ := rfl
@[reducible] def ring : Lean.Grind.Ring α where
  toSemiring := d.semi
  neg := d.neg
  sub a b := d.add a (d.neg b)
  intCast := ⟨d.int⟩
  zsmul := ⟨fun i a => d.mul (d.int i) a⟩
  neg_add_cancel := d.neg_add
  sub_eq_add_neg _ _ := rfl
  neg_zsmul i a := by show d.mul (d.int (-i)) a = d.neg (d.mul (d.int i) a); rw [d.int_neg, d.neg_mul]
  zsmul_natCast_eq_nsmul _ _ := rfl
  intCast_ofNat _ := rfl
  intCast_neg := d.int_neg
@[reducible] def comm : CommRing α where
  toRing := d.ring
  mul_comm := d.mul_comm
end RingD

/-! ### sums -/
section
variable {R : Type} [CommRing R]
def sumTo (f : Nat → R) : Nat → R
  | 0 => 0
  | n + 1 => sumTo f n + f n
theorem sumTo_congr {f g : Nat → R} : ∀ {n : Nat}, (∀ i, i < n → f i = g i) → sumTo f n = sumTo g n
  | 0, _ => rfl
  | n + 1, h => by
    rw [sumTo, sumTo, sumTo_congr fun i hi => h i (by omega), h n (by omega)]
theorem sumTo_zero {f : Nat → R} : ∀ {n : Nat}, (∀ i, i < n → f i = 0) → sumTo f n = 0
  | 0, _ => rfl
  | n + 1, h => by
    rw [sumTo, sumTo_zero fun i hi => h i (by omega), h n (by omega)]
    grind
theorem sumTo_add (f g : Nat → R) : ∀ n : Nat, sumTo (fun i => f i + g i) n = sumTo f n + sumTo g n
  | 0 => by simp only [sumTo]; grind
  | n + 1 => by simp only [sumTo, sumTo_add f g n]; grind
theorem sumTo_mul (c : R) (f : Nat → R) : ∀ n : Nat, sumTo (fun i => c * f i) n = c * sumTo f n
  | 0 => by simp only [sumTo]; grind
  | n + 1 => by simp only [sumTo, sumTo_mul c f n]; grind
theorem sumTo_mulr (c : R) (f : Nat → R) (n : Nat) : sumTo (fun i => f i * c) n = sumTo f n * c := by
  rw [show (fun i => f i * c) = fun i => c * f i from funext fun i => by grind, sumTo_mul]
  grind
theorem sumTo_neg (f : Nat → R) : ∀ n : Nat, sumTo (fun i => -f i) n = -sumTo f n
  | 0 => by simp only [sumTo]; grind
  | n + 1 => by simp only [sumTo, sumTo_neg f n]; grind
theorem sumTo_head (f : Nat → R) : ∀ n : Nat, sumTo f (n + 1) = f 0 + sumTo (fun i => f (i + 1)) n
  | 0 => by simp only [sumTo]; grind
  | n + 1 => by rw [sumTo, sumTo_head f n]; simp only [sumTo]; grind
theorem sumTo_split (f : Nat → R) (m : Nat) : ∀ n : Nat, sumTo f (m + n) = sumTo f m + sumTo (fun i => f (m + i)) n
  | 0 => by simp only [sumTo, Nat.add_zero]; grind
  | n + 1 => by rw [← Nat.add_assoc, sumTo, sumTo_split f m n]; simp only [sumTo]; grind
theorem sumTo_rev (f : Nat → R) : ∀ n : Nat, sumTo (fun i => f (n - 1 - i)) n = sumTo f n
  | 0 => rfl
  | n + 1 => by
    rw [sumTo_head]
    rw [show f (n + 1 - 1 - 0) = f n from rfl, sumTo_congr (g := fun i => f (n - 1 - i)) fun i hi => by congr 1; omega, sumTo_rev f n]
    simp only [sumTo]; grind
/-- one place alone -/
theorem sumTo_one {f : Nat → R} {k : Nat} : ∀ {n : Nat}, k < n → (∀ i, i < n → i ≠ k → f i = 0) → sumTo f n = f k
  | 0, h, _ => by omega
  | n + 1, h, z => by
    rw [sumTo]
    by_cases e : k = n
    · subst e
      rw [sumTo_zero fun i hi => z i (by omega) (by omega)]; grind
    · rw [sumTo_one (n := n) (by omega) fun i hi => z i (by omega), z n (by omega) (by omega)]; grind
/-- noughts behind -/
theorem sumTo_more {f : Nat → R} {m n : Nat} (h : m ≤ n) (z : ∀ i, m ≤ i → i < n → f i = 0) : sumTo f n = sumTo f m := by
  obtain ⟨k, rfl⟩ : ∃ k, n = m + k := ⟨n - m, by omega⟩
  rw [sumTo_split, sumTo_zero (f := fun i => f (m + i)) fun i hi => z _ (by omega) (by omega)]
  grind
/-- two sums, turned about -/
theorem sumTo_swap (f : Nat → Nat → R) (m : Nat) : ∀ n : Nat, sumTo (fun i => sumTo (fun j => f i j) m) n = sumTo (fun j => sumTo (fun i => f i j) n) m
  | 0 => by simp only [sumTo]; rw [sumTo_zero fun _ _ => rfl]
  | n + 1 => by simp only [sumTo]; rw [sumTo_swap f m n, ← sumTo_add]
/-- a triangle of numbers by rows and by columns -/
theorem sumTo_tri (f : Nat → Nat → R) : ∀ n : Nat, sumTo (fun i => sumTo (fun j => f i j) (i + 1)) n = sumTo (fun j => sumTo (fun k => f (j + k) j) (n - j)) n
  | 0 => rfl
  | n + 1 => by
    rw [sumTo, sumTo_tri f n]
    rw [show sumTo (fun j => sumTo (fun k => f (j + k) j) (n + 1 - j)) (n + 1) = sumTo (fun j => sumTo (fun k => f (j + k) j) (n + 1 - j)) n + f n n from ?_]
    · rw [sumTo_congr (n := n) (f := fun j => sumTo (fun k => f (j + k) j) (n + 1 - j)) (g := fun j => sumTo (fun k => f (j + k) j) (n - j) + f n j) ?_, sumTo_add]
      · simp only [sumTo]; grind
      · intro j hj
        rw [show n + 1 - j = (n - j) + 1 from by omega]
        simp only [sumTo]
        rw [show j + (n - j) = n from by omega]
    · rw [sumTo]
      rw [show n + 1 - n = 1 from by omega]
      simp only [sumTo, Nat.add_zero]; grind

/-! ### series -/
end
def Ser (R : Type) := Nat → R
section
variable {R : Type} [CommRing R]
namespace Ser
theorem ext {f g : Ser R} (h : ∀ n, f n = g n) : f = g := funext h
def mulS (f g : Ser R) : Ser R := fun n => sumTo (fun i => f i * g (n - i)) (n + 1)
theorem mul_comm' (f g : Ser R) : mulS f g = mulS g f := by
  funext n
  unfold mulS
  rw [← sumTo_rev]
  exact sumTo_congr fun i hi => by
    rw [show n + 1 - 1 - i = n - i from by omega, show n - (n - i) = i from by omega]
    grind
theorem mul_assoc' (f g h : Ser R) : mulS (mulS f g) h = mulS f (mulS g h) := by
  funext n
  unfold mulS
  rw [sumTo_congr (g := fun i => sumTo (fun j => f j * g (i - j) * h (n - i)) (i + 1)) fun i hi => (sumTo_mulr _ _ _).symm]
  rw [sumTo_tri (fun i j => f j * g (i - j) * h (n - i))]
  exact sumTo_congr fun j hj => by
    rw [← sumTo_mul, show n + 1 - j = n - j + 1 from by omega]
    exact sumTo_congr fun k hk => by
      rw [show j + k - j = k from by omega, show n - j - k = n - (j + k) from by omega]
      grind
def ringD : RingD (Ser R) where
  add f g := fun n => f n + g n
  mul := mulS
  zero := fun _ => 0
  one := fun n => if n = 0 then 1 else 0
  neg f := fun n => -f n
  add_zero f := funext fun n => by grind
  add_comm f g := funext fun n => by grind
  add_assoc f g h := funext fun n => by grind
  mul_assoc := mul_assoc'
  mul_one f := funext fun n => by
    unfold mulS
    rw [sumTo_one (k := n) (by omega) fun i hi ne => by
      show f i * (if n - i = 0 then 1 else 0) = 0
      rw [if_neg (by omega)]; grind]
    show f n * (if n - n = 0 then 1 else 0) = f n
    rw [if_pos (by omega)]; grind
  mul_comm := mul_comm'
  dist f g h := funext fun n => by
    show mulS f (fun n => g n + h n) n = mulS f g n + mulS f h n
    unfold mulS
    rw [← sumTo_add]
    exact sumTo_congr fun i hi => by grind
  neg_add f := funext fun n => by grind
instance : CommRing (Ser R) := ringD.comm
theorem add_at (f g : Ser R) (n : Nat) : (f + g) n = f n + g n := rfl
theorem sub_at (f g : Ser R) (n : Nat) : (f - g) n = f n - g n := (by show f n + -g n = _; grind)
theorem neg_at (f : Ser R) (n : Nat) : (-f) n = -f n := rfl
theorem mul_at (f g : Ser R) (n : Nat) : (f * g) n = sumTo (fun i => f i * g (n - i)) (n + 1) := rfl
theorem zero_at (n : Nat) : (0 : Ser R) n = 0 := rfl
theorem one_at (n : Nat) : (1 : Ser R) n = if n = 0 then 1 else 0 := by
  show (0 : R) + (if n = 0 then 1 else 0) = _
  grind
/-- a number as a series; x -/
def c (a : R) : Ser R := fun n => if n = 0 then a else 0
def X (k : Nat) : Ser R := fun n => if n = k then 1 else 0
theorem c_mul (a : R) (f : Ser R) (n : Nat) : (c a * f) n = a * f n := by
  rw [mul_at, sumTo_one (k := 0) (by omega) fun i hi ne => by rw [c, if_neg ne]; grind]
  rw [c, if_pos rfl, Nat.sub_zero]
theorem X_mul (k : Nat) (f : Ser R) (n : Nat) : ((X k : Ser R) * f) n = if k ≤ n then f (n - k) else 0 := by
  rw [mul_at]
  split
  · rw [sumTo_one (k := k) (by omega) fun i hi ne => by rw [X, if_neg ne]; grind]
    rw [X, if_pos rfl]; grind
  · exact sumTo_zero fun i hi => by rw [X, if_neg (by omega)]; grind
theorem X_add (a b : Nat) : ((X a : Ser R) * X b) = X (a + b) := by
  funext n
  rw [X_mul]
  unfold X
  by_cases h : n = a + b
  · rw [if_pos (by omega), if_pos (by omega), if_pos h]
  · rw [if_neg h]
    split
    · rw [if_neg (by omega)]
    · rfl
theorem X_zero : (X 0 : Ser R) = 1 := by funext n; rw [one_at]; rfl
theorem c_add (a b : R) : (c (a + b) : Ser R) = c a + c b := by funext n; rw [add_at]; unfold c; split <;> grind
theorem c_mulc (a b : R) : (c (a * b) : Ser R) = c a * c b := by funext n; rw [c_mul]; unfold c; split <;> grind
theorem c_one : (c 1 : Ser R) = 1 := by funext n; rw [one_at]; rfl
theorem c_zero : (c 0 : Ser R) = 0 := by funext n; rw [zero_at]; unfold c; split <;> rfl
/-- alike below a place -/
def Eqb (n : Nat) (f g : Ser R) : Prop := ∀ i, i < n → f i = g i
theorem Eqb.refl (n : Nat) (f : Ser R) : Eqb n f f := fun _ _ => rfl
theorem Eqb.symm {n : Nat} {f g : Ser R} (h : Eqb n f g) : Eqb n g f := fun i hi => (h i hi).symm
theorem Eqb.trans {n : Nat} {f g h : Ser R} (a : Eqb n f g) (b : Eqb n g h) : Eqb n f h := fun i hi => (a i hi).trans (b i hi)
theorem Eqb.le {m n : Nat} {f g : Ser R} (h : Eqb n f g) (l : m ≤ n) : Eqb m f g := fun i hi => h i (by omega)
theorem Eqb.add {n : Nat} {f g f' g' : Ser R} (a : Eqb n f f') (b : Eqb n g g') : Eqb n (f + g) (f' + g') := fun i hi => by rw [add_at, add_at, a i hi, b i hi]
theorem Eqb.mul {n : Nat} {f g f' g' : Ser R} (a : Eqb n f f') (b : Eqb n g g') : Eqb n (f * g) (f' * g') := fun i hi => by
  rw [mul_at, mul_at]
  exact sumTo_congr fun j hj => by rw [a j (by omega), b (i - j) (by omega)]
/-- a series that has noughts below n, times one that has such below m -/
theorem mul_low {m n : Nat} {f g : Ser R} (hf : Eqb m f 0) (hg : Eqb n g 0) : Eqb (m + n) (f * g) 0 := fun i hi => by
  rw [mul_at, zero_at]
  exact sumTo_zero fun j hj => by
    by_cases h : j < m
    · rw [hf j h, zero_at]; grind
    · rw [hg (i - j) (by omega), zero_at]; grind
theorem mul0 (f g : Ser R) : (f * g) 0 = f 0 * g 0 := by rw [mul_at]; simp only [sumTo]; grind
end Ser
end

/-! ### numbers by p -/
def zpS (p : Int) : Setoid Int := ⟨fun a b => a % p = b % p, ⟨fun _ => rfl, fun h => h.symm, fun h k => h.trans k⟩⟩
def Zp (p : Int) := Quotient (zpS p)
def zp (p : Int) (a : Int) : Zp p := Quotient.mk (zpS p) a
theorem zp_eq {p a b : Int} : zp p a = zp p b ↔ a % p = b % p := ⟨fun h => Quotient.exact h, fun h => Quotient.sound h⟩
theorem Zp.ind {p : Int} {P : Zp p → Prop} (h : ∀ a, P (zp p a)) : ∀ x, P x := fun x => Quotient.ind h x
instance {p : Int} : DecidableEq (Zp p) := fun x y => Quotient.recOnSubsingleton₂ x y fun a b => decidable_of_iff (a % p = b % p) zp_eq.symm
def Zp.ringD (p : Int) : RingD (Zp p) where
  add := Quotient.lift₂ (fun a b => zp p (a + b)) fun a b c d h1 h2 => zp_eq.mpr (by
    have h1 : a % p = c % p := h1
    have h2 : b % p = d % p := h2
    rw [Int.add_emod, h1, h2, ← Int.add_emod])
  mul := Quotient.lift₂ (fun a b => zp p (a * b)) fun a b c d h1 h2 => zp_eq.mpr (by
    have h1 : a % p = c % p := h1
    have h2 : b % p = d % p := h2
    rw [Int.mul_emod, h1, h2, ← Int.mul_emod])
  zero := zp p 0
  one := zp p 1
  neg := Quotient.lift (fun a => zp p (-a)) fun a b h => zp_eq.mpr (by
    have h : a % p = b % p := h
    have := Int.emod_emod_of_dvd a (Int.dvd_refl p)
    rw [show -a = 0 - a from by omega, show -b = 0 - b from by omega, Int.sub_emod, h, ← Int.sub_emod])
  add_zero := Zp.ind fun a => by show zp p (a + 0) = _; rw [Int.add_zero]
  add_comm := Zp.ind fun a => Zp.ind fun b => by show zp p (a + b) = zp p (b + a); rw [Int.add_comm]
  add_assoc := Zp.ind fun a => Zp.ind fun b => Zp.ind fun c => by show zp p (a + b + c) = zp p (a + (b + c)); rw [Int.add_assoc]
  mul_assoc := Zp.ind fun a => Zp.ind fun b => Zp.ind fun c => by show zp p (a * b * c) = zp p (a * (b * c)); rw [Int.mul_assoc]
  mul_one := Zp.ind fun a => by show zp p (a * 1) = _; rw [Int.mul_one]
  mul_comm := Zp.ind fun a => Zp.ind fun b => by show zp p (a * b) = zp p (b * a); rw [Int.mul_comm]
  dist := Zp.ind fun a => Zp.ind fun b => Zp.ind fun c => by show zp p (a * (b + c)) = zp p (a * b + a * c); rw [Int.mul_add]
  neg_add := Zp.ind fun a => by show zp p (-a + a) = zp p 0; rw [Int.add_left_neg]
instance {p : Int} : CommRing (Zp p) := (Zp.ringD p).comm
section
variable {p : Int}
theorem zp_add (a b : Int) : zp p (a + b) = zp p a + zp p b := rfl
theorem zp_mul (a b : Int) : zp p (a * b) = zp p a * zp p b := rfl
theorem zp_neg (a : Int) : zp p (-a) = -zp p a := rfl
theorem zp_sub (a b : Int) : zp p (a - b) = zp p a - zp p b := rfl
theorem zp_zero : zp p 0 = 0 := rfl
theorem zp_one : zp p 1 = 1 := rfl
theorem zp_mod (a : Int) : zp p (a % p) = zp p a := zp_eq.mpr (Int.emod_emod_of_dvd a (Int.dvd_refl p))
/-- numbers of p -/
def Nm (p a : Int) : Prop := 0 ≤ a ∧ a < p
theorem Nm.mod {a : Int} (hp : 0 < p) : Nm p (a % p) := ⟨Int.emod_nonneg a (by omega), Int.emod_lt_of_pos a hp⟩
theorem Nm.eq {a b : Int} (ha : Nm p a) (hb : Nm p b) (h : zp p a = zp p b) : a = b := by
  have := zp_eq.mp h
  rwa [Int.emod_eq_of_lt ha.1 ha.2, Int.emod_eq_of_lt hb.1 hb.2] at this
theorem Nm.self {a : Int} (ha : Nm p a) : a % p = a := Int.emod_eq_of_lt ha.1 ha.2
end
section
/-! ### lists of numbers as series -/
def ser (p : Int) (xs : List Int) : Ser (Zp p) := fun i => zp p (xs.getD i 0)
def Nms (p : Int) (xs : List Int) : Prop := ∀ x ∈ xs, 0 ≤ x ∧ x < p
def Pol (p : Int) (xs : List Int) : Prop := Nms p xs ∧ ∀ x, xs.getLast? = some x → x ≠ 0
variable {p : Int}
theorem getD_nms {xs : List Int} (hp : 0 < p) (h : Nms p xs) (i : Nat) : Nm p (xs.getD i 0) := by
  rw [List.getD_eq_getElem?_getD]
  cases e : xs[i]? with
  | none => exact ⟨Int.le_refl 0, hp⟩
  | some x => exact h x (List.mem_of_getElem? e)
theorem gt0_getD (xs : List Int) (i : Nat) : gt0 (0 : Int) xs (i : Int) = xs.getD i 0 := by rw [gt0_nat, List.getD_eq_getElem?_getD]
theorem ser_nil : ser p [] = 0 := by funext i; rfl
theorem ser_at (xs : List Int) (i : Nat) : ser p xs i = zp p (xs.getD i 0) := rfl
theorem ser_cons (a : Int) (xs : List Int) : ser p (a :: xs) = Ser.c (zp p a) + Ser.X 1 * ser p xs := by
  funext i
  rw [Ser.add_at, Ser.X_mul]
  cases i with
  | zero => unfold Ser.c; rw [if_pos rfl, if_neg (by omega)]; show zp p a = _; grind
  | succ i => unfold Ser.c; rw [if_neg (by omega), if_pos (by omega)]; show zp p (xs.getD i 0) = 0 + zp p (xs.getD (i + 1 - 1) 0); rw [Nat.add_sub_cancel]; grind
theorem ser_rep0 (n : Nat) : ser p (List.replicate n 0) = 0 := by
  funext i
  show zp p ((List.replicate n (0 : Int)).getD i 0) = 0
  rw [List.getD_eq_getElem?_getD, List.getElem?_replicate]
  split <;> rfl
theorem ser_app0 (xs : List Int) (n : Nat) : ser p (xs ++ List.replicate n 0) = ser p xs := by
  funext i
  rw [ser_at, ser_at, List.getD_eq_getElem?_getD, List.getD_eq_getElem?_getD]
  by_cases h : i < xs.length
  · rw [List.getElem?_append_left h]
  · rw [List.getElem?_append_right (by omega), List.getElem?_eq_none (l := xs) (by omega), List.getElem?_replicate]
    split <;> rfl
theorem ser_take (xs : List Int) (n i : Nat) : ser p (xs.take n) i = if i < n then ser p xs i else 0 := by
  rw [ser_at, ser_at, List.getD_eq_getElem?_getD, List.getD_eq_getElem?_getD]
  split
  · rw [List.getElem?_take_of_lt (by omega)]
  · rw [List.getElem?_eq_none (by rw [List.length_take]; omega)]; rfl
theorem ser_high {xs : List Int} {i : Nat} (h : xs.length ≤ i) : ser p xs i = 0 := by
  rw [ser_at, List.getD_eq_getElem?_getD, List.getElem?_eq_none h]; rfl
theorem ser_app (xs ys : List Int) : ser p (xs ++ ys) = ser p xs + Ser.X xs.length * ser p ys := by
  funext i
  rw [Ser.add_at, Ser.X_mul]
  by_cases h : i < xs.length
  · rw [if_neg (by omega), ser_at, ser_at, List.getD_eq_getElem?_getD, List.getD_eq_getElem?_getD, List.getElem?_append_left h]; grind
  · rw [if_pos (by omega), ser_high (xs := xs) (by omega), ser_at, ser_at, List.getD_eq_getElem?_getD, List.getD_eq_getElem?_getD, List.getElem?_append_right (by omega)]; grind
/-- one number put otherwise -/
theorem getD_set (s : List Int) (k : Nat) (v : Int) (i : Nat) : (s.set k v).getD i 0 = if i = k ∧ k < s.length then v else s.getD i 0 := by
  rw [List.getD_eq_getElem?_getD, List.getD_eq_getElem?_getD, List.getElem?_set]
  by_cases h : k = i
  · subst h
    rw [if_pos rfl]
    split
    · rw [if_pos ⟨rfl, by assumption⟩]; rfl
    · rw [if_neg (by omega), List.getElem?_eq_none (by omega)]
  · rw [if_neg h, if_neg (by omega)]
theorem nms_set {s : List Int} {k : Nat} {v : Int} (h : Nms p s) (hv : Nm p v) : Nms p (s.set k v) := fun x hx => by
  rcases List.mem_or_eq_of_mem_set hx with h1 | h1
  · exact h x h1
  · rw [h1]; exact hv
theorem nms_app {s t : List Int} (h : Nms p s) (h' : Nms p t) : Nms p (s ++ t) := fun x hx => (List.mem_append.mp hx).elim (h x) (h' x)
theorem nms_rep0 (hp : 0 < p) (n : Nat) : Nms p (List.replicate n 0) := fun x hx => by rw [List.eq_of_mem_replicate hx]; exact ⟨Int.le_refl 0, hp⟩
theorem nms_take {s : List Int} (h : Nms p s) (n : Nat) : Nms p (s.take n) := fun x hx => h x (List.mem_of_mem_take hx)
theorem nms_drop {s : List Int} (h : Nms p s) (n : Nat) : Nms p (s.drop n) := fun x hx => h x (List.mem_of_mem_drop hx)

/-! ### noughts at the end left out -/
def trimG {α : Type} [DecidableEq α] (z : α) : List α → List α
  | [] => []
  | a :: t => if trimG z t = [] ∧ a = z then [] else a :: trimG z t
abbrev trimL : List Int → List Int := trimG 0
abbrev trim2 : List (List Int) → List (List Int) := trimG []
theorem trim_ser : ∀ xs : List Int, ser p (trimL xs) = ser p xs
  | [] => rfl
  | a :: t => by
    unfold trimL trimG
    split
    · rename_i h
      have h1 : trimL t = [] := h.1
      rw [ser_cons, ← trim_ser t, h1, h.2, ser_nil]
      funext i
      rw [Ser.add_at]
      rw [zp_zero, Ser.c_zero, show ((Ser.X 1 : Ser (Zp p)) * 0) = 0 from by grind, Ser.zero_at]; grind
    · rw [ser_cons, ser_cons, trim_ser t]
theorem trim_mem {α : Type} [DecidableEq α] {z : α} : ∀ {xs : List α} {x : α}, x ∈ trimG z xs → x ∈ xs
  | a :: t, x, h => by
    unfold trimG at h
    split at h
    · cases h
    · rcases List.mem_cons.mp h with h | h
      · exact h ▸ List.mem_cons_self ..
      · exact List.mem_cons_of_mem _ (trim_mem h)
theorem trim_last {α : Type} [DecidableEq α] {z : α} : ∀ {xs : List α} {x : α}, (trimG z xs).getLast? = some x → x ≠ z
  | a :: t, x, h => by
    unfold trimG at h
    split at h
    · cases h
    · rename_i hn
      cases e : trimG z t with
      | nil =>
        rw [e] at h hn
        have : a = x := by simpa using h
        rw [← this]
        exact fun z => hn ⟨rfl, z⟩
      | cons b r =>
        rw [e, List.getLast?_cons_cons] at h
        rw [← e] at h
        exact trim_last h
theorem trim_len {α : Type} [DecidableEq α] {z : α} : ∀ xs : List α, (trimG z xs).length ≤ xs.length
  | [] => Nat.le_refl 0
  | a :: t => by
    unfold trimG
    split
    · exact Nat.zero_le _
    · have := trim_len (z := z) t
      simp only [List.length_cons]; omega
theorem Pol.trim {xs : List Int} (h : Nms p xs) : Pol p (trimL xs) := ⟨fun x hx => h x (trim_mem hx), fun x hx => trim_last hx⟩
theorem Pol.nil : Pol p [] := ⟨(fun x h => by cases h), (fun x h => by cases h)⟩
theorem Pol.tail {a : Int} {t : List Int} (h : Pol p (a :: t)) : Pol p t := ⟨fun x hx => h.1 x (List.mem_cons_of_mem _ hx), fun x hx => by
  cases t with
  | nil => cases hx
  | cons b r => exact h.2 x (by rw [List.getLast?_cons_cons]; exact hx)⟩
theorem Pol.zero : ∀ {xs : List Int}, Pol p xs → ser p xs = 0 → xs = []
  | [], _, _ => rfl
  | a :: t, h, e => by
    exfalso
    have ha : a = 0 := Nm.eq (h.1 a (List.mem_cons_self ..)) (Nm.mod (p := p) (a := 0) (by have := h.1 a (List.mem_cons_self ..); omega) |> fun z => by simpa using z) (congrFun e 0)
    have ht : ser p t = 0 := funext fun i => congrFun e (i + 1)
    have := Pol.zero h.tail ht
    subst this
    exact h.2 a rfl ha
/-- a polynomial is told by its series -/
theorem Pol.ext : ∀ {xs ys : List Int}, Pol p xs → Pol p ys → ser p xs = ser p ys → xs = ys
  | [], ys, _, hy, e => (Pol.zero hy e.symm).symm
  | a :: t, [], hx, _, e => Pol.zero hx e
  | a :: t, b :: u, hx, hy, e => by
    have h1 : a = b := Nm.eq (hx.1 a (List.mem_cons_self ..)) (hy.1 b (List.mem_cons_self ..)) (congrFun e 0)
    have h2 : t = u := Pol.ext hx.tail hy.tail (funext fun i => congrFun e (i + 1))
    rw [h1, h2]
theorem trim_self {xs : List Int} (h : Pol p xs) : trimL xs = xs := Pol.ext (Pol.trim h.1) h (trim_ser xs)
/-- the last number of a polynomial -/
theorem Pol.len_of {xs : List Int} {n : Nat} (h : Pol p xs) (z : ∀ i, n ≤ i → ser p xs i = 0) : xs.length ≤ n := by
  apply Nat.le_of_not_lt
  intro hl
  have hne : xs ≠ [] := by rintro rfl; simp at hl
  have h1 := z (xs.length - 1) (by omega)
  have h2 : xs.getLast? = some (xs.getD (xs.length - 1) 0) := by
    rw [List.getLast?_eq_getElem?, List.getD_eq_getElem?_getD, List.getElem?_eq_getElem (by omega)]; rfl
  refine h.2 _ h2 ?_
  have hm := h.1 _ (List.mem_of_getLast? h2)
  exact Nm.eq hm ⟨Int.le_refl 0, by omega⟩ h1

/-! ### the folds -/
theorem ixs_nat (n i : Nat) : ixs n (i : Int) = i := by unfold ixs; rw [if_pos (by omega)]; omega
theorem enm_cons {α : Type} (x : α) (t : List α) : enm (x :: t) = (0, x) :: (enm t).map fun q => (q.1 + 1, q.2) := by
  refine List.ext_getElem? fun i => ?_
  cases i with
  | zero => rfl
  | succ i =>
    rw [List.getElem?_cons_succ, List.getElem?_map]
    by_cases h : i < t.length
    · rw [enm_get (xs := x :: t) (i := i + 1) (x := t[i]) (by rw [List.getElem?_cons_succ, List.getElem?_eq_getElem h]), enm_get (List.getElem?_eq_getElem h)]
      simp
    · rw [List.getElem?_eq_none (by rw [enm_len, List.length_cons]; omega), List.getElem?_eq_none (by rw [enm_len]; omega)]; rfl
theorem enm_snoc {α : Type} (t : List α) (x : α) : enm (t ++ [x]) = enm t ++ [((t.length : Int), x)] := by
  unfold enm
  rw [List.zipIdx_append, List.map_append]
  simp
theorem enm_take {α : Type} (xs : List α) (n : Nat) : (enm xs).take n = enm (xs.take n) := by
  refine List.ext_getElem? fun i => ?_
  by_cases h : i < n
  · rw [List.getElem?_take_of_lt h]
    by_cases h2 : i < xs.length
    · rw [enm_get (List.getElem?_eq_getElem h2), enm_get (xs := xs.take n) (x := xs[i]) (by rw [List.getElem?_take_of_lt h, List.getElem?_eq_getElem h2])]
    · rw [List.getElem?_eq_none (by rw [enm_len]; omega), List.getElem?_eq_none (by rw [enm_len, List.length_take]; omega)]
  · rw [List.getElem?_eq_none (by rw [List.length_take]; omega), List.getElem?_eq_none (by rw [enm_len, List.length_take]; omega)]
theorem snoc_ind {α : Type} {P : List α → Prop} (h0 : P []) (h1 : ∀ t a, P t → P (t ++ [a])) (xs : List α) : P xs := by
  have : ∀ n : Nat, ∀ xs : List α, xs.length = n → P xs := by
    intro n
    induction n with
    | zero => intro xs h; rw [List.length_eq_zero_iff.mp h]; exact h0
    | succ n ih =>
      intro xs h
      have hne : xs ≠ [] := by rintro rfl; simp at h
      rw [← List.dropLast_concat_getLast hne]
      exact h1 _ _ (ih _ (by rw [List.length_dropLast]; omega))
  exact this _ xs rfl
/-- some numbers added, from a place on, so often -/
theorem fold_add {st : List Int → Int × Int → List Int} {k : Nat} {c : Int} (hp : 0 < p) (hst : ∀ s x, st s x = s.set (ixs s.length ((k : Int) + x.1)) ((gt0 (0 : Int) s ((k : Int) + x.1) + c * x.2) % p)) (other : List Int) :
    ∀ (s : List Int), Nms p s → k + other.length ≤ s.length → (List.foldl st s (enm other)).length = s.length ∧ Nms p (List.foldl st s (enm other)) ∧ ser p (List.foldl st s (enm other)) = ser p s + Ser.c (zp p c) * (Ser.X k * ser p other) := by
  refine snoc_ind (P := fun other => ∀ (s : List Int), Nms p s → k + other.length ≤ s.length → (List.foldl st s (enm other)).length = s.length ∧ Nms p (List.foldl st s (enm other)) ∧ ser p (List.foldl st s (enm other)) = ser p s + Ser.c (zp p c) * (Ser.X k * ser p other)) ?_ (fun t a ih => ?_) other
  · exact fun s h _ => ⟨rfl, h, by show ser p s = ser p s + _ * (_ * ser p []); rw [ser_nil]; grind⟩
  · intro s h hl
    rw [List.length_append, List.length_singleton] at hl
    obtain ⟨i1, i2, i3⟩ := ih s h (by omega)
    rw [enm_snoc, List.foldl_append, List.foldl_cons, List.foldl_nil]
    generalize List.foldl st s (enm t) = u at i1 i2 i3
    rw [hst, show (k : Int) + (t.length : Int) = ((k + t.length : Nat) : Int) by omega, ixs_nat, gt0_getD]
    refine ⟨by rw [List.length_set, i1], nms_set i2 (Nm.mod hp), ?_⟩
    funext i
    have e3 := congrFun i3 i
    rw [Ser.add_at, Ser.c_mul, Ser.X_mul] at e3 ⊢
    rw [ser_at, getD_set, ser_app, Ser.add_at, Ser.X_mul, i1]
    by_cases hi : i = k + t.length
    · subst hi
      rw [if_pos ⟨rfl, by omega⟩, zp_mod, zp_add, zp_mul]
      rw [ser_at] at e3
      rw [e3, if_pos (by omega), if_pos (by omega), if_pos (by omega), ser_high (xs := t) (by omega)]
      show _ = _ + _ * (_ + zp p ([a].getD (k + t.length - k - t.length) 0))
      rw [show k + t.length - k - t.length = 0 by omega]
      show _ = _ + _ * (_ + zp p a)
      grind
    · rw [if_neg (by omega), ← ser_at, e3]
      split
      · split
        · rw [ser_high (xs := [a]) (by simp; omega)]; grind
        · grind
      · rfl
end
section
/-! ### back_of; noughts left out by a while -/
variable {p : Int}
def bk (p a : Int) : Int := gt0 (0 : Int) (((rng 0 p).filter fun x => decide (a * x % p = 1)).map fun x => x) 0
theorem bk_ok {p a : Int} (hp : Pr p) (ha : 0 < a ∧ a < p) : 0 < (((rng 0 p).filter fun x => decide (a * x % p = 1)).map fun x => x).length ∧ 0 ≤ bk p a ∧ bk p a < p ∧ a * bk p a % p = 1 := by
  rcases hp with rfl | rfl | rfl
  · have : a = 1 := by omega
    subst this; decide
  · have : a = 1 ∨ a = 2 := by omega
    rcases this with rfl | rfl <;> decide
  · have : a = 1 ∨ a = 2 ∨ a = 3 ∨ a = 4 := by omega
    rcases this with rfl | rfl | rfl | rfl <;> decide
theorem bk_zp {p a : Int} (hp : Pr p) (ha : 0 < a ∧ a < p) : zp p a * zp p (bk p a) = 1 := by
  have h := (bk_ok hp ha).2.2.2
  rw [← zp_mul, ← zp_mod, h]; rfl
theorem trim_snoc {α : Type} [DecidableEq α] {z : α} (t : List α) (a : α) : trimG z (t ++ [a]) = if a = z then trimG z t else t ++ [a] := by
  induction t with
  | nil =>
    show (if trimG z [] = [] ∧ a = z then [] else a :: trimG z []) = _
    by_cases h : a = z
    · rw [if_pos ⟨rfl, h⟩, if_pos h]; rfl
    · rw [if_neg (fun z => h z.2), if_neg h]; rfl
  | cons b t ih =>
    show (if trimG z (t ++ [a]) = [] ∧ b = z then [] else b :: trimG z (t ++ [a])) = _
    rw [ih]
    by_cases h : a = z
    · rw [if_pos h, if_pos h]; rfl
    · rw [if_neg h, if_neg h, if_neg (fun z => by simp at z)]; rfl
theorem gt0_pred {α : Type} {d : α} {xs : List α} {s : Int} (h0 : 0 < s) (h1 : s ≤ (xs.length : Int)) : ∃ h : (s - 1).toNat < xs.length, gt0 d xs (s - 1) = xs[(s - 1).toNat] := by
  have hl : (s - 1).toNat < xs.length := by omega
  refine ⟨hl, ?_⟩
  rw [show gt0 d xs (s - 1) = gt0 d xs (((s - 1).toNat : Nat) : Int) by congr 1; omega, gt0_nat, List.getElem?_eq_getElem hl]
  rfl
theorem trim_step {α : Type} [DecidableEq α] {z d : α} {xs : List α} {s : Int} (h : trimG z (xs.take s.toNat) = trimG z xs) (h0 : 0 < s) (h1 : s ≤ (xs.length : Int)) (h2 : gt0 d xs (s - 1) = z) : trimG z (xs.take (s - 1).toNat) = trimG z xs := by
  have e : s.toNat = (s - 1).toNat + 1 := by omega
  obtain ⟨hl, e2⟩ := gt0_pred (d := d) h0 h1
  rw [← h, e, List.take_add_one, List.getElem?_eq_getElem hl, ← e2, h2]
  show _ = trimG z (_ ++ [z])
  rw [trim_snoc, if_pos rfl]
theorem cut_to {α : Type} {xs : List α} {s : Int} (h0 : 0 ≤ s) : cutL xs none (some s) = xs.take s.toNat := by
  rw [show s = ((s.toNat : Nat) : Int) by omega, cutL_hi, Int.toNat_natCast]
theorem cut_from {α : Type} {xs : List α} {s : Int} (h0 : 0 ≤ s) : cutL xs (some s) none = xs.drop s.toNat := by
  rw [show s = ((s.toNat : Nat) : Int) by omega, cutL_lo, Int.toNat_natCast]
theorem trim_end {α : Type} [DecidableEq α] {z d : α} {xs : List α} {s : Int} (h0 : 0 ≤ s) (h : trimG z (xs.take s.toNat) = trimG z xs) (hl : s ≤ (xs.length : Int)) (hb : ¬ s > 0 ∨ ¬ gt0 d xs (s - 1) = z) : cutL xs none (some s) = trimG z xs := by
  rw [cut_to h0, ← h]
  by_cases hs : s > 0
  · have h2 := hb.resolve_left (fun z => z hs)
    have e : s.toNat = (s - 1).toNat + 1 := by omega
    obtain ⟨hl2, e2⟩ := gt0_pred (d := d) hs hl
    rw [e, List.take_add_one, List.getElem?_eq_getElem hl2, ← e2]
    show _ = trimG z (_ ++ [gt0 d xs (s - 1)])
    rw [trim_snoc, if_neg h2]; rfl
  · have : s = 0 := by omega
    subst this
    rfl
/-- the number with no x and no y -/
def cornerL (two : List (List Int)) : Int := gt0 (0 : Int) (gt0 [] two 0) 0
/-- twos of bounded size -/
def Tws (p : Int) (n : Nat) (t : List (List Int)) : Prop := t.length ≤ n ∧ ∀ x ∈ t, Nms p x ∧ x.length ≤ n
end
end Dg

set_option maxRecDepth 100000
set_option maxHeartbeats 4000000
namespace Dg
open PySem PySem.Spec PyProof.Rows L2 Evl
open SX (S)
section
open L2N (Zn)
open L2H HotX
/-! ### defs that are called while an error is handled, the error among their arguments -/
structure FnE (P : Program) (w : World) (K : PySem.W.Frag) (mg : Str → Option Value) (base : Heap) (CX : CXT) (k : Nat) (f : Addr) (fd : FuncData) (ps : List Str) (sp : Addr × Obj → Sp) : Prop where
  len : ∀ q vs H Q E, sp q vs H Q E → vs.length = ps.length
  run : ∀ (A : Around) (outer : List Env) (s : Shared) (H : Hp) (args : Args) (us : List Value) (vs : List V) (Q : VK) (E : XK) (q : Addr × Obj),
    RoomH k A → Hot1 A q → PinOk outer H s q → Env0 P w K mg base A outer s H →
    BindsTo s fd args (ps.zip us) → Vals vs us → sp q vs H Q E → codeAny (model P w) A (.call (.ref f) args) (CR CX outer P w H s Q E) s
section
variable {P : Program} {w : World} {K : PySem.W.Frag} {mg : Str → Option Value} {base : Heap} {CX : CXT} {k : Nat}
/-- such a def by its body -/
theorem fnE_of {x qual : Str} {st : Stmt} {f : Addr} {fd : FuncData} {N ps : List Str} {sp : Addr × Obj → Sp} (F : Fun K x qual st f fd) (S : FnScope N ps (defScope st)) (len : ∀ q vs H Q E, sp q vs H Q E → vs.length = ps.length)
    (body : ∀ (cdv : Value) (A : Around) (outer : List Env) (s : Shared) (H : Hp) (vs : List V) (Q : VK) (E : XK) (q : Addr × Obj), Hot1 A q → RoomH k (A.deeper (envOfC qual (defScope st) s.heap.objs.size f cdv)) → sp q vs H Q E →
      ∃ t, PSs (cxH CX P w K mg base N qual (defScope st) f cdv A outer s H E q) (defBody st) t ∧ t { nx := fun _ H' => Q .non H', rt := Q } (L2.start N vs) H) :
    FnE P w K mg base CX (k + 1) f fd ps sp := by
  obtain ⟨oc, od, kV, doc, pm, an, cdv, ct, osl, rfl, lk, hcd⟩ := F.ex
  refine ⟨len, fun A outer s H args us vs Q E q room hot pin e0 bind rel hq => ?_⟩
  have l0 := len _ _ _ _ _ hq
  have at0 : ∀ b o, base.get? b = some o → s.heap.get? b = some o := fun b o e => (e0.bs b o e).1
  have inK : K.In s.heap := e0.mod.kin.keeps at0
  have kinds : ∀ y ∈ ps.zip us, (defScope st).names.lookup y.1 = some .local ∨ ((defScope st).names.lookup y.1 = some .cell ∧ ((cellsFrom (s.heap.objs.size + 1) (defScope st).names []).lookup y.1).isSome = true) := by
    rintro ⟨n, v⟩ hy
    exact (S.par n (List.of_mem_zip hy).1).imp id fun z => ⟨z, PySem.W.cellsFrom_some _ _ _ (.inl z)⟩
  apply codeAny_call_function room.depth (inK _ _ lk) rfl S.co S.gen rfl (PySem.W.codeRec_of inK hcd)
  apply bind
  apply wpAny_newFunctionEnv_cells S.kind kinds
  rintro env rfl s1 x
  refine ⟨(e0.mod.nolimit.keeps at0).keeps x.toInCall.keep, codeAny_func ?_⟩
  obtain ⟨t, rd, ans⟩ := body cdv A outer s H vs Q E q hot (room.deeper _) hq
  have J0 := inv_startH (CX := CX) (E := E) (cd := cdv) (f := f) (qual := qual) S pin e0 l0 rel x
  refine wpAny_mono (rd.run [] s1 (L2.start N vs) H _ J0 ans) ?_ (fun _ _ z => z)
  rintro (_ | _ | _ | u) s' z
  · obtain ⟨σ', H', J, z⟩ := z
    exact ⟨.non, H', J.os, J.bare, J.base, J.hok, rfl, z⟩
  · obtain ⟨_, _, _, z⟩ := z; exact z.elim
  · obtain ⟨_, _, _, z⟩ := z; exact z.elim
  · obtain ⟨v, σ', H', J, rv, z⟩ := z
    exact ⟨v, H', J.os, J.bare, J.base, J.hok, rv, z⟩
end
/-- f(e, ..) in the suite that holds the error a -/
theorem pe_callE {X : Cx} {CX : CXT} {k : Nat} {f a : Addr} {oe : Obj} {fd : FuncData} {ps : List Str} {sp : Addr × Obj → Sp} {x : Str} {cls : Value} {d : Option Addr} {pn : List (Addr × Obj)} {pos p1 : Pos} {e : Expr} {es : List Expr} {t : TA} (F : FnE X.prog X.w X.K X.mg X.base CX k f fd ps sp) (hr : RoomH k X.A)
    (hz : Zn cls d oe) (hf : ∃ vs, oe.data = .fields vs) (hx : ∀ pins σ H s E e' s', Inv (X.suite a ((a, oe) :: pn)) pins σ H s → CX X.stack H s E e' s' → (∀ c d H, ¬ E c d H) → False) (hg : Gl X x) (hm : X.mg x = some (.ref f)) (hk : PySem.W.keepIn X.K (.ref f) = true) (hb : Binds X.K fd ps [])
    (ha : PA (X.suite a ((a, oe) :: pn)) (e :: es) t) (hdb : (x == ("__debug__" : Str)) = false := by decide) (he : starEach (e :: es) X.env = (false, eval e X.env) :: starEach es X.env := by rfl) (hpl : (backTo pos (starEach es X.env)).any (·.1) = false := by rfl) :
    PE (X.suite a ((a, oe) :: pn)) (.Call (.Name x p1) (e :: es) [] pos) (tCall (sp (a, oe)) [] (fun _ _ _ => False) t) := by
  constructor
  intro pins s σ H Q I h
  apply wpAny_Call_Name_kw
  refine ld_glob I hg hm ?_ hdb
  refine PySem.W.callWith_K (h₀ := X.base) I.ok.mod.kin hk (thn (ha.run pos pins s σ H _ I h) ?_) he hpl
  rintro us s1 ⟨vs, H1, J, rel, q⟩
  refine ⟨J.kIn, ?_⟩
  rw [List.append_nil] at q
  have hot : Hot1 (X.A.mark (some (.ref a))) (a, oe) := ⟨rfl, let ⟨vs, e⟩ := hf; ⟨vs, e, hz.2.2 vs e⟩⟩
  have P1 := J.pin (a, oe) (List.mem_append_left _ List.mem_cons_self)
  have pin : PinOk X.stack H1 s1 (a, oe) := ⟨P1.1, P1.2.1, fun hm => (List.mem_cons.mp (J.stkSub a hm)).elim P1.2.2.1 P1.2.2.2.1, P1.2.2.2.2⟩
  have bnd := hb s1 us J.kIn (by rw [List.append_nil, ← rel.length]; exact F.len _ _ _ _ _ q)
  rw [List.append_nil] at bnd
  refine wpAny_call (codeAny_mono (F.run (X.A.mark (some (.ref a))) X.stack s1 H1 ⟨us, []⟩ us vs Q _ (a, oe) ⟨hr.dp, hr.un⟩ hot pin J.env0 bnd rel q) ?_)
  rintro (e2 | fl) s' hq
  · exact (hx _ _ _ _ _ _ _ J hq fun _ _ _ z => z).elim
  · cases fl with
    | ret u => exact J.after hq
    | next => exact hq.elim
    | brk => exact hq.elim
    | cont => exact hq.elim
section
variable {X : Cx} {D : Addr} {q : Addr × Obj}
theorem inst_pin {pins : List (Addr × Obj)} {σ : L2.St} {H : Hp} {s : Shared} (I : Inv X pins σ H s) (hp : q ∈ X.pn) (hz : Zn (.ref D) none q.2) (hf : ∃ vs, q.2.data = .fields vs) : PySem.W.InstAt s.heap q.1 q.2 D none := by
  have g := (I.pin q (List.mem_append_left _ hp)).1
  obtain ⟨a, ⟨c, dd, da, sl⟩⟩ := q
  obtain ⟨vs, rfl⟩ := hf
  obtain ⟨rfl, rfl, _⟩ := hz
  exact ⟨g, rfl, rfl, trivial⟩
/-- isinstance(e, C), e the error -/
theorem call_isQ (C : ExcC X.K D) (hp : q ∈ X.pn) (hz : Zn (.ref D) none q.2) (hf : ∃ vs, q.2.data = .fields vs) : CallR X (.builtin "isinstance") (rIsE X.K D q.1) := by
  rintro pins s σ H xs us Q I rel ⟨c, cv, b, rfl, hc, hk, an⟩
  obtain ⟨u1, u2, rfl, r1, r2⟩ := vals2 rel
  cases r1
  cases hc _ r2
  exact PySem.W.kia_one (PySem.W.handS_kitx_exc C.hg C.hk C.hs C.hd C.ha C.hn C.ht C.hm) I.kIn (inst_pin I hp hz hf) hk (fun z => nomatch z) fun tk => ⟨.bl b, H, I.tok tk, rfl, an⟩
/-- isinstance(e, (C, ..)) -/
def rIsEt (K : PySem.W.Frag) (D a : Addr) : List V → Hp → VK → Prop := fun xs H Q => ∃ (tp : Addr) (cs : List V) (us : List Value) (b : Bool), xs = [.ref a, .ref tp] ∧ H tp = some (.tup cs) ∧ Paired ClsV cs us ∧ PySem.W.kitAny K (.ref D) us = some b ∧ Q (.bl b) H
theorem call_isQt (C : ExcC X.K D) (hp : q ∈ X.pn) (hz : Zn (.ref D) none q.2) (hf : ∃ vs, q.2.data = .fields vs) : CallR X (.builtin "isinstance") (rIsEt X.K D q.1) := by
  rintro pins s σ H xs us Q I rel ⟨tp, cs, ws, b, rfl, hT, hc, hk, an⟩
  obtain ⟨u1, u2, rfl, r1, r2⟩ := vals2 rel
  cases r1
  cases (show u2 = Value.ref tp from r2)
  obtain ⟨_, its, rv, ⟨oc, od, dt, sl⟩, h1, h2, n, h3⟩ := (show ObjOk X.prog X.w H s.heap tp (.tup cs) from I.hok tp _ hT)
  simp only at h2 h3
  subst h2 h3
  cases ClsV.all hc rv
  exact PySem.W.kia_tup (PySem.W.handS_kitx_exc C.hg C.hk C.hs C.hd C.ha C.hn C.ht C.hm) I.kIn (inst_pin I hp hz hf) h1 hk (fun z => nomatch z) fun tk => ⟨.bl b, H, I.tok tk, rfl, an⟩
end
end
section
open L2N (Zn)
open L2H HotX
/-! ### a new list by a comprehension, while an error is handled -/
/-- the block's context: the error stays known -/
abbrev blkH (X : Cx) (s : Shared) (H : Hp) (sc : Scope) (en : Env) (fp : List Addr) : Cx := { X.blk s H sc en fp with pn := X.pn }
/-- the block begins -/
theorem blkH_start {X : Cx} {pins : List (Addr × Obj)} {σ : L2.St} {H : Hp} {s : Shared} {sc : Scope} {own : List (Str × Nat)} {fp : List Addr} (I : Inv X pins σ H s) (ok : BlkOk X.N X.env.scope sc own) (hN : X.N.Nodup)
    (hfp : ∀ b ∈ fp, FpOk X pins H b ∧ b < s.heap.objs.size) :
    Inv (blkH X s H sc (compEnvC sc (cellsFrom (s.heap.objs.size + 1) sc.names (cloFrom X.env.cells sc.names [])) s.heap.objs.size X.env) fp) [] (wipe σ (own.map (·.2))) H
      { s with heap := pushCells (s.heap.push { cls := .type "dict", data := .dict #[] }) sc.names } := by
  have J := block_start I ok hN hfp
  have O := J.ok
  refine ⟨⟨O.mod, O.kind, O.glob, O.blt, O.above, O.inj, O.has, O.cab, O.hd, O.frames, O.stk, O.exf, O.bs, O.bsz, O.noex, O.exfs, O.funs, O.frf⟩, J.os, J.bare, J.base, J.loc, J.cell, J.free, J.freeC, fun q hq => ?_, J.hok, J.len⟩
  have hq' : q ∈ X.pn := by simpa using hq
  have Z := I.pin q (List.mem_append_left _ hq')
  refine ⟨pushCells_keeps _ _ _ _ (Heap.get?_push_of_some _ Z.1), Z.2.1, Nat.ne_of_lt (Heap.lt_size Z.1), fun hm => ?_, Z.2.2.2.2⟩
  exact (List.mem_cons.mp (I.stkSub q.1 hm)).elim Z.2.2.1 Z.2.2.2.1
theorem pe_lcH {X : Cx} {elt tg iter : Expr} {sc : Scope} {own : List (Str × Nat)} {pos : Pos} {wi : TI} {g : TG} {te : TE} (hc : HotC X) (hN : X.N.Nodup) (hi : PIH X tg iter wi) (ok : BlkOk X.N X.env.scope sc own)
    (hg : ∀ (s : Shared) (H : Hp) (C : Addr) (cl : List (Str × Addr)) (fp : List Addr), PG (blkH X s H sc (compEnvC sc cl C X.env) fp) tg g)
    (he : ∀ (s : Shared) (H : Hp) (C : Addr) (cl : List (Str × Addr)) (fp : List Addr), PE (blkH X s H sc (compEnvC sc cl C X.env) fp) elt te)
    (hs : ∀ x, foldedSetIterable iter X.env x = pure x := by intro _; rfl) : PE X (.ListComp elt [⟨tg, iter, [], 0⟩] sc pos) (tLc wi g tYes te (own.map (·.2))) := by
  constructor
  intro pins s σ H Q I h
  rw [eval_ListComp]
  have clos : ∀ y ∈ sc.names, y.2 = .free → ∃ c, X.env.cells.lookup y.1 = some c := fun y hy e => (ok.free y hy e).elim (fun z => I.ok.has _ (.inl z)) fun z => I.ok.has _ (.inr z)
  refine wpAny_comprehension_free (use := none) rfl hs (closure_ok clos) ok.kind (fun y hy e => by rw [ok.uniq y hy, e]) (thn (hi.run pins s σ H _ I h) fun _ s1 hx => thn hx ?_)
  rintro _ s2 ⟨it, fp, tn, J, H2, rfl, I2, T, st2, f2, q⟩
  refine wpAny_newObj_type (newEnv_comp ?_) (by show 0 ≤ sizeLine; decide)
  generalize eD : s2.heap.objs.size = D
  have freshD : H2 D = none := I2.hok.fresh (Nat.le_of_eq eD)
  obtain ⟨W, ⟨m0, w0⟩, turn⟩ := q D freshD
  generalize e3 : ({ s2 with heap := s2.heap.push { cls := .type "list", data := .seq ([] : List Value).toArray } } : Shared) = s3
  have I3 : Inv X pins σ (upd H2 D (.lst [])) s3 := by
    subst e3
    refine I2.laid (t' := s2.toks) (fun b o e => Heap.get?_push_of_some _ e) (Nat.le_of_eq eD) ⟨Nat.zero_le _, [], 0, .nil, ?_⟩
    subst eD
    exact Heap.get?_push_size _ rfl
  have p3 : s3.heap = s2.heap.push { cls := .type "list", data := .seq ([] : List Value).toArray } := by subst e3; rfl
  have small : ∀ b ∈ fp, b < s2.heap.objs.size := fun b hb => let ⟨_, e, _⟩ := T.obj _ _ st2 b hb; Heap.lt_size e
  have f3 : ∀ b ∈ fp, FpOk X pins (upd H2 D (.lst [])) b ∧ b < s3.heap.objs.size := by
    intro b hb
    have lt := small b hb
    have ne : b ≠ D := by subst eD; exact Nat.ne_of_lt lt
    refine ⟨⟨by rw [upd_ne ne]; exact (f2 b hb).1, (f2 b hb).2⟩, ?_⟩
    rw [p3, Heap.size_push]
    exact Nat.lt_succ_of_lt lt
  have st3 : tn 0 s3.heap := T.keep _ _ _ st2 fun b _ o e => by rw [p3]; exact Heap.get?_push_of_some _ e
  have I4 := blkH_start I3 ok hN f3
  have rg := hg s3 (upd H2 D (.lst [])) s3.heap.objs.size (cellsFrom (s3.heap.objs.size + 1) sc.names (cloFrom X.env.cells sc.names [])) fp
  have re := he s3 (upd H2 D (.lst [])) s3.heap.objs.size (cellsFrom (s3.heap.objs.size + 1) sc.names (cloFrom X.env.cells sc.names [])) fp
  show codeAny _ _ (.compStart (.ListComp elt [⟨tg, iter, [], 0⟩] sc pos) 0 (.ref it) (.ref D) (compEnvC sc (cellsFrom (s3.heap.objs.size + 1) sc.names (cloFrom X.env.cells sc.names [])) s3.heap.objs.size X.env))
    (compPost (model X.prog X.w) X.A X.xe none _ (.ref D) s3.heap.objs.size) { s3 with heap := pushCells (s3.heap.push { cls := .type "dict", data := .dict #[] }) sc.names }
  have none3 : ∀ b ∈ fp, (upd H2 D (.lst [])) b = none := fun b hb => (f3 b hb).1.1
  generalize eE : compEnvC sc (cellsFrom (s3.heap.objs.size + 1) sc.names (cloFrom X.env.cells sc.names [])) s3.heap.objs.size X.env = en at I4 rg re ⊢
  have locE : en.locals = s3.heap.objs.size := by subst eE; rfl
  generalize upd H2 D (.lst []) = H3 at I3 I4 rg re w0 none3 f3
  generalize e4 : ({ s3 with heap := pushCells (s3.heap.push { cls := .type "dict", data := .dict #[] }) sc.names } : Shared) = s4 at I4 ⊢
  have st4 : tn 0 s4.heap := T.keep _ _ _ st3 fun b _ o e => by subst e4; exact pushCells_keeps _ _ _ _ (Heap.get?_push_of_some _ e)
  have hotB : HotC (blkH X s3 H3 sc en fp) := hc
  have foot : ∀ {σ' : L2.St} {H' : Hp} {s' : Shared}, Inv (blkH X s3 H3 sc en fp) [] σ' H' s' → (∀ b ∈ fp, H' b = none) → ∀ b ∈ fp, FpOk (blkH X s3 H3 sc en fp) [] H' b := by
    intro σ' H' s' J' hn b hb
    refine ⟨hn b hb, (J'.ok.exf b hb).1, J'.ok.exfs b hb, .inl hb, fun y c e => (J'.ok.exf b hb).2 y c e, fun u hu eu => ?_⟩
    have hu' : u ∈ X.pn := by simpa using hu
    exact (f2 b hb).2.2.2.2.2 u (List.mem_append_left _ hu') eu
  suffices L : codeAny (model X.prog X.w) X.A (.compLoop (.ListComp elt [⟨tg, iter, [], 0⟩] sc pos) 0 (.ref it) (.ref D) en) (compPost (model X.prog X.w) X.A X.xe none (EP X pins σ Q) (.ref D) s3.heap.objs.size) s4 from codeAny_compStart_list L (T.self X.A 0 _ _ _ st4 L)
  apply compLoop_any (fun n s' => ∃ i H', Inv (blkH X s3 H3 sc en fp) [] (wipe σ (own.map (·.2))) H' s' ∧ tn i s'.heap ∧ (∀ b ∈ fp, H' b = none) ∧ W i n H') ?_ m0 ⟨0, H3, I4, st4, none3, w0⟩
  rintro n s5 ⟨i, H5, I5, st5, n5, w5⟩
  rcases turn i n H5 w5 with ⟨stop, qq⟩ | ⟨go, Nx, hNx, step⟩
  · refine thnF (T.done (blkH X s3 H3 sc en fp) rfl rfl rfl hotB i [] s5 _ H5 (fun _ _ => False) I5 (foot I5 n5) st5 stop) ?_
    rintro _ s6 ⟨rfl, I6⟩
    have I7 : Inv X pins σ H5 s6 := I3.call' (ch := fp) I6.os I6.base I6.hok I6.bare fun b hb => ⟨(f3 b hb).1.2.2.2.1, (f3 b hb).1.2.1, (f3 b hb).1.2.2.2.2.1, (f3 b hb).1.2.2.2.2.2⟩
    have nC : H5 s3.heap.objs.size = none := by rw [← locE]; exact I6.free
    obtain ⟨m, hn, _⟩ := I6.loc
    have hn2 : s6.heap.Ns s3.heap.objs.size m := by rw [← locE]; exact hn
    obtain ⟨z0, z1, z2, z3, z4, z5⟩ := I3.fpOk (Nat.le_refl _) nC
    exact ⟨m, hn2, fun h'' sb => ⟨.ref D, H5, I7.turned (t' := s6.toks) (fun b o hb e => (sb.2 b hb).trans e) z0 z1 z3 z4 z5, rfl, qq⟩⟩
  · refine thnF (T.item (blkH X s3 H3 sc en fp) rfl rfl rfl hotB i [] s5 _ H5 (fun _ _ => False) I5 (foot I5 n5) st5 go) ?_
    rintro _ s6 ⟨u, rfl, h6⟩
    refine thnF h6 ?_
    rintro _ s7 ⟨x, H7, I7, r7, y7, st7, n7⟩
    refine thnF (rg.run _ s7 _ H7 x u _ (I7.pinned (foot I7 n7) (T.obj _ _ st7)) r7 (step x H7 y7)) ?_
    rintro _ s8 ⟨σ8, H8, I8, hw8, q8⟩
    refine thnF ((pts_nil (X := blkH X s3 H3 sc en fp)).run _ s8 σ8 H8 _ I8 q8) ?_
    rintro b s9 ⟨H9, I9, q9⟩
    have back : ∀ {s' : Shared} {H' : Hp}, Inv (blkH X s3 H3 sc en fp) ([] ++ pinsAt fp s7.heap) σ8 H' s' → Nx H' → ∃ m, m < n ∧ ∃ i H', Inv (blkH X s3 H3 sc en fp) [] (wipe σ (own.map (·.2))) H' s' ∧ tn i s'.heap ∧ (∀ b ∈ fp, H' b = none) ∧ W i m H' := by
      intro s' H' J' nx
      obtain ⟨m', hm, w'⟩ := hNx H' nx
      have kept : ∀ b ∈ fp, ∀ o, s7.heap.get? b = some o → s'.heap.get? b = some o ∧ H' b = none := fun b hb o e => by
        have z := J'.pin (b, o) (List.mem_append_right _ (List.mem_append_right _ (mem_pinsAt hb e)))
        exact ⟨z.1, z.2.1⟩
      have ln : (wipe σ (own.map (·.2))).length = σ8.length := by rw [← hw8, wipe_length]
      refine ⟨m', hm, i + 1, H', (J'.unpinned (pins := [])).weak ln (fun j v e => ?_), T.keep _ _ _ st7 fun b hb o e => (kept b hb o e).1, fun b hb => ?_, w'⟩
      · rw [← hw8] at e; exact (wipe_some e).1
      · obtain ⟨o, e, _⟩ := T.obj _ _ st7 b hb
        exact (kept b hb o e).2
    cases b with
    | false => exact back I9 q9
    | true =>
      refine thnF (re.run _ s9 σ8 H9 _ I9 q9) ?_
      rintro z s10 ⟨yv, H10, I10, r10, acc, hD10, hz10, nx⟩
      exact app_ok (X := blkH X s3 H3 sc en fp) I10 hD10 hz10 r10 fun s11 I11 => back I11 nx
end
section
/-! ### defs whose errors have no context -/
theorem passN {X : Cx} : Passes (L2N.CX X.prog X.w) X E0 := by
  rintro _ _ _ _ _ _ _ ⟨_, _, _, _, _, _, _, _, _, _, _, _, z⟩
  exact z.elim
theorem takes0N {X : Cx} : L2N.Takes X (fun _ _ _ _ => False) := by
  rintro _ _ ⟨_, _, _, _, _, _, _, _, _, _, _, _, _, _, _, _, z⟩
  exact z.elim
theorem okN {P : Program} {w : World} {K : PySem.W.Frag} {mg : Str → Option Value} {base : Heap} {x qual : Str} {st : Stmt} {f : Addr} {fd : FuncData} {N ps : List Str} {k : Nat} {sp : Sp} (F : Fun K x qual st f fd) (S : FnScope N ps (defScope st)) (len : ∀ vs H Q E, sp vs H Q E → vs.length = ps.length)
    (body : ∀ (cdv : Value) (A : Around) (outer : List Env) (s : Shared) (H : Hp) (vs : List V) (Q : VK) (E : XK), Room k (A.deeper (envOfC qual (defScope st) s.heap.objs.size f cdv)) → sp vs H Q E →
      ∃ t, PSs (cxOf (L2N.CX P w) P w K mg base N qual (defScope st) f cdv A outer s H E) (defBody st) t ∧ t { nx := fun _ H' => Q .non H', rt := Q } (start N vs) H) : FnOk P w K mg base (L2N.CX P w) (k + 1) f fd ps sp := by
  obtain ⟨oc, od, kV, doc, pm, an, cdv, ct, osl, rfl, lk, hcd⟩ := F.ex
  apply fn_of lk hcd S len
  intro A outer s H vs Q E hr hsp
  exact body cdv A outer s H vs Q E hr hsp
end
section
/-! ### any(xs) of numbers, a list or a tuple -/
theorem truth_ints {prog : Program} {w : World} {A : Around} {ns : List Int} {its : List Value} (e : IntsAre its ns) : TruthOf prog w A (fun i v => its.toArray[i]? = some v) (fun i => decide (ns.getD i 0 ≠ 0)) := by
  intro i v s Q E hv hq
  have hv' : its[i]? = some v := by simpa using hv
  have key : ∀ {its : List Value} {ns : List Int}, IntsAre its ns → ∀ i v, its[i]? = some v → ∃ t, v = Value.int (ns.getD i 0) t := by
    intro its ns e
    induction e with
    | nil => intro i v h; simp at h
    | cons n t _ ih =>
      intro i v h
      cases i with
      | zero => exact ⟨t, by simpa using h.symm⟩
      | succ i => exact ih i v (by simpa using h)
  obtain ⟨t, rfl⟩ := key e i v hv'
  refine truthy_int ?_
  have : (ns.getD i 0 != 0) = decide (ns.getD i 0 ≠ 0) := by
    rw [Bool.eq_iff_iff]; simp
  rw [this]
  exact hq
theorem any_rangeI : ∀ ns : List Int, (List.range ns.length).any (fun i => decide (ns.getD i 0 ≠ 0)) = ns.any fun x => !decide (x = 0)
  | [] => rfl
  | b :: bs => by
    have h := any_rangeI bs
    rw [List.length_cons, List.range_succ_eq_map, List.any_cons, List.any_map, List.any_cons, ← h]
    have : decide ((b :: bs).getD 0 0 ≠ 0) = !decide (b = 0) := by
      rw [Bool.eq_iff_iff]; simp
    rw [this]
    rfl
def rAnyI (K : PySem.W.Frag) : List V → Hp → VK → Prop := fun vs H Q => ∃ (a : Addr) (ns : List Int), vs = [V.ref a] ∧ (SqL K H a (ns.map V.int) ∨ SqT K H a (ns.map V.int)) ∧ Q (.bl (ns.any fun x => !decide (x = 0))) H
theorem intsLen {its : List Value} {ns : List Int} (e : IntsAre its ns) : its.length = ns.length := by
  induction e with
  | nil => rfl
  | cons n t _ ih => simp [ih]
theorem cr_anyI {X : Cx} (hc : X.calm = true) : CallR X (.builtin "any") (rAnyI X.K) := by
  rintro pins s σ H vs us Q I r ⟨a, ns, rfl, hs, q⟩
  rw [Vals.ref1 r]
  rcases hs with hs | hs
  · obtain ⟨its, rv, hl, _⟩ := I.list hs
    have hb := intsAre_of rv
    refine call_any_walk (iter_any hl.isList fun s₂ e2 st hne => ?_)
    subst e2
    refine ⟨_, _, _, _, _, _, _, rfl, Walks.list (A := X.A.in1) (I.ok.hd hc) _ a hne its.toArray, st, truth_ints hb, fun h' tk hk => ?_⟩
    refine ⟨.bl _, H, I.kept fun b o eo => hk b o (fun hmem => ?_) (Heap.get?_push_of_some _ eo), ?_, q⟩
    · rcases List.mem_cons.mp hmem with e1 | hmem
      · exact absurd (e1 ▸ Heap.lt_size eo) (Nat.lt_irrefl _)
      · cases hmem
    · show Value.bool _ = Value.bool _
      rw [← any_rangeI, List.size_toArray, intsLen hb]
  · obtain ⟨its, rv, hl, _⟩ := I.tuple hs
    have hb := intsAre_of rv
    have hlt : a < s.heap.objs.size := by obtain ⟨_, e, _⟩ := hl; exact Heap.lt_size e
    refine call_any_walk (wpAny_pyIter_tuple hl ?_)
    refine ⟨_, _, _, _, _, _, _, rfl, Walks.tuple (A := X.A.in1) (I.ok.hd hc) _ a (Nat.ne_of_lt hlt) its.toArray, ⟨⟨_, Heap.get?_push_size _ rfl, rfl, rfl⟩, hl.push _⟩, truth_ints hb, fun h' tk hk => ?_⟩
    refine ⟨.bl _, H, I.kept fun b o eo => hk b o (fun hmem => ?_) (Heap.get?_push_of_some _ eo), ?_, q⟩
    · rcases List.mem_cons.mp hmem with e1 | hmem
      · exact absurd (e1 ▸ Heap.lt_size eo) (Nat.lt_irrefl _)
      · cases hmem
    · show Value.bool _ = Value.bool _
      rw [← any_rangeI, List.size_toArray, intsLen hb]
theorem cr_anyIK {X : Cx} (K : PySem.W.Frag) (hc : X.calm = true) (h : X.K = K := by rfl) : CallR X (.builtin "any") (rAnyI K) := by subst h; exact cr_anyI hc
section
variable {K : PySem.W.Frag} {H : Hp} {σ : L2.St} {ta tb te : TE}
theorem er_anyIL {xs : List Int} (ha : Er (rL K rI) ta σ H xs) : Er rB (tCB (rAnyI K) (tCons ta tNil)) σ H (xs.any fun x => !decide (x = 0)) := fun H1 e Q q =>
  ha H1 e _ fun v H2 e2 ⟨a, vs, h1, hs, hp⟩ => by
    have e4 := pI hp
    subst e4
    exact ⟨a, xs, by rw [h1], .inl hs, q _ H2 e2 rfl⟩
theorem er_anyIT {xs : List Int} (ha : Er (rT K rI) ta σ H xs) : Er rB (tCB (rAnyI K) (tCons ta tNil)) σ H (xs.any fun x => !decide (x = 0)) := fun H1 e Q q =>
  ha H1 e _ fun v H2 e2 ⟨a, vs, h1, hs, hp⟩ => by
    have e4 := pI hp
    subst e4
    exact ⟨a, xs, by rw [h1], .inr hs, q _ H2 e2 rfl⟩
/-! ### isinstance(x, list), isinstance(x, tuple), is None -/
theorem er_isLst {α : Type} {R : Rp α} [Me R] {i : Nat} {p : Addr} {xs : List α} (hs : σ[i]? = some (some (.ref p))) (h : Lt R H p xs) : Er rB (tCB (rIsi K) (tCons (tVar i) (tCons (tC (.ty "list")) tNil))) σ H true := fun H1 e Q q => by
  obtain ⟨vs, h1, _⟩ := h.ex e
  exact ⟨_, hs, _, _, _, _, true, rfl, .ty "list", .base (.lst h1), kit_ty (show kitB "list" "list" = some true by decide +kernel), q _ H1 (Ex.refl H1) rfl⟩
theorem er_isTup {α : Type} {R : Rp α} {xs : List α} (ha : Er (rT K R) ta σ H xs) : Er rB (tCB (rIsi K) (tCons ta (tCons (tC (.ty "tuple")) tNil))) σ H true := fun H1 e Q q =>
  ha H1 e _ fun v H2 e2 ⟨a, vs, h1, hs, hp⟩ => by
    subst h1
    exact ⟨_, _, _, _, true, rfl, .ty "tuple", sqT_ty hs, kit_ty (show kitB "tuple" "tuple" = some true by decide +kernel), q _ H2 e2 rfl⟩
theorem er_isNn (ha : Er rN ta σ H ()) : Er rB (tOp (fun x y H Q => y = .non ∧ Q (.bl (decide (x = .non))) H) ta (tC .non)) σ H true := fun H1 e Q q =>
  ha H1 e _ fun v H2 e2 r => by
    cases r
    exact ⟨rfl, q _ H2 e2 rfl⟩
theorem er_isNr {α : Type} {R : Rp α} {x : α} (ha : Er R ta σ H x) (hn : ∀ v H, R H x v → v ≠ .non) : Er rB (tOp (fun x y H Q => y = .non ∧ Q (.bl (decide (x = .non))) H) ta (tC .non)) σ H false := fun H1 e Q q =>
  ha H1 e _ fun v H2 e2 r => ⟨rfl, by rw [decide_eq_false (hn v H2 r)]; exact q _ H2 e2 rfl⟩
end
section
variable {σ : L2.St} {H : Hp} {t u : TT} {Q : Bool → Hp → Prop}
theorem go_or (h : t σ H fun c H1 => if c = true then Q true H1 else u σ H1 Q) : tOr t u σ H Q := h
theorem go_and (h : t σ H fun c H1 => if c = true then u σ H1 Q else Q false H1) : tAnd t u σ H Q := h
theorem go_T {b : Bool} (h : Et t σ H b) (k : ∀ H1, Ex H H1 → Q b H1) : t σ H Q := h H (Ex.refl H) Q k
end
end
section
/-! ### sum(t) of a tuple of numbers -/
def rSumT (K : PySem.W.Frag) : List V → Hp → VK → Prop := fun vs H Q => ∃ (a : Addr) (ns : List Int), vs = [V.ref a] ∧ SqT K H a (ns.map V.int) ∧ Q (.int ns.sum) H
theorem preSum_take (ns : List Int) : ∀ j, preSum (fun i => ns.getD i 0) j = (ns.take j).sum
  | 0 => rfl
  | j + 1 => by
    show preSum (fun i => ns.getD i 0) j + ns.getD j 0 = _
    rw [preSum_take ns j, List.take_add_one, List.sum_append, List.getD_eq_getElem?_getD]
    cases ns[j]? <;> simp
theorem cr_sumT {X : Cx} (hc : X.calm = true) : CallR X (.builtin "sum") (rSumT X.K) := by
  rintro pins s σ H vs us Q I r ⟨a, ns, rfl, hs, q⟩
  rw [Vals.ref1 r]
  obtain ⟨its, rv, hl, _⟩ := I.tuple hs
  have hb := intsAre_of rv
  have hlt : a < s.heap.objs.size := by obtain ⟨_, e, _⟩ := hl; exact Heap.lt_size e
  refine call_sum_walkG (wpAny_pyIter_tuple hl ?_)
  refine ⟨_, _, _, _, _, _, fun i => ns.getD i 0, rfl, Walks.tuple (A := X.A.in1) (I.ok.hd hc) _ a (Nat.ne_of_lt hlt) its.toArray, ⟨⟨_, Heap.get?_push_size _ rfl, rfl, rfl⟩, hl.push _⟩, fun b hb => ?_, fun i v hv => ?_, fun h' tk t' hk => ?_⟩
  · show b < (s.heap.push _).objs.size
    rw [Heap.size_push]
    rcases List.mem_cons.mp hb with rfl | hb
    · exact Nat.lt_succ_self _
    · rw [List.mem_singleton.mp hb]; exact Nat.lt_succ_of_lt hlt
  · have hv' : its[i]? = some v := by simpa using hv
    have key : ∀ {its : List Value} {ns : List Int}, IntsAre its ns → ∀ i v, its[i]? = some v → ∃ t, v = Value.int (ns.getD i 0) t := by
      intro its ns e
      induction e with
      | nil => intro i v h; simp at h
      | cons n t _ ih =>
        intro i v h
        cases i with
        | zero => exact ⟨t, by simpa using h.symm⟩
        | succ i => exact ih i v (by simpa using h)
    exact key hb i v hv'
  · refine ⟨.int _, H, I.kept (t' := tk) fun b o eo => hk b o (fun hmem => ?_) (Heap.get?_push_of_some _ eo), ⟨t', ?_⟩, q⟩
    · rcases List.mem_cons.mp hmem with e1 | hmem
      · exact absurd (e1 ▸ Heap.lt_size eo) (Nat.lt_irrefl _)
      · cases hmem
    · rw [preSum_take, List.size_toArray, intsLen hb, List.take_length]
theorem cr_sumTK {X : Cx} (K : PySem.W.Frag) (hc : X.calm = true) (h : X.K = K := by rfl) : CallR X (.builtin "sum") (rSumT K) := by subst h; exact cr_sumT hc
theorem er_sumT {K : PySem.W.Frag} {H : Hp} {σ : L2.St} {ta : TE} {xs : List Int} (ha : Er (rT K rI) ta σ H xs) : Er rI (tCB (rSumT K) (tCons ta tNil)) σ H xs.sum := fun H1 e Q q =>
  ha H1 e _ fun v H2 e2 ⟨a, vs, h1, hs, hp⟩ => by
    have e4 := pI hp
    subst e4
    exact ⟨a, xs, by rw [h1], hs, q _ H2 e2 rfl⟩
end
end Dg


namespace Dg
open PySem PySem.Spec PyProof.Rows L2 Evl
open SX (S)
def topS (i : Nat) : Stmt := PySem.Challenge.pw_digitroots_k31_first_entries_of_roots.main.body.getD i (.Pass ⟨0, 0, 0, 0⟩)
abbrev s_is_whole : Stmt := topS 14
abbrev s_is_prime : Stmt := topS 15
abbrev s_look_prime : Stmt := topS 16
abbrev s_back_of : Stmt := topS 17
abbrev s_trimmed : Stmt := topS 18
abbrev s_added : Stmt := topS 19
abbrev s_multiplied : Stmt := topS 20
abbrev s_two_trimmed : Stmt := topS 22
abbrev s_corner : Stmt := topS 23
abbrev s_twos_added : Stmt := topS 24
abbrev s_slope_of : Stmt := topS 25
abbrev s_shifted_by : Stmt := topS 26
abbrev s_look_root : Stmt := topS 28
abbrev s_value_cut : Stmt := topS 29
abbrev s_root_entries : Stmt := topS 30
abbrev s__law_bag : Stmt := topS 32
abbrev s__law_draw : Stmt := topS 33
abbrev s__law_prime : Stmt := topS 34
abbrev s__law_trimmed : Stmt := topS 35
abbrev s__law_poly : Stmt := topS 36
abbrev s__law_times : Stmt := topS 37
abbrev s__law_equation : Stmt := topS 38
abbrev s__law_at_nought : Stmt := topS 39
abbrev s__law_value : Stmt := topS 40
abbrev s__law_only : Stmt := topS 41
abbrev s__law_told : Stmt := topS 42
abbrev s__law_right : Stmt := topS 43
abbrev s_law : Stmt := topS 44
theorem sc_is_whole : FnScope ["thing"] ["thing"] (defScope s_is_whole) := ⟨rfl, rfl, rfl, by decide +kernel, rfl, by decide +kernel, by decide +kernel⟩
theorem sc_is_prime : FnScope ["thing"] ["thing"] (defScope s_is_prime) := ⟨rfl, rfl, rfl, by decide +kernel, rfl, by decide +kernel, by decide +kernel⟩
theorem sc_look_prime : FnScope ["p"] ["p"] (defScope s_look_prime) := ⟨rfl, rfl, rfl, by decide +kernel, rfl, by decide +kernel, by decide +kernel⟩
theorem sc_back_of : FnScope ["p", "number", "other"] ["p", "number"] (defScope s_back_of) := ⟨rfl, rfl, rfl, by decide +kernel, rfl, by decide +kernel, by decide +kernel⟩
theorem sc_trimmed : FnScope ["numbers", "many"] ["numbers"] (defScope s_trimmed) := ⟨rfl, rfl, rfl, by decide +kernel, rfl, by decide +kernel, by decide +kernel⟩
theorem sc_added : FnScope ["p", "one", "other", "often", "found", "place", "number"] ["p", "one", "other", "often"] (defScope s_added) := ⟨rfl, rfl, rfl, by decide +kernel, rfl, by decide +kernel, by decide +kernel⟩
theorem sc_multiplied : FnScope ["p", "one", "other", "found", "place", "number", "far", "more"] ["p", "one", "other"] (defScope s_multiplied) := ⟨rfl, rfl, rfl, by decide +kernel, rfl, by decide +kernel, by decide +kernel⟩
theorem sc_two_trimmed : FnScope ["polys", "many"] ["polys"] (defScope s_two_trimmed) := ⟨rfl, rfl, rfl, by decide +kernel, rfl, by decide +kernel, by decide +kernel⟩
theorem sc_corner : FnScope ["two"] ["two"] (defScope s_corner) := ⟨rfl, rfl, rfl, by decide +kernel, rfl, by decide +kernel, by decide +kernel⟩
theorem sc_twos_added : FnScope ["p", "one", "other", "often", "found", "place", "poly"] ["p", "one", "other", "often"] (defScope s_twos_added) := ⟨rfl, rfl, rfl, by decide +kernel, rfl, by decide +kernel, by decide +kernel⟩
theorem sc_slope_of : FnScope ["p", "two", "place", "poly"] ["p", "two"] (defScope s_slope_of) := ⟨rfl, rfl, rfl, by decide +kernel, rfl, by decide +kernel, by decide +kernel⟩
theorem sc_shifted_by : FnScope ["p", "two", "c", "found", "poly"] ["p", "two", "c"] (defScope s_shifted_by) := ⟨rfl, rfl, rfl, by decide +kernel, rfl, by decide +kernel, by decide +kernel⟩
theorem sc_look_root : FnScope ["p", "equation", "b", "moved"] ["p", "equation", "b"] (defScope s_look_root) := ⟨rfl, rfl, rfl, by decide +kernel, rfl, by decide +kernel, by decide +kernel⟩
theorem sc_value_cut : FnScope ["p", "two", "poly", "many", "found", "more"] ["p", "two", "poly", "many"] (defScope s_value_cut) := ⟨rfl, rfl, rfl, by decide +kernel, rfl, by decide +kernel, by decide +kernel⟩
theorem sc_root_entries : FnScope ["p", "equation", "b", "many", "moved", "back", "found", "value", "often"] ["p", "equation", "b", "many"] (defScope s_root_entries) := ⟨rfl, rfl, rfl, by decide +kernel, rfl, by decide +kernel, by decide +kernel⟩
theorem sc__law_bag : FnScope ["_law_script", "_law_at", "_law_cell", "_law_great"] ["_law_script", "_law_at"] (defScope s__law_bag) := ⟨rfl, rfl, rfl, by decide +kernel, rfl, by decide +kernel, by decide +kernel⟩
theorem sc__law_draw : FnScope ["_law_bag_here", "_law_many", "_law_digit"] ["_law_bag_here", "_law_many"] (defScope s__law_draw) := ⟨rfl, rfl, rfl, by decide +kernel, rfl, by decide +kernel, by decide +kernel⟩
theorem sc__law_prime : FnScope ["_law_bag_here"] ["_law_bag_here"] (defScope s__law_prime) := ⟨rfl, rfl, rfl, by decide +kernel, rfl, by decide +kernel, by decide +kernel⟩
theorem sc__law_trimmed : FnScope ["_law_numbers", "_law_many"] ["_law_numbers"] (defScope s__law_trimmed) := ⟨rfl, rfl, rfl, by decide +kernel, rfl, by decide +kernel, by decide +kernel⟩
theorem sc__law_poly : FnScope ["_law_bag_here", "_law_p", "_law_most", "_law_k"] ["_law_bag_here", "_law_p", "_law_most"] (defScope s__law_poly) := ⟨rfl, rfl, rfl, by decide +kernel, rfl, by decide +kernel, by decide +kernel⟩
theorem sc__law_times : FnScope ["_law_p", "_law_one", "_law_other", "_law_found", "_law_i", "_law_j"] ["_law_p", "_law_one", "_law_other"] (defScope s__law_times) := ⟨rfl, rfl, rfl, by decide +kernel, rfl, by decide +kernel, by decide +kernel⟩
theorem sc__law_equation : FnScope ["_law_bag_here", "_law_p", "_law_high", "_law_wide", "_law_b", "_law_polys", "_law_value_here", "_law_poly_here", "_law_found", "_law_j", "_law_i"] ["_law_bag_here", "_law_p", "_law_high", "_law_wide", "_law_b"] (defScope s__law_equation) := ⟨rfl, rfl, rfl, by decide +kernel, rfl, by decide +kernel, by decide +kernel⟩
theorem sc__law_at_nought : FnScope ["_law_p", "_law_equation_here", "_law_b", "_law_value_here", "_law_slope", "_law_poly_here"] ["_law_p", "_law_equation_here", "_law_b"] (defScope s__law_at_nought) := ⟨rfl, rfl, rfl, by decide +kernel, rfl, by decide +kernel, by decide +kernel⟩
theorem sc__law_value : FnScope ["_law_p", "_law_equation_here", "_law_numbers", "_law_many", "_law_found", "_law_poly_here", "_law_after", "_law_i", "_law_t", "_law_more"] ["_law_p", "_law_equation_here", "_law_numbers", "_law_many"] (defScope s__law_value) := ⟨rfl, rfl, rfl, by decide +kernel, rfl, by decide +kernel, by decide +kernel⟩
theorem sc__law_only : FnScope ["_law_e", "_law_due", "_law_kinds", "_law_k"] ["_law_e", "_law_due"] (defScope s__law_only) := ⟨rfl, rfl, rfl, by decide +kernel, rfl, by decide +kernel, by decide +kernel⟩
theorem sc__law_told : FnScope ["_law_p", "_law_equation_here", "_law_b", "_law_many", "_law_e"] ["_law_p", "_law_equation_here", "_law_b", "_law_many"] (defScope s__law_told) := ⟨rfl, rfl, rfl, by decide +kernel, rfl, by decide +kernel, by decide +kernel⟩
theorem sc__law_right : FnScope ["_law_p", "_law_equation_here", "_law_b", "_law_many", "_law_found", "_law_again", "_law_a"] ["_law_p", "_law_equation_here", "_law_b", "_law_many"] (defScope s__law_right) := ⟨rfl, rfl, rfl, by decide +kernel, rfl, by decide +kernel, by decide +kernel⟩
theorem sc_law : FnScope ["_law_script", "_law_k", "_law_bag_here", "_law_p", "_law_b", "_law_many", "_law_equation_here"] ["_law_script"] (defScope s_law) := ⟨rfl, rfl, rfl, by decide +kernel, rfl, by decide +kernel, by decide +kernel⟩
def P3 (p : Nat) : Prop := p = 2 ∨ p = 3 ∨ p = 5
theorem P3.pos {p : Nat} (h : P3 p) : 0 < p := by rcases h with rfl | rfl | rfl <;> decide
theorem P3.two {p : Nat} (h : P3 p) : 2 ≤ p := by rcases h with rfl | rfl | rfl <;> decide
section
variable {P : Program} {w : World} {K : PySem.W.Frag} {mg : Str → Option Value} {base : Heap}
/-! ### is_whole, is_prime, look_prime -/
def sp_is_whole (K : PySem.W.Frag) : Sp := fun vs H Q _ => ∃ x : V, vs = [x] ∧ Th K H x ∧ ∀ H', Ex H H' → Q (.bl (isW x)) H'
theorem ok_is_whole {f : Addr} {fd : FuncData} (F : Fun K "is_whole" "is_whole" s_is_whole f fd) (n_isinstance : mg "isinstance" = none) (n_int : mg "int" = none) (n_bool : mg "bool" = none) : FnOk P w K mg base CX0 1 f fd ["thing"] (sp_is_whole K) := by
  refine F.ok sc_is_whole (fun vs H Q E h => ?_) (fun cdv A outer s H vs Q E hr h => ?_)
  · obtain ⟨x, rfl, _⟩ := h; rfl
  · obtain ⟨x, rfl, th, q⟩ := h
    obtain ⟨t, ty, k1, k2⟩ := th.ty
    refine ⟨_, pss_one (ps_ret (pe_and (pe_callB call_isi (by rfl) n_isinstance (by decide +kernel) (pa_cons (pv 0) (pa_cons (pe_bltn (v := .ty "int") (by rfl) n_int (by decide +kernel) rfl) pa_nil)))
      (pe_one (pe_not (pe_callB call_isi (by rfl) n_isinstance (by decide +kernel) (pa_cons (pv 0) (pa_cons (pe_bltn (v := .ty "bool") (by rfl) n_bool (by decide +kernel) rfl) pa_nil))))))), ?_⟩
    refine ⟨x, rfl, x, .ty "int", _, _, _, rfl, .ty "int", ty, kit_ty k1, _, rfl, ite2 (fun h1 => ?_) (fun h1 => ?_)⟩
    · refine ⟨x, rfl, x, .ty "bool", _, _, _, rfl, .ty "bool", ty, kit_ty k2, _, rfl, ?_⟩
      have e := isW_eq x
      rw [h1, Bool.true_and] at e
      rw [← e]
      exact q H (Ex.refl H)
    · have e := isW_eq x
      rw [Bool.eq_false_iff.mpr h1, Bool.false_and] at e
      have z := q H (Ex.refl H)
      rw [e] at z
      exact z
def sp_is_prime (K : PySem.W.Frag) : Sp := fun vs H Q _ => ∃ x : V, vs = [x] ∧ Th K H x ∧ ∀ H', Ex H H' → Q (.bl (isPr x)) H'
theorem ok_is_prime {f : Addr} {fd : FuncData} (F : Fun K "is_prime" "is_prime" s_is_prime f fd) (D_is_whole : Df P w K mg base CX0 1 "is_whole" ["thing"] (sp_is_whole K)) (c_PRIMES : Cn K mg "PRIMES" [.int 2, .int 3, .int 5]) : FnOk P w K mg base CX0 2 f fd ["thing"] (sp_is_prime K) := by
  refine F.ok sc_is_prime (fun vs H Q E h => ?_) (fun cdv A outer s H vs Q E hr h => ?_)
  · obtain ⟨x, rfl, _⟩ := h; rfl
  · obtain ⟨x, rfl, th, q⟩ := h
    refine ⟨_, pss_one (ps_ret (pe_and (pe_call D_is_whole.ok hr (by rfl) D_is_whole.g D_is_whole.kp D_is_whole.b .nil pass0 (pa_cons (pv 0) pa_nil))
      (pe_one (pe_cmpR op_in_seq (pv 0) (pe_glob (v := .ref c_PRIMES.a) (by rfl) c_PRIMES.g rfl) (by rfl))))), ?_⟩
    refine ⟨x, rfl, x, rfl, th, fun H1 e1 => ⟨_, rfl, ite2 (fun h1 => ?_) (fun h1 => ?_)⟩⟩
    · cases x <;> first | cases h1 | skip
      rename_i i
      refine ⟨.int i, rfl, c_PRIMES.a, _, rfl, .inr (c_PRIMES.s H1), rfl, rfl, ?_⟩
      have z := q H1 e1
      have e : inV (.int i) [.int 2, .int 3, .int 5] = isPr (.int i) := by
        show ((2 : Int) == i || ((3 : Int) == i || ((5 : Int) == i || false))) = decide (Pr i)
        rw [Bool.eq_iff_iff]
        simp only [Bool.or_eq_true, beq_iff_eq, Bool.false_eq_true, or_false, decide_eq_true_eq]
        exact ⟨fun h => by rcases h with h | h | h <;> simp [Pr, ← h], fun h => by rcases h with h | h | h <;> simp [h]⟩
      show Q (.bl (inV (.int i) [.int 2, .int 3, .int 5])) H1
      rw [e]
      exact z
    · have z := q H1 e1
      rw [isPr_W (Bool.eq_false_iff.mpr h1)] at z
      exact z
def sp_look_prime (K : PySem.W.Frag) (C : Addr) : Sp := fun vs H Q E => ∃ x : V, vs = [x] ∧ Th K H x ∧ (isPr x = true → ∀ H', Ex H H' → Q .non H') ∧ (isPr x = false → ∀ H', Ex H H' → E (.ref C) none H')
/-- what is known of a class of errors -/
structure Xc (K : PySem.W.Frag) (mg : Str → Option Value) (x : Str) (C : Addr) : Prop where
  g : mg x = some (.ref C)
  kp : PySem.W.keepIn K (.ref C) = true
  x : PySem.W.excIn K C [.type "ValueError", .type "Exception", .type "BaseException", .type "object"] "ValueError.__new__" = true
  sb : PySem.W.subIn K (.ref C) (.type "BaseException") = some true
  ty : PySem.W.typeIn K (.ref C) = some (.type "type")
theorem ok_look_prime {f : Addr} {fd : FuncData} (F : Fun K "look_prime" "look_prime" s_look_prime f fd) (D_is_prime : Df P w K mg base CX0 2 "is_prime" ["thing"] (sp_is_prime K)) {C : Addr} (x_NoPrime : Xc K mg "NoPrime" C) : FnOk P w K mg base (L2N.CX P w) 3 f fd ["p"] (sp_look_prime K C) := by
  refine okN F sc_look_prime (fun vs H Q E h => ?_) (fun cdv A outer s H vs Q E hr h => ?_)
  · obtain ⟨x, rfl, _⟩ := h; rfl
  · obtain ⟨x, rfl, th, q1, q2⟩ := h
    refine ⟨_, pss_one (ps_if (pt_not (pt_val (pe_call D_is_prime.ok hr (by rfl) D_is_prime.g D_is_prime.kp D_is_prime.b .nil pass0 (pa_cons (pv 0) pa_nil))))
      (pss_one (L2N.ps_raise rfl (L2N.takes_of rfl rfl rfl rfl) (L2N.pmk_own PySem.F.excBase_ValueError x_NoPrime.x x_NoPrime.g x_NoPrime.kp (raises_own x_NoPrime.sb x_NoPrime.ty) rfl))) pss_nil), ?_⟩
    refine ⟨x, rfl, x, rfl, th, fun H1 e1 => ⟨_, rfl, ite2 (fun h1 => ?_) (fun h1 => ?_)⟩⟩
    · exact q2 (by simpa using h1) H1 e1
    · exact q1 (by simpa using h1) H1 e1
/-- look_prime(p) as a statement -/
theorem s_look {x : V} {σ : L2.St} {H : Hp} {D : Ends} {i : Nat} {C : Addr} {E : XK} (hx : σ[i]? = some (some x)) (th : Th K H x) (k1 : ∀ p : Nat, x = .int p → P3 p → ∀ H1, Ex H H1 → D.nx σ H1) (k2 : isPr x = false → ∀ H1, Ex H H1 → E (.ref C) none H1) :
    tDrop (tCall (sp_look_prime K C) [] E (tCons (tVar i) tNil)) D σ H := by
  refine ⟨x, hx, x, rfl, th, fun h H1 e1 => ?_, k2⟩
  obtain ⟨p, rfl, hp⟩ := isPr_int h
  rcases hp with rfl | rfl | rfl
  · exact k1 2 rfl (.inl rfl) H1 e1
  · exact k1 3 rfl (.inr (.inl rfl)) H1 e1
  · exact k1 5 rfl (.inr (.inr rfl)) H1 e1
theorem P3.pr {p : Nat} (h : P3 p) : Pr (p : Int) := by rcases h with rfl | rfl | rfl <;> decide
theorem P3.le {p : Nat} (h : P3 p) : 2 ≤ p ∧ p ≤ 5 := by rcases h with rfl | rfl | rfl <;> decide
end
section
/-! ### the law's bag of three numbers -/
variable {P : Program} {w : World} {K : PySem.W.Frag} {mg : Str → Option Value} {base : Heap}
def sp__law_bag (K : PySem.W.Frag) : Sp := fun vs H Q _ => ∃ (a : Addr) (ns : List Int) (k : Int), vs = [.ref a, .int k] ∧ SqL K H a (ns.map V.int) ∧ 0 ≤ k ∧ k < 1000 ∧ ∀ p H', H p = none → Ex H H' → Bag H' p → Q (.ref p) H'
theorem ok__law_bag {f : Addr} {fd : FuncData} (F : Fun K "_law_bag" "_law_bag" s__law_bag f fd) (n_len : mg "len" = none) (n_abs : mg "abs" = none) : FnOk P w K mg base CX0 1 f fd ["_law_script", "_law_at"] (sp__law_bag K) := by
  refine F.ok sc__law_bag (fun vs H Q E h => ?_) (fun cdv A outer s H vs Q E hr h => ?_)
  · obtain ⟨a, ns, k, rfl, _⟩ := h; rfl
  · obtain ⟨a, ns, k, rfl, hS, hk0, hk1, q⟩ := h
    refine ⟨_, (pss_cons (ps_set (i := 2) sc__law_bag.nd rfl (Or.inl rfl) pe_int)
 (Evl.pss_cut (ps_if (pt_cmpR op_lt (pv 1) (pe_callB (call_len_seqK K) (by rfl) n_len (by decide +kernel) (pa_cons (pv 0) pa_nil)) (nomark _)) (pss_one (ps_set (i := 2) sc__law_bag.nd rfl (Or.inl rfl) (pe_ix (ix_listK K) (pv 0) (pv 1) (fun _ _ => rfl)))) pss_nil)
 (pss_cons (ps_set (i := 3) sc__law_bag.nd rfl (Or.inl rfl) pe_int)
 (Evl.pss_cut (ps_if (pt_cmpR op_ge (pe_callB call_abs (by rfl) n_abs (by decide +kernel) (pa_cons (pv 2) pa_nil)) (pe_op op_pow pe_int pe_int) (nomark _)) (pss_one (ps_set (i := 3) sc__law_bag.nd rfl (Or.inl rfl) (pe_callB call_abs (by rfl) n_abs (by decide +kernel) (pa_cons (pv 2) pa_nil)))) pss_nil)
 (pss_one (ps_ret (pe_lst (pa_cons (pv 3) (pa_cons (pe_op op_add (pe_op op_add (pe_op op_mul (pe_op op_mod (pv 2) pe_int) pe_int) (pe_op op_mul pe_int (pv 1))) pe_int) (pa_cons pe_int pa_nil)))))))))), ?_⟩
    refine s_asgI er_int fun H1 e1 => ?_
    have hL : rL K rI H1 ns (.ref a) := Me.ex e1 (rl_of hS)
    refine ⟨fun σ' H' => ∃ cell : Int, σ' = [some (.ref a), some (.int k), some (.int cell), none] ∧ Ex H H', ?_, ?_⟩
    · refine s_if (et_t (er_cmp er_iv (er_lenL (er_var rfl hL)))) (fun hb H2 e2 => ?_) (fun hb H2 e2 => ?_)
      · have hb' := of_decide_eq_true hb
        exact s_asgI (er_ixL0 (0 : Int) (er_var rfl (Me.ex e2 hL)) er_iv (by omega) hb') fun H3 e3 => ⟨_, rfl, (e1.trans e2).trans e3⟩
      · exact ⟨0, rfl, e1.trans e2⟩
    · rintro _ H2 ⟨cell, rfl, F0⟩
      refine s_asgI er_int fun H3 e3 => ?_
      replace F0 := F0.trans e3
      refine ⟨fun σ' H' => ∃ great : Int, 0 ≤ great ∧ σ' = [some (.ref a), some (.int k), some (.int cell), some (.int great)] ∧ Ex H H', ?_, ?_⟩
      · refine s_if (et_t (er_cmp (er_abs er_iv) (er_op (C := CPow) er_int er_int ⟨by decide, by decide, by decide⟩))) (fun hb H4 e4 => ?_) (fun hb H4 e4 => ?_)
        · exact s_asgI (er_abs er_iv) fun H5 e5 => ⟨_, by split <;> omega, rfl, (F0.trans e4).trans e5⟩
        · exact ⟨0, by omega, rfl, F0.trans e4⟩
      · rintro _ H4 ⟨great, hg, rfl, F0⟩
        refine go_L (el_lst (R := rI) (eas er_iv (eas (er_op0 (er_op0 (er_op (C := CMul) (er_op er_iv er_int (by decide)) er_int (cmul_r (by decide))) (er_op (C := CMul) er_int er_iv (cmul_l (by decide)))) er_int) (eas er_int eas0))) (by simp)) fun p H5 n5 e5 l5 => ?_
        have hx : 0 ≤ cell % 1000000007 ∧ cell % 1000000007 < 1000000007 := by omega
        exact q p H5 (fresh_back F0 n5) (F0.trans e5) ⟨_, _, _, l5, hg, by omega, by omega⟩
def sp__law_draw (K : PySem.W.Frag) : Sp := fun vs H Q _ => ∃ (b : Addr) (m : Int), vs = [.ref b, .int m] ∧ Bag H b ∧ 0 < m ∧ m < 1000000 ∧ ∀ (r : Int) H', C1 b H H' → Bag H' b → 0 ≤ r ∧ r < m → Q (.int r) H'
theorem ok__law_draw {f : Addr} {fd : FuncData} (F : Fun K "_law_draw" "_law_draw" s__law_draw f fd) : FnOk P w K mg base CX0 1 f fd ["_law_bag_here", "_law_many"] (sp__law_draw K) := by
  refine F.ok sc__law_draw (fun vs H Q E h => ?_) (fun cdv A outer s H vs Q E hr h => ?_)
  · obtain ⟨b, m, rfl, _⟩ := h; rfl
  · obtain ⟨b, m, rfl, ⟨b0, b1, c, hB, h0, h1, h2⟩, hm0, hm1, q⟩ := h
    refine ⟨_, (pss_cons (ps_if (pt_cmpR op_gt (pe_ix (ix_listK K) (pv 0) pe_int (fun _ _ => rfl)) pe_int (nomark _)) (pss_cons (ps_set (i := 2) sc__law_draw.nd rfl (Or.inl rfl) (pe_op op_mod (pe_ix (ix_listK K) (pv 0) pe_int (fun _ _ => rfl)) (pv 1)))
 (pss_cons (ps_asg (pe_op op_fdiv (pe_ix (ix_listK K) (pv 0) pe_int (fun _ _ => rfl)) (pv 1)) (pg_sub (pv 0) pe_int set_list))
 (pss_one (ps_ret (pv 2))))) pss_nil)
 (pss_cons (ps_asg (pe_op op_add (pe_ix (ix_listK K) (pv 0) pe_int (fun _ _ => rfl)) pe_int) (pg_sub (pv 0) pe_int set_list))
 (pss_cons (ps_asg (pe_op op_mod (pe_op op_add (pe_op op_add (pe_op op_mul (pe_ix (ix_listK K) (pv 0) pe_int (fun _ _ => rfl)) pe_int) (pe_op op_mul pe_int (pe_ix (ix_listK K) (pv 0) pe_int (fun _ _ => rfl)))) pe_int) pe_int) (pg_sub (pv 0) pe_int set_list))
 (pss_one (ps_ret (pe_op op_mod (pe_op op_mod (pe_op op_pow (pe_op op_fdiv (pe_ix (ix_listK K) (pv 0) pe_int (fun _ _ => rfl)) pe_int) pe_int) pe_int) (pv 1))))))), ?_⟩
    have ix : ∀ {H : Hp} {σ : L2.St} {xs : List Int} (k : Int), σ[0]? = some (some (.ref b)) → Lt rI H b xs → xs.length = 3 → 0 ≤ k → k < 3 → Er rI (tOp (rIxL K) (tVar 0) (tC (.int k))) σ H (gt0 0 xs k) := fun k hσ l hl k0 k1 => er_ixL0 (0 : Int) (er_var hσ l.rl) er_int (by omega) (by omega)
    have fin : ∀ (x : Int), 0 ≤ x % m ∧ x % m < m := fun x => ⟨Int.emod_nonneg _ (by omega), Int.emod_lt_of_pos _ hm0⟩
    refine s_if (et_t (er_cmp (ix 0 rfl hB rfl (by decide) (by decide)) er_int)) (fun hb H1 e1 => ?_) (fun hb H1 e1 => ?_)
    · have hb' : 0 < b0 := of_decide_eq_true hb
      refine s_asgI (er_op (ix 0 rfl (hB.ex e1) rfl (by decide) (by decide)) er_iv hm0) fun H2 e2 => ?_
      refine s_set (K := K) (j := 0) (hB.ex (e1.trans e2)) rfl (er_op (ix 0 rfl (hB.ex (e1.trans e2)) rfl (by decide) (by decide)) er_iv ⟨hm0, by omega⟩) er_int (by simp) (by simp) fun H3 c3 l3 => ?_
      refine s_ret (R := rI) er_iv fun v H4 e4 r => ?_
      cases r
      exact q _ H4 (((C1.ex (e1.trans e2)).trans c3).trans (C1.ex e4)) ⟨_, _, _, l3.ex e4, Int.ediv_nonneg h0 (by omega), h1, h2⟩ (fin _)
    · refine s_set (K := K) (j := 0) (hB.ex e1) rfl (er_op0 (ix 2 rfl (hB.ex e1) rfl (by decide) (by decide)) er_int) er_int (by simp) (by simp) fun H2 c2 l2 => ?_
      refine s_set (K := K) (j := 0) l2 rfl (er_op (er_op0 (er_op0 (er_op (C := CMul) (ix 1 rfl l2 rfl (by decide) (by decide)) er_int (cmul_r (by decide))) (er_op (C := CMul) er_int (ix 2 rfl l2 rfl (by decide) (by decide)) (cmul_l (by decide)))) er_int) er_int (by decide)) er_int (by simp) (by simp) fun H3 c3 l3 => ?_
      have z1 : 0 ≤ (b1 * 48271 + 7919 * (c + 1) + 12345) % 2147483629 := Int.emod_nonneg _ (by omega)
      have z2 : (b1 * 48271 + 7919 * (c + 1) + 12345) % 2147483629 < 2147483629 := Int.emod_lt_of_pos _ (by decide)
      generalize hz : (b1 * 48271 + 7919 * (c + 1) + 12345) % 2147483629 = z at z1 z2
      have l3' : Lt rI H3 b [b0, z, c + 1] := by rw [← hz]; exact l3
      refine s_ret (R := rI) (er_op (er_op (er_op (C := CPow) (er_op (C := CDiv) (ix 1 rfl l3' rfl (by decide) (by decide)) er_int ⟨by decide, by decide⟩) er_int ⟨by decide, by decide, ?_⟩) er_int (by decide)) er_iv hm0) fun v H4 e4 r => ?_
      · show (z / 16).natAbs < 2 ^ 64
        omega
      · cases r
        exact q _ H4 ((((C1.ex e1).trans c2).trans c3).trans (C1.ex e4)) ⟨_, _, _, l3'.ex e4, h0, z1, by omega⟩ (fin _)
/-- a draw, step by step -/
theorem go_draw {H : Hp} {σ : L2.St} {tm : TE} {E : XK} {Q : VK} {i : Nat} {b : Addr} {m : Int} (hσ : σ[i]? = some (some (.ref b))) (hB : Bag H b) (hm : Er rI tm σ H m) (h : 0 < m ∧ m < 1000000) (k : ∀ (r : Int) H', C1 b H H' → Bag H' b → 0 ≤ r ∧ r < m → Q (.int r) H') :
    tCall (sp__law_draw K) [] E (tCons (tVar i) (tCons tm tNil)) σ H Q := by
  refine ⟨_, hσ, ?_⟩
  refine hm H (Ex.refl H) _ fun v H1 e1 r => ?_
  cases r
  exact ⟨b, m, rfl, hB.ex e1, h.1, h.2, fun r H' c B hr => k r H' ((C1.ex e1).trans c) B hr⟩
end

section
/-! ### the place of the first number that isn't 0 -/
def ordL (xs : List Int) : Nat := xs.findIdx fun x => !decide (x = 0)
def nzP (xs : List Int) : Prop := ∃ x ∈ xs, x ≠ 0
theorem enm_eq (xs : List Int) : enm xs = (List.range xs.length).map fun (i : Nat) => ((i : Int), (xs[i]?).getD 0) := by
  refine List.ext_getElem? fun i => ?_
  by_cases h : i < xs.length
  · rw [enm_get (List.getElem?_eq_getElem h), List.getElem?_map, List.getElem?_range h]
    simp [List.getElem?_eq_getElem h]
  · rw [List.getElem?_eq_none (by rw [enm_len]; omega), List.getElem?_eq_none (by simp; omega)]
theorem ord_lt {xs : List Int} (h : nzP xs) : ordL xs < xs.length := by
  obtain ⟨x, h1, h2⟩ := h
  exact List.findIdx_lt_length_of_exists ⟨x, h1, by simp [h2]⟩
theorem ord_find {xs : List Int} (h : nzP xs) : (List.range xs.length).find? (fun i => !decide ((xs[i]?).getD 0 = 0)) = some (ordL xs) := by
  have hl := ord_lt h
  rw [List.find?_range_eq_some]
  refine ⟨?_, List.mem_range.mpr hl, fun j hj => ?_⟩
  · rw [List.getElem?_eq_getElem hl]
    exact List.findIdx_getElem (p := fun x => !decide (x = 0)) (w := hl)
  · have hj2 : j < xs.length := Nat.lt_trans hj hl
    have := List.not_of_lt_findIdx (p := fun x => !decide (x = 0)) hj
    rw [List.getElem?_eq_getElem hj2]
    simpa using this
theorem gt0_head {ys : List Int} {a : Int} (h : ys.head? = some a) : gt0 (0 : Int) ys 0 = a ∧ 0 < ys.length := by
  cases ys with
  | nil => cases h
  | cons b r => cases h; exact ⟨rfl, Nat.succ_pos _⟩
theorem ordE {xs : List Int} (h : nzP xs) : gt0 (0 : Int) (((enm xs).filter fun x => !decide (x.2 = 0)).map fun x => x.1) 0 = (ordL xs : Int) ∧ 0 < (((enm xs).filter fun x => !decide (x.2 = 0)).map fun x => x.1).length := by
  refine gt0_head ?_
  rw [List.head?_map, List.head?_filter, enm_eq, List.find?_map]
  have e := ord_find h
  simp only [Function.comp_def]
  rw [e]
  rfl
theorem ordR {xs : List Int} (h : nzP xs) : gt0 (0 : Int) (((rng 0 (xs.length : Int)).filter fun i => !decide (gt0 (0 : Int) xs i = 0)).map fun i => i) 0 = (ordL xs : Int) ∧ 0 < (((rng 0 (xs.length : Int)).filter fun i => !decide (gt0 (0 : Int) xs i = 0)).map fun i => i).length := by
  refine gt0_head ?_
  rw [List.head?_map, List.head?_filter]
  unfold rng
  rw [List.find?_map, show ((xs.length : Int) - 0).toNat = xs.length by omega]
  have e := ord_find h
  simp only [Function.comp_def, Int.zero_add, gt0_nat]
  rw [e]
  rfl
end
section
def PwOk (pw : List (List Int)) : Prop := 0 < pw.length ∧ pw.length ≤ 4 ∧ (∀ a ∈ pw, a ≠ [] → nzP a ∧ a.length ≤ 1000) ∧ gt0 [] pw 0 ≠ []
theorem mem_cutL {α : Type} {xs : List α} {lo hi : Option Int} {i : Nat} {x : α} (h : (cutL xs lo hi)[i]? = some x) : x ∈ xs := List.mem_of_mem_drop (List.mem_of_mem_take (List.mem_of_getElem? h))
theorem cutL_one {α : Type} (xs : List α) : cutL xs (some 1) none = xs.drop 1 := cutL_lo 1
def mx2 (i j : Int) : Int := if j > i then j else i
def mn2 (i j : Int) : Int := if j < i then j else i
theorem er_mx2 {H : Hp} {σ : L2.St} {ta tb : TE} {i j : Int} (ha : Er rI ta σ H i) (hb : Er rI tb σ H j) : Er rI (tCB (fun xs H Q => ∃ i j, xs = [.int i, .int j] ∧ Q (.int (if j > i then j else i)) H) (tCons ta (tCons tb tNil))) σ H (mx2 i j) := er_max2 ha hb
theorem er_mn2 {H : Hp} {σ : L2.St} {ta tb : TE} {i j : Int} (ha : Er rI ta σ H i) (hb : Er rI tb σ H j) : Er rI (tCB (fun xs H Q => ∃ i j, xs = [.int i, .int j] ∧ Q (.int (if j < i then j else i)) H) (tCons ta (tCons tb tNil))) σ H (mn2 i j) := er_min2 ha hb
theorem PwOk.first {pw : List (List Int)} (h : PwOk pw) : nzP (gt0 [] pw 0) ∧ (gt0 [] pw 0).length ≤ 1000 := h.2.2.1 _ (List.mem_of_getElem? (gt0_some (d := ([] : List Int)) (i := 0) (by omega) (by have := h.1; omega))) h.2.2.2
theorem pw_small {p : Int} {i : Nat} (h : 2 ≤ p ∧ p ≤ 5) (hi : i < 3) : 1 < p ^ i * p ∧ p ^ i * p ≤ 625 := by
  have hp : p = 2 ∨ p = 3 ∨ p = 4 ∨ p = 5 := by omega
  have hii : i = 0 ∨ i = 1 ∨ i = 2 := by omega
  rcases hp with rfl | rfl | rfl | rfl <;> rcases hii with rfl | rfl | rfl <;> decide
theorem Pr.le {p : Int} (h : Pr p) : 2 ≤ p ∧ p ≤ 5 := by rcases h with rfl | rfl | rfl <;> decide
theorem pick3i {i : Int} (h : 0 ≤ i ∧ i < 3) : ∃ p, gt0 (0 : Int) [2, 3, 5] i = p ∧ Pr p := by
  have : i = 0 ∨ i = 1 ∨ i = 2 := by omega
  rcases this with rfl | rfl | rfl
  · exact ⟨2, rfl, .inl rfl⟩
  · exact ⟨3, rfl, .inr (.inl rfl)⟩
  · exact ⟨5, rfl, .inr (.inr rfl)⟩
theorem mm_b {n : Nat} {a b : Int} (ha : 0 ≤ a ∧ a < 1000 := by decide) (hb : 0 ≤ b ∧ b < 1000 := by decide) : -(2 ^ 62) ≤ mx2 a (mn2 b (n : Int)) ∧ mx2 a (mn2 b (n : Int)) < 2 ^ 62 := by
  unfold mx2 mn2
  split <;> split <;> omega
theorem mm_b2 {n : Nat} {a b : Int} (ha : 0 ≤ a ∧ a < 1000 := by decide) (hb : 0 ≤ b ∧ b < 1000 := by decide) : mx2 a (mn2 b (n : Int)) ≤ 1000 := by
  unfold mx2 mn2
  split <;> split <;> omega
theorem cutL_len {α : Type} (xs : List α) (lo hi : Option Int) : (cutL xs lo hi).length ≤ xs.length := by
  unfold cutL
  rw [List.length_take, List.length_drop]
  omega
/-- the greatest place that fits, and one more -/
theorem mxT {n : Nat} {c : Int → Bool} : ∃ m : Nat, mxD 0 (((rng 0 (n : Int)).filter c).map fun x => x + 1) = (m : Int) ∧ m ≤ n ∧ (m = 0 ∨ c ((m : Int) - 1) = true) := by
  cases hz : ((rng 0 (n : Int)).filter c).map fun x => x + 1 with
  | nil => exact ⟨0, rfl, Nat.zero_le _, .inl rfl⟩
  | cons a r =>
    have hm : mxD 0 (a :: r) ∈ a :: r := by
      show mxI a r ∈ a :: r
      rcases mxI_mem r a with h | h
      · rw [h]; exact List.mem_cons_self ..
      · exact List.mem_cons_of_mem _ h
    rw [← hz] at hm ⊢
    obtain ⟨k, hk, ek⟩ := List.mem_map.mp hm
    obtain ⟨hk1, hk2⟩ := List.mem_filter.mp hk
    obtain ⟨i, hi⟩ := List.getElem?_of_mem hk1
    have hr := rng_at hi
    refine ⟨(k + 1).toNat, by rw [← ek]; omega, by omega, .inr ?_⟩
    rw [show (((k + 1).toNat : Nat) : Int) - 1 = k by omega]
    exact hk2
theorem gt0_take_last {α : Type} {d : α} {xs : List α} {m : Nat} (hm : m ≤ xs.length) (h0 : 0 < m) : gt0 d (xs.take m) (-1) = gt0 d xs ((m : Int) - 1) := by
  have e : ((m : Int) - 1) = ((m - 1 : Nat) : Int) := by omega
  rw [e, gt0_nat]
  unfold gt0 ixs
  rw [if_neg (by omega), List.length_take, Nat.min_eq_left hm, show ((-1 : Int) + (m : Int)).toNat = m - 1 by omega, List.getElem?_take_of_lt (by omega)]
end
section
variable {P : Program} {w : World} {K : PySem.W.Frag} {mg : Str → Option Value} {base : Heap}
def sp_back_of (K : PySem.W.Frag) : Sp := fun vs H Q _ => ∃ (p : Int) (number : Int), (vs = [.int p, .int number]) ∧ (Pr p) ∧ (0 < number ∧ number < p) ∧ (∀ H', Ex H H' → Q (.int (bk p number)) H')
section
variable {K : PySem.W.Frag}
theorem gv_back_of {p : Int} {number : Int} (h0 : Pr p) (h1 : 0 < number ∧ number < p) : Gv (sp_back_of K) (Ac rI p (Ac rI number A0)) rI (bk p number) := by
  intro vs H1 hp Q E k
  obtain ⟨v0, w0, rfl, f0, hp⟩ := hp
  cases f0
  obtain ⟨v1, w1, rfl, f1, hp⟩ := hp
  cases f1
  cases hp
  exact ⟨_, _, rfl, h0, h1, fun H2 e => k _ H2 e rfl⟩
end
theorem ok_back_of {f : Addr} {fd : FuncData} (F : Fun K "back_of" "back_of" s_back_of f fd) (n_range : mg "range" = none) : FnOk P w K mg base CX0 1 f fd ["p", "number"] (sp_back_of K) := by
  refine F.ok sc_back_of (fun vs H Q E h => ?_) (fun cdv A outer s H vs Q E hr h => ?_)
  · obtain ⟨p, number, rfl, _⟩ := h; rfl
  · obtain ⟨p, number, rfl, hpre0, hpre1, q⟩ := h
    refine ⟨_, (pss_one (ps_ret (pe_ix (ix_listK K) (pe_lc (own := [("other", 2)]) (by rfl) sc_back_of.nd (pi_range1 (by rfl) n_range (pa_cons (pv 0) pa_nil)) (blkOk_by (own := [("other", 2)]) (N := ["p", "number", "other"]) (sc := defScope s_back_of) (by decide +kernel)) (fun _ _ _ _ _ => (pg_name (i := 2) sc_back_of.nd rfl (Or.inl rfl))) (fun _ _ _ _ _ => (pts_one (pt_cmpR op_eq (pe_op op_mod (pe_op op_mul (pv 1) (pv 2)) (pv 0)) pe_int (nomark _)))) (fun _ _ _ _ _ => (pv 2))) pe_int (fun _ _ => rfl)))), ?_⟩
    have F0 : Ex H H := Ex.refl H
    have hp := hpre0.le
    have hb := (bk_ok hpre0 hpre1).1
    refine s_ret (R := rI) (er_ixL0 (0 : Int) (El.er (K := K) (el_lcR1c (K := K) er_iv (by first | omega | assumption | (simp only [Bool.and_eq_true, Bool.or_eq_true, Bool.not_eq_true', Bool.and_eq_false_iff, Bool.or_eq_false_iff, Bool.not_eq_false', decide_eq_true_eq, decide_eq_false_iff_not, List.length_append, List.length_cons, List.length_nil, List.length_map, List.length_range, List.length_set, rng_len, enm_len, repL_len] at *; omega)) (fun _ => rfl) (fun x1 H1 e2 hx3 => (et_t (er_eqI (er_op (er_op er_iv er_iv (cmul_l (by omega))) er_iv (by omega)) er_int))) (fun x1 H1 e2 hx3 => fun hc4 => er_iv))) er_int (by omega) (Int.ofNat_lt.mpr hb)) fun v H' e r => ?_
    cases r
    have z := q _ (F0.trans e)
    exact z

def sp_trimmed_L (K : PySem.W.Frag) : Sp := fun vs H Q _ => ∃ (numbers : (List Int)) (p_numbers : Addr), (vs = [.ref p_numbers]) ∧ (Lt rI H p_numbers numbers) ∧ (∀ (v : V) H', Ex H H' → (rT K rI) H' (trimL numbers) v → Q v H')
def sp_trimmed_T (K : PySem.W.Frag) : Sp := fun vs H Q _ => ∃ (numbers : (List Int)) (v_numbers : V), (vs = [v_numbers]) ∧ ((rT K rI) H numbers v_numbers) ∧ (∀ (v : V) H', Ex H H' → (rT K rI) H' (trimL numbers) v → Q v H')
def sp_trimmed (K : PySem.W.Frag) : Sp := fun vs H Q E => sp_trimmed_L K vs H Q E ∨ sp_trimmed_T K vs H Q E
section
variable {K : PySem.W.Frag}
theorem gv_trimmed_L {numbers : (List Int)} : Gv (sp_trimmed K) (AcL rI numbers A0) (rT K rI) (trimL numbers) := by
  intro vs H1 hp Q E k
  obtain ⟨v0, w0, rfl, f0, hp⟩ := hp
  obtain ⟨p0, rfl, f0⟩ := f0
  cases hp
  exact .inl (⟨_, p0, rfl, f0, fun v H2 e r => k v H2 e r⟩)
theorem gv_trimmed_T {numbers : (List Int)} : Gv (sp_trimmed K) (Ac (rT K rI) numbers A0) (rT K rI) (trimL numbers) := by
  intro vs H1 hp Q E k
  obtain ⟨v0, w0, rfl, f0, hp⟩ := hp
  cases hp
  exact .inr (⟨_, v0, rfl, f0, fun v H2 e r => k v H2 e r⟩)
end
theorem ok_trimmed {f : Addr} {fd : FuncData} (F : Fun K "trimmed" "trimmed" s_trimmed f fd) (n_len : mg "len" = none) (n_tuple : mg "tuple" = none) : FnOk P w K mg base CX0 1 f fd ["numbers"] (sp_trimmed K) := by
  refine F.ok sc_trimmed (fun vs H Q E h => ?_) (fun cdv A outer s H vs Q E hr h => ?_)
  · rcases h with ⟨numbers, p_numbers, rfl, _⟩ | ⟨numbers, v_numbers, rfl, _⟩
    all_goals rfl
  · rcases h with h | h
    · obtain ⟨numbers, p_numbers, rfl, f_numbers, q⟩ := h
      refine ⟨_, (pss_cons (ps_set (i := 1) sc_trimmed.nd rfl (Or.inl rfl) (pe_callB (call_len_seqK K) (by rfl) n_len (by decide +kernel) (pa_cons (pv 0) pa_nil)))
 (pss_cons (ps_while PassesOwn.never (PW.pt (pw_and (pt_cmpR op_gt (pv 1) pe_int (nomark _)) (pw_and1 (pt_cmpR op_eq (pe_ix (ix_listK K) (pv 0) (pe_op op_sub (pv 1) pe_int) (fun _ _ => rfl)) pe_int (nomark _))))) (pss_one (ps_set (i := 1) sc_trimmed.nd rfl (Or.inl rfl) (pe_op op_sub (pv 1) pe_int))))
 (pss_one (ps_ret (pe_callTy (call_tuple_ofK K) (by rfl) n_tuple (by decide +kernel) (pa_cons (pe_slice (sl_listK K) (pv 0) po_none (po_some (pv 1))) pa_nil)))))), ?_⟩
      have F0 : Ex H H := Ex.refl H
      refine q_asgI (er_lenL (er_var rfl (Lt.rl f_numbers))) fun H1 e2 => ?_
      replace f_numbers := Lt.ex f_numbers e2
      replace F0 := F0.trans e2
      have k3 : Kt K _ _ := Kt.refl H1
      refine q_while (fun m σ' H' => ∃ (k1_ : Nat) (s1 : Int), m = s1.toNat ∧ (0 ≤ s1 ∧ s1 ≤ (numbers.length : Int)) ∧ (trimL (numbers.take s1.toNat) = trimL numbers) ∧ σ' = [some (.ref p_numbers), some (.int s1)] ∧ Ex H H' ∧ Kt K H1 H' ∧ Lt rI H' p_numbers numbers) _ ⟨0, ((numbers.length : Int)), rfl, ⟨by omega, by omega⟩, (by rw [Int.toNat_natCast, List.take_length]), rfl, F0, k3, f_numbers⟩ ?_
      rintro _ _ H4 ⟨k1_, s1, rfl, hw1_0, hw1_1, rfl, F0, k3, f_numbers⟩
      refine ⟨_, (et_and (et_t (er_cmp er_iv er_int)) fun hc5 => (et_t (er_eqI (er_ixL0 (0 : Int) (er_var rfl (Lt.rl f_numbers)) (er_op0 er_iv er_int) (by first | omega | assumption | (simp; omega) | (simp only [Bool.and_eq_true, Bool.or_eq_true, Bool.not_eq_true', Bool.and_eq_false_iff, Bool.or_eq_false_iff, Bool.not_eq_false', decide_eq_true_eq, decide_eq_false_iff_not, List.length_append, List.length_cons, List.length_nil, List.length_map, List.length_range, List.length_set, rng_len, enm_len, repL_len] at *; omega)) (by first | omega | assumption | (simp; omega) | (simp only [Bool.and_eq_true, Bool.or_eq_true, Bool.not_eq_true', Bool.and_eq_false_iff, Bool.or_eq_false_iff, Bool.not_eq_false', decide_eq_true_eq, decide_eq_false_iff_not, List.length_append, List.length_cons, List.length_nil, List.length_map, List.length_range, List.length_set, rng_len, enm_len, repL_len] at *; omega))) er_int))), fun hb_1 H7 e6 => ?_, fun hb_1 H7 e6 => ?_⟩
      ·
        have hb_1' := hb_1
        try simp only [Bool.and_eq_true, Bool.or_eq_true, Bool.not_eq_true', Bool.and_eq_false_iff, Bool.or_eq_false_iff, Bool.not_eq_false', decide_eq_true_eq, decide_eq_false_iff_not] at hb_1'
        replace f_numbers := Lt.ex f_numbers e6
        replace F0 := F0.trans e6
        replace k3 := k3.trans (Kt.ex e6)
        refine ⟨fun σ2 H2 => ∃ m', m' < s1.toNat ∧ (fun m σ' H' => ∃ (k1_ : Nat) (s1 : Int), m = s1.toNat ∧ (0 ≤ s1 ∧ s1 ≤ (numbers.length : Int)) ∧ (trimL (numbers.take s1.toNat) = trimL numbers) ∧ σ' = [some (.ref p_numbers), some (.int s1)] ∧ Ex H H' ∧ Kt K H1 H' ∧ Lt rI H' p_numbers numbers) m' σ2 H2, fun _ _ h => h, ?_⟩
        refine s_asgI (er_op0 er_iv er_int) fun H8 e9 => ?_
        replace f_numbers := Lt.ex f_numbers e9
        replace F0 := F0.trans e9
        replace k3 := k3.trans (Kt.ex e9)
        exact ⟨(((s1 - (1 : Int)))).toNat, (by omega), ⟨k1_ + 1, ((s1 - (1 : Int))), rfl, ⟨by omega, by omega⟩, (trim_step hw1_1 (by omega) (by omega) hb_1'.2), rfl, F0, k3, f_numbers⟩⟩
      have hb_1' := hb_1
      try simp only [Bool.and_eq_true, Bool.or_eq_true, Bool.not_eq_true', Bool.and_eq_false_iff, Bool.or_eq_false_iff, Bool.not_eq_false', decide_eq_true_eq, decide_eq_false_iff_not] at hb_1'
      replace f_numbers := Lt.ex f_numbers e6
      replace F0 := F0.trans e6
      replace k3 := k3.trans (Kt.ex e6)
      refine s_ret (R := (rT K rI)) (er_tupL (El.er (K := K) (el_sl (er_var rfl (Lt.rl f_numbers)) eo0 (eo1 er_iv)))) fun v H' e r => ?_
      exact q v H' (F0.trans e) (by rw [show trimL numbers = _ from (trim_end hw1_0.1 hw1_1 hw1_0.2 hb_1').symm]; exact r)
    · obtain ⟨numbers, v_numbers, rfl, f_numbers, q⟩ := h
      refine ⟨_, (pss_cons (ps_set (i := 1) sc_trimmed.nd rfl (Or.inl rfl) (pe_callB (call_len_seqK K) (by rfl) n_len (by decide +kernel) (pa_cons (pv 0) pa_nil)))
 (pss_cons (ps_while PassesOwn.never (PW.pt (pw_and (pt_cmpR op_gt (pv 1) pe_int (nomark _)) (pw_and1 (pt_cmpR op_eq (pe_ix (ix_tupK K) (pv 0) (pe_op op_sub (pv 1) pe_int) (fun _ _ => rfl)) pe_int (nomark _))))) (pss_one (ps_set (i := 1) sc_trimmed.nd rfl (Or.inl rfl) (pe_op op_sub (pv 1) pe_int))))
 (pss_one (ps_ret (pe_callTy (call_tuple_ofK K) (by rfl) n_tuple (by decide +kernel) (pa_cons (pe_slice (sl_tupAK K) (pv 0) po_none (po_some (pv 1))) pa_nil)))))), ?_⟩
      have F0 : Ex H H := Ex.refl H
      refine q_asgI (er_lenT (er_var rfl f_numbers)) fun H1 e2 => ?_
      replace f_numbers := Me.ex e2 f_numbers
      replace F0 := F0.trans e2
      have k3 : Kt K _ _ := Kt.refl H1
      refine q_while (fun m σ' H' => ∃ (k1_ : Nat) (s1 : Int), m = s1.toNat ∧ (0 ≤ s1 ∧ s1 ≤ (numbers.length : Int)) ∧ (trimL (numbers.take s1.toNat) = trimL numbers) ∧ σ' = [some v_numbers, some (.int s1)] ∧ Ex H H' ∧ Kt K H1 H') _ ⟨0, ((numbers.length : Int)), rfl, ⟨by omega, by omega⟩, (by rw [Int.toNat_natCast, List.take_length]), rfl, F0, k3⟩ ?_
      rintro _ _ H4 ⟨k1_, s1, rfl, hw1_0, hw1_1, rfl, F0, k3⟩
      replace f_numbers := Mkt.kt k3 f_numbers
      refine ⟨_, (et_and (et_t (er_cmp er_iv er_int)) fun hc5 => (et_t (er_eqI (er_ixT0 (0 : Int) (er_var rfl f_numbers) (er_op0 er_iv er_int) (by first | omega | assumption | (simp; omega) | (simp only [Bool.and_eq_true, Bool.or_eq_true, Bool.not_eq_true', Bool.and_eq_false_iff, Bool.or_eq_false_iff, Bool.not_eq_false', decide_eq_true_eq, decide_eq_false_iff_not, List.length_append, List.length_cons, List.length_nil, List.length_map, List.length_range, List.length_set, rng_len, enm_len, repL_len] at *; omega)) (by first | omega | assumption | (simp; omega) | (simp only [Bool.and_eq_true, Bool.or_eq_true, Bool.not_eq_true', Bool.and_eq_false_iff, Bool.or_eq_false_iff, Bool.not_eq_false', decide_eq_true_eq, decide_eq_false_iff_not, List.length_append, List.length_cons, List.length_nil, List.length_map, List.length_range, List.length_set, rng_len, enm_len, repL_len] at *; omega))) er_int))), fun hb_1 H7 e6 => ?_, fun hb_1 H7 e6 => ?_⟩
      ·
        have hb_1' := hb_1
        try simp only [Bool.and_eq_true, Bool.or_eq_true, Bool.not_eq_true', Bool.and_eq_false_iff, Bool.or_eq_false_iff, Bool.not_eq_false', decide_eq_true_eq, decide_eq_false_iff_not] at hb_1'
        replace f_numbers := Me.ex e6 f_numbers
        replace F0 := F0.trans e6
        replace k3 := k3.trans (Kt.ex e6)
        refine ⟨fun σ2 H2 => ∃ m', m' < s1.toNat ∧ (fun m σ' H' => ∃ (k1_ : Nat) (s1 : Int), m = s1.toNat ∧ (0 ≤ s1 ∧ s1 ≤ (numbers.length : Int)) ∧ (trimL (numbers.take s1.toNat) = trimL numbers) ∧ σ' = [some v_numbers, some (.int s1)] ∧ Ex H H' ∧ Kt K H1 H') m' σ2 H2, fun _ _ h => h, ?_⟩
        refine s_asgI (er_op0 er_iv er_int) fun H8 e9 => ?_
        replace f_numbers := Me.ex e9 f_numbers
        replace F0 := F0.trans e9
        replace k3 := k3.trans (Kt.ex e9)
        exact ⟨(((s1 - (1 : Int)))).toNat, (by omega), ⟨k1_ + 1, ((s1 - (1 : Int))), rfl, ⟨by omega, by omega⟩, (trim_step hw1_1 (by omega) (by omega) hb_1'.2), rfl, F0, k3⟩⟩
      have hb_1' := hb_1
      try simp only [Bool.and_eq_true, Bool.or_eq_true, Bool.not_eq_true', Bool.and_eq_false_iff, Bool.or_eq_false_iff, Bool.not_eq_false', decide_eq_true_eq, decide_eq_false_iff_not] at hb_1'
      replace f_numbers := Me.ex e6 f_numbers
      replace F0 := F0.trans e6
      replace k3 := k3.trans (Kt.ex e6)
      refine s_ret (R := (rT K rI)) (er_tupT (er_slT (er_var rfl f_numbers) eo0 (eo1 er_iv))) fun v H' e r => ?_
      exact q v H' (F0.trans e) (by rw [show trimL numbers = _ from (trim_end hw1_0.1 hw1_1 hw1_0.2 hb_1').symm]; exact r)

def st_added_1 (p : Int) (one : (List Int)) (other : (List Int)) (often : Int) : (List Int) → (Int × Int) → (List Int) := fun s1 x1 => ((s1.set (ixs s1.length x1.1) (((gt0 (0 : Int) s1 x1.1) + (often * x1.2)) % p)))
def m_added (p : Int) (one : (List Int)) (other : (List Int)) (often : Int) : (List Int) := ((trimL (List.foldl (st_added_1 p one other often) ((one ++ (repL ([(0 : Int)] : List Int) ((other.length : Int) - (one.length : Int))))) ((enm other)))))
def sp_added (K : PySem.W.Frag) : Sp := fun vs H Q _ => ∃ (p : Int) (one : (List Int)) (other : (List Int)) (often : Int) (v_one : V) (v_other : V), (vs = [.int p, v_one, v_other, .int often]) ∧ ((rT K rI) H one v_one) ∧ ((rT K rI) H other v_other) ∧ (2 ≤ p ∧ p ≤ 5) ∧ (one.length ≤ 50000) ∧ (Nms p other) ∧ (other.length ≤ 50000) ∧ (∀ (v : V) H', Ex H H' → (rT K rI) H' (m_added p one other often) v → Q v H')
section
variable {K : PySem.W.Frag}
theorem gv_added {p : Int} {one : (List Int)} {other : (List Int)} {often : Int} (h0 : 2 ≤ p ∧ p ≤ 5) (h1 : one.length ≤ 50000) (h2 : Nms p other) (h3 : other.length ≤ 50000) : Gv (sp_added K) (Ac rI p (Ac (rT K rI) one (Ac (rT K rI) other (Ac rI often A0)))) (rT K rI) (m_added p one other often) := by
  intro vs H1 hp Q E k
  obtain ⟨v0, w0, rfl, f0, hp⟩ := hp
  cases f0
  obtain ⟨v1, w1, rfl, f1, hp⟩ := hp
  obtain ⟨v2, w2, rfl, f2, hp⟩ := hp
  obtain ⟨v3, w3, rfl, f3, hp⟩ := hp
  cases f3
  cases hp
  exact ⟨_, _, _, _, v1, v2, rfl, f1, f2, h0, h1, h2, h3, fun v H2 e r => k v H2 e r⟩
end
theorem ok_added {f : Addr} {fd : FuncData} (F : Fun K "added" "added" s_added f fd) (n_enumerate : mg "enumerate" = none) (D_trimmed : Df P w K mg base CX0 1 "trimmed" ["numbers"] (sp_trimmed K)) (n_list : mg "list" = none) (n_len : mg "len" = none) : FnOk P w K mg base CX0 2 f fd ["p", "one", "other", "often"] (sp_added K) := by
  refine F.ok sc_added (fun vs H Q E h => ?_) (fun cdv A outer s H vs Q E hr h => ?_)
  · obtain ⟨p, one, other, often, v_one, v_other, rfl, _⟩ := h; rfl
  · obtain ⟨p, one, other, often, v_one, v_other, rfl, f_one, f_other, hpre0, hpre1, hpre2, hpre3, q⟩ := h
    refine ⟨_, (pss_cons (ps_set (i := 4) sc_added.nd rfl (Or.inl rfl) (pe_op op_cat (pe_callTy (call_list_ofK K) (by rfl) n_list (by decide +kernel) (pa_cons (pv 1) pa_nil)) (pe_op op_rep (pe_lst (pa_cons pe_int pa_nil)) (pe_op op_sub (pe_callB (call_len_seqK K) (by rfl) n_len (by decide +kernel) (pa_cons (pv 2) pa_nil)) (pe_callB (call_len_seqK K) (by rfl) n_len (by decide +kernel) (pa_cons (pv 1) pa_nil))))))
 (pss_cons (ps_for PassesOwn.never rfl (pi_enumTK K (by rfl) n_enumerate (pa_cons (pv 2) pa_nil)) (pg_tupK K 2 rfl (pgs_cons (pg_name (i := 5) sc_added.nd rfl (Or.inl rfl)) (pgs_cons (pg_name (i := 6) sc_added.nd rfl (Or.inl rfl)) pgs_nil)))
 (pss_one (ps_asg (pe_op op_mod (pe_op op_add (pe_ix (ix_listK K) (pv 4) (pv 5) (fun _ _ => rfl)) (pe_op op_mul (pv 3) (pv 6))) (pv 0)) (pg_sub (pv 4) (pv 5) set_list))))
 (pss_one (ps_ret (pe_call D_trimmed.ok (hr.mono (by omega)) (by rfl) D_trimmed.g D_trimmed.kp D_trimmed.b .nil pass0 (pa_cons (pv 4) pa_nil)))))), ?_⟩
    have F0 : Ex H H := Ex.refl H
    refine q_asgL (el_catW (El.ew (el_listT (er_var rfl f_one))) (El.ew (el_rep (el_lst (R := rI) (eas er_int eas0) (by first | decide | simp)) (er_op0 (er_lenT (er_var rfl f_other)) (er_lenT (er_var rfl f_one))) (by first | omega | assumption | (simp only [Bool.and_eq_true, Bool.or_eq_true, Bool.not_eq_true', Bool.and_eq_false_iff, Bool.or_eq_false_iff, Bool.not_eq_false', decide_eq_true_eq, decide_eq_false_iff_not, List.length_append, List.length_cons, List.length_nil, List.length_map, List.length_range, List.length_set, rng_len, enm_len, repL_len] at *; omega)) (by first | omega | assumption | (simp only [Bool.and_eq_true, Bool.or_eq_true, Bool.not_eq_true', Bool.and_eq_false_iff, Bool.or_eq_false_iff, Bool.not_eq_false', decide_eq_true_eq, decide_eq_false_iff_not, List.length_append, List.length_cons, List.length_nil, List.length_map, List.length_range, List.length_set, rng_len, enm_len, repL_len] at *; omega)))) (by first | omega | assumption | (simp only [Bool.and_eq_true, Bool.or_eq_true, Bool.not_eq_true', Bool.and_eq_false_iff, Bool.or_eq_false_iff, Bool.not_eq_false', decide_eq_true_eq, decide_eq_false_iff_not, List.length_append, List.length_cons, List.length_nil, List.length_map, List.length_range, List.length_set, rng_len, enm_len, repL_len] at *; omega))) fun p3 H1 n4 e2 l5 => ?_
    have n0p3 : _ = none := fresh_back F0 n4
    replace f_one := Me.ex e2 f_one
    replace f_other := Me.ex e2 f_other
    replace F0 := F0.trans e2
    refine q_forET (er_var rfl f_other) fun v8 H6 e7 r9 => ?_
    replace f_one := Me.ex e7 f_one
    replace f_other := Me.ex e7 f_other
    replace l5 := Lt.ex l5 e7
    replace F0 := F0.trans e7
    have k10 : Kt K _ _ := Kt.refl H6
    refine fq_ETI r9 (fun i σ' H' => ∃ (s1 : (List Int)) (j11 : Option V) (j12 : Option V), s1 = List.foldl (st_added_1 p one other often) ((one ++ (repL ([(0 : Int)] : List Int) ((other.length : Int) - (one.length : Int))))) (List.take i ((enm other))) ∧ (s1.length = one.length + (other.length - one.length)) ∧ σ' = [some (.int p), some v_one, some v_other, some (.int often), some (.ref p3), j11, j12] ∧ Ex H H' ∧ Kt K H6 H' ∧ Lt rI H' p3 s1) ?_ ?_ ?_ ?_
    · exact ⟨((one ++ (repL ([(0 : Int)] : List Int) ((other.length : Int) - (one.length : Int))))), _, _, rfl, (by rw [List.length_append, repL_len]; simp only [List.length_cons, List.length_nil]; omega), rfl, F0, k10, l5⟩
    · intro i σ' H' hi h; obtain ⟨s1, j11, j12, hs1, hp1_0, rfl, F0, k10, l5⟩ := h; exact Mkt.kt k10 r9
    ·
      rintro i x1  _ H13 H14 hi hx1 ⟨s1, j11, j12, hs1, hp1_0, rfl, F0, k10, l5⟩ e15
      replace f_one := Mkt.kt k10 f_one
      replace f_other := Mkt.kt k10 f_other
      replace f_one := Me.ex e15 f_one
      replace f_other := Me.ex e15 f_other
      replace l5 := Lt.ex l5 e15
      replace F0 := F0.trans e15
      replace k10 := k10.trans (Kt.ex e15)
      have hr1 := enm_at hx1
      have hn := hpre2 _ (List.mem_of_getElem? (enm_at hx1).2)
      refine s_set (K := K) (j := 4) l5 rfl (er_op (er_op0 (er_ixL0 (0 : Int) (er_var rfl (Lt.rl l5)) er_iv (by first | omega | assumption | (simp; omega) | (simp only [Bool.and_eq_true, Bool.or_eq_true, Bool.not_eq_true', Bool.and_eq_false_iff, Bool.or_eq_false_iff, Bool.not_eq_false', decide_eq_true_eq, decide_eq_false_iff_not, List.length_append, List.length_cons, List.length_nil, List.length_map, List.length_range, List.length_set, rng_len, enm_len, repL_len] at *; omega)) (by first | omega | assumption | (simp; omega) | (simp only [Bool.and_eq_true, Bool.or_eq_true, Bool.not_eq_true', Bool.and_eq_false_iff, Bool.or_eq_false_iff, Bool.not_eq_false', decide_eq_true_eq, decide_eq_false_iff_not, List.length_append, List.length_cons, List.length_nil, List.length_map, List.length_range, List.length_set, rng_len, enm_len, repL_len] at *; omega))) (er_op er_iv er_iv (cmul_r (by omega)))) er_iv (by omega)) er_iv (by first | omega | assumption | (simp; omega) | (simp only [Bool.and_eq_true, Bool.or_eq_true, Bool.not_eq_true', Bool.and_eq_false_iff, Bool.or_eq_false_iff, Bool.not_eq_false', decide_eq_true_eq, decide_eq_false_iff_not, List.length_append, List.length_cons, List.length_nil, List.length_map, List.length_range, List.length_set, rng_len, enm_len, repL_len] at *; omega)) (by first | omega | assumption | (simp; omega) | (simp only [Bool.and_eq_true, Bool.or_eq_true, Bool.not_eq_true', Bool.and_eq_false_iff, Bool.or_eq_false_iff, Bool.not_eq_false', decide_eq_true_eq, decide_eq_false_iff_not, List.length_append, List.length_cons, List.length_nil, List.length_map, List.length_range, List.length_set, rng_len, enm_len, repL_len] at *; omega)) fun H16 c17 l18 => ?_
      have kt19 : Kt K _ _ := Lt.kt l5 c17
      replace k10 := k10.trans kt19
      replace f_one := Mkt.kt kt19 f_one
      replace f_other := Mkt.kt kt19 f_other
      replace F0 := C1.ofNew F0 n0p3 c17
      exact ⟨st_added_1 p one other often s1 x1, _, _, fold_snoc hs1 hx1, (by rw [← hp1_0]; exact List.length_set), rfl, F0, k10, l18⟩
    rintro _ H20 ⟨s1, j11, j12, hs1, hp1_0, rfl, F0, k10, l5⟩
    rw [take_all] at hs1; subst hs1
    replace f_one := Mkt.kt k10 f_one
    replace f_other := Mkt.kt k10 f_other
    refine s_ret (R := (rT K rI)) (er_call (eacO rfl l5 ea0) (gv_trimmed_L )) fun v H' e r => ?_
    exact q v H' (F0.trans e) (by exact r)

def st_multiplied_2 (p : Int) (one : (List Int)) (other : (List Int)) (s1 : (List Int)) (x1 : (Int × Int)) : (List Int) → (Int × Int) → (List Int) := fun s2 x2 => ((s2.set (ixs s2.length (x1.1 + x2.1)) (((gt0 (0 : Int) s2 (x1.1 + x2.1)) + (x1.2 * x2.2)) % p)))
def st_multiplied_1 (p : Int) (one : (List Int)) (other : (List Int)) : (List Int) → (Int × Int) → (List Int) := fun s1 x1 => ((List.foldl (st_multiplied_2 p one other s1 x1) (s1) ((enm other))))
def m_multiplied (p : Int) (one : (List Int)) (other : (List Int)) : (List Int) := ((trimL (List.foldl (st_multiplied_1 p one other) ((repL ([(0 : Int)] : List Int) ((one.length : Int) + (other.length : Int)))) ((enm one)))))
def sp_multiplied (K : PySem.W.Frag) : Sp := fun vs H Q _ => ∃ (p : Int) (one : (List Int)) (other : (List Int)) (v_one : V) (v_other : V), (vs = [.int p, v_one, v_other]) ∧ ((rT K rI) H one v_one) ∧ ((rT K rI) H other v_other) ∧ (2 ≤ p ∧ p ≤ 5) ∧ (Nms p one) ∧ (one.length ≤ 50000) ∧ (Nms p other) ∧ (other.length ≤ 50000) ∧ (∀ (v : V) H', Ex H H' → (rT K rI) H' (m_multiplied p one other) v → Q v H')
section
variable {K : PySem.W.Frag}
theorem gv_multiplied {p : Int} {one : (List Int)} {other : (List Int)} (h0 : 2 ≤ p ∧ p ≤ 5) (h1 : Nms p one) (h2 : one.length ≤ 50000) (h3 : Nms p other) (h4 : other.length ≤ 50000) : Gv (sp_multiplied K) (Ac rI p (Ac (rT K rI) one (Ac (rT K rI) other A0))) (rT K rI) (m_multiplied p one other) := by
  intro vs H1 hp Q E k
  obtain ⟨v0, w0, rfl, f0, hp⟩ := hp
  cases f0
  obtain ⟨v1, w1, rfl, f1, hp⟩ := hp
  obtain ⟨v2, w2, rfl, f2, hp⟩ := hp
  cases hp
  exact ⟨_, _, _, v1, v2, rfl, f1, f2, h0, h1, h2, h3, h4, fun v H2 e r => k v H2 e r⟩
end
theorem ok_multiplied {f : Addr} {fd : FuncData} (F : Fun K "multiplied" "multiplied" s_multiplied f fd) (n_enumerate : mg "enumerate" = none) (D_trimmed : Df P w K mg base CX0 1 "trimmed" ["numbers"] (sp_trimmed K)) (n_len : mg "len" = none) : FnOk P w K mg base CX0 2 f fd ["p", "one", "other"] (sp_multiplied K) := by
  refine F.ok sc_multiplied (fun vs H Q E h => ?_) (fun cdv A outer s H vs Q E hr h => ?_)
  · obtain ⟨p, one, other, v_one, v_other, rfl, _⟩ := h; rfl
  · obtain ⟨p, one, other, v_one, v_other, rfl, f_one, f_other, hpre0, hpre1, hpre2, hpre3, hpre4, q⟩ := h
    refine ⟨_, (pss_cons (ps_set (i := 3) sc_multiplied.nd rfl (Or.inl rfl) (pe_op op_rep (pe_lst (pa_cons pe_int pa_nil)) (pe_op op_add (pe_callB (call_len_seqK K) (by rfl) n_len (by decide +kernel) (pa_cons (pv 1) pa_nil)) (pe_callB (call_len_seqK K) (by rfl) n_len (by decide +kernel) (pa_cons (pv 2) pa_nil)))))
 (pss_cons (ps_for PassesOwn.never rfl (pi_enumTK K (by rfl) n_enumerate (pa_cons (pv 1) pa_nil)) (pg_tupK K 2 rfl (pgs_cons (pg_name (i := 4) sc_multiplied.nd rfl (Or.inl rfl)) (pgs_cons (pg_name (i := 5) sc_multiplied.nd rfl (Or.inl rfl)) pgs_nil)))
 (pss_one (ps_for PassesOwn.never rfl (pi_enumTK K (by rfl) n_enumerate (pa_cons (pv 2) pa_nil)) (pg_tupK K 2 rfl (pgs_cons (pg_name (i := 6) sc_multiplied.nd rfl (Or.inl rfl)) (pgs_cons (pg_name (i := 7) sc_multiplied.nd rfl (Or.inl rfl)) pgs_nil)))
 (pss_one (ps_asg (pe_op op_mod (pe_op op_add (pe_ix (ix_listK K) (pv 3) (pe_op op_add (pv 4) (pv 6)) (fun _ _ => rfl)) (pe_op op_mul (pv 5) (pv 7))) (pv 0)) (pg_sub (pv 3) (pe_op op_add (pv 4) (pv 6)) set_list))))))
 (pss_one (ps_ret (pe_call D_trimmed.ok (hr.mono (by omega)) (by rfl) D_trimmed.g D_trimmed.kp D_trimmed.b .nil pass0 (pa_cons (pv 3) pa_nil)))))), ?_⟩
    have F0 : Ex H H := Ex.refl H
    refine q_asgL (el_rep (el_lst (R := rI) (eas er_int eas0) (by first | decide | simp)) (er_op0 (er_lenT (er_var rfl f_one)) (er_lenT (er_var rfl f_other))) (by first | omega | assumption | (simp only [Bool.and_eq_true, Bool.or_eq_true, Bool.not_eq_true', Bool.and_eq_false_iff, Bool.or_eq_false_iff, Bool.not_eq_false', decide_eq_true_eq, decide_eq_false_iff_not, List.length_append, List.length_cons, List.length_nil, List.length_map, List.length_range, List.length_set, rng_len, enm_len, repL_len] at *; omega)) (by first | omega | assumption | (simp only [Bool.and_eq_true, Bool.or_eq_true, Bool.not_eq_true', Bool.and_eq_false_iff, Bool.or_eq_false_iff, Bool.not_eq_false', decide_eq_true_eq, decide_eq_false_iff_not, List.length_append, List.length_cons, List.length_nil, List.length_map, List.length_range, List.length_set, rng_len, enm_len, repL_len] at *; omega))) fun p3 H1 n4 e2 l5 => ?_
    have n0p3 : _ = none := fresh_back F0 n4
    replace f_one := Me.ex e2 f_one
    replace f_other := Me.ex e2 f_other
    replace F0 := F0.trans e2
    refine q_forET (er_var rfl f_one) fun v8 H6 e7 r9 => ?_
    replace f_one := Me.ex e7 f_one
    replace f_other := Me.ex e7 f_other
    replace l5 := Lt.ex l5 e7
    replace F0 := F0.trans e7
    have k10 : Kt K _ _ := Kt.refl H6
    refine fq_ETI r9 (fun i σ' H' => ∃ (s1 : (List Int)) (j11 : Option V) (j12 : Option V) (j13 : Option V) (j14 : Option V), s1 = List.foldl (st_multiplied_1 p one other) ((repL ([(0 : Int)] : List Int) ((one.length : Int) + (other.length : Int)))) (List.take i ((enm one))) ∧ (s1.length = one.length + other.length) ∧ σ' = [some (.int p), some v_one, some v_other, some (.ref p3), j11, j12, j13, j14] ∧ Ex H H' ∧ Kt K H6 H' ∧ Lt rI H' p3 s1) ?_ ?_ ?_ ?_
    · exact ⟨((repL ([(0 : Int)] : List Int) ((one.length : Int) + (other.length : Int)))), _, _, _, _, rfl, (by rw [repL_len]; simp only [List.length_cons, List.length_nil]; omega), rfl, F0, k10, l5⟩
    · intro i σ' H' hi h; obtain ⟨s1, j11, j12, j13, j14, hs1, hp1_0, rfl, F0, k10, l5⟩ := h; exact Mkt.kt k10 r9
    ·
      rintro i x1  _ H15 H16 hi hx1 ⟨s1, j11, j12, j13, j14, hs1, hp1_0, rfl, F0, k10, l5⟩ e17
      replace f_one := Mkt.kt k10 f_one
      replace f_other := Mkt.kt k10 f_other
      replace f_one := Me.ex e17 f_one
      replace f_other := Me.ex e17 f_other
      replace l5 := Lt.ex l5 e17
      replace F0 := F0.trans e17
      replace k10 := k10.trans (Kt.ex e17)
      have hr1 := enm_at hx1
      have hn := hpre1 _ (List.mem_of_getElem? (enm_at hx1).2)
      refine s_forET (er_var rfl f_other) fun v20 H18 e19 r21 => ?_
      replace f_one := Me.ex e19 f_one
      replace f_other := Me.ex e19 f_other
      replace l5 := Lt.ex l5 e19
      replace F0 := F0.trans e19
      replace k10 := k10.trans (Kt.ex e19)
      have k22 : Kt K _ _ := Kt.refl H18
      refine fl_ETI r21 (fun i σ' H' => ∃ (s2 : (List Int)) (j23 : Option V) (j24 : Option V), s2 = List.foldl (st_multiplied_2 p one other s1 x1) (s1) (List.take i ((enm other))) ∧ (s2.length = one.length + other.length) ∧ σ' = [some (.int p), some v_one, some v_other, some (.ref p3), some (.int x1.1), some (.int x1.2), j23, j24] ∧ Ex H H' ∧ Kt K H18 H' ∧ Lt rI H' p3 s2) ?_ ?_ ?_ ?_
      · exact ⟨(s1), _, _, rfl, (by assumption), rfl, F0, k22, l5⟩
      · intro i σ' H' hi h; obtain ⟨s2, j23, j24, hs2, hp2_0, rfl, F0, k22, l5⟩ := h; exact Mkt.kt k22 r21
      ·
        rintro i x2  _ H25 H26 hi hx2 ⟨s2, j23, j24, hs2, hp2_0, rfl, F0, k22, l5⟩ e27
        replace f_one := Mkt.kt k22 f_one
        replace f_other := Mkt.kt k22 f_other
        replace k10 := k10.trans k22
        replace f_one := Me.ex e27 f_one
        replace f_other := Me.ex e27 f_other
        replace l5 := Lt.ex l5 e27
        replace F0 := F0.trans e27
        replace k22 := k22.trans (Kt.ex e27)
        replace k10 := k10.trans (Kt.ex e27)
        have hr2 := enm_at hx2
        have hm := hpre3 _ (List.mem_of_getElem? (enm_at hx2).2)
        have hr3 := (List.getElem?_eq_some_iff.mp (enm_at hx1).2).1
        have hr4 := (List.getElem?_eq_some_iff.mp (enm_at hx2).2).1
        refine s_set (K := K) (j := 3) l5 rfl (er_op (er_op0 (er_ixL0 (0 : Int) (er_var rfl (Lt.rl l5)) (er_op0 er_iv er_iv) (by omega) (by omega)) (er_op er_iv er_iv (cmul_l (by omega)))) er_iv (by omega)) (er_op0 er_iv er_iv) (by omega) (by omega) fun H28 c29 l30 => ?_
        have kt31 : Kt K _ _ := Lt.kt l5 c29
        replace k22 := k22.trans kt31
        replace k10 := k10.trans kt31
        replace f_one := Mkt.kt kt31 f_one
        replace f_other := Mkt.kt kt31 f_other
        replace F0 := C1.ofNew F0 n0p3 c29
        exact ⟨st_multiplied_2 p one other s1 x1 s2 x2, _, _, fold_snoc hs2 hx2, (by rw [← hp2_0]; exact List.length_set), rfl, F0, k22, l30⟩
      rintro _ H32 ⟨s2, j23, j24, hs2, hp2_0, rfl, F0, k22, l5⟩
      rw [take_all] at hs2; subst hs2
      replace f_one := Mkt.kt k22 f_one
      replace f_other := Mkt.kt k22 f_other
      replace k10 := k10.trans k22
      exact ⟨st_multiplied_1 p one other s1 x1, _, _, _, _, fold_snoc hs1 hx1, (by assumption), rfl, F0, k10, l5⟩
    rintro _ H33 ⟨s1, j11, j12, j13, j14, hs1, hp1_0, rfl, F0, k10, l5⟩
    rw [take_all] at hs1; subst hs1
    replace f_one := Mkt.kt k10 f_one
    replace f_other := Mkt.kt k10 f_other
    refine s_ret (R := (rT K rI)) (er_call (eacO rfl l5 ea0) (gv_trimmed_L )) fun v H' e r => ?_
    exact q v H' (F0.trans e) (by exact r)

end
section
/-! ### added, multiplied: as series -/
variable {p : Int}
theorem pad_ser (one : List Int) (k : Int) : ser p (one ++ repL ([(0 : Int)] : List Int) k) = ser p one := by
  rw [repL_one, ser_app0]
theorem pad_nms (hp : 0 < p) {one : List Int} (h : Nms p one) (k : Int) : Nms p (one ++ repL ([(0 : Int)] : List Int) k) := by
  rw [repL_one]; exact nms_app h (nms_rep0 hp _)
theorem added_all (hp : 0 < p) {one other : List Int} {k : Int} (h1 : Nms p one) : Pol p (m_added p one other k) ∧ ser p (m_added p one other k) = ser p one + Ser.c (zp p k) * ser p other ∧ (m_added p one other k).length ≤ max one.length other.length := by
  have hl : (one ++ repL ([(0 : Int)] : List Int) ((other.length : Int) - (one.length : Int))).length = max one.length other.length := by
    rw [List.length_append, repL_len]; simp only [List.length_cons, List.length_nil]; omega
  obtain ⟨i1, i2, i3⟩ := fold_add (p := p) (k := 0) (c := k) (st := st_added_1 p one other k) hp (fun s x => by unfold st_added_1; rw [show ((0 : Nat) : Int) + x.1 = x.1 by omega]) other _ (pad_nms hp h1 ((other.length : Int) - (one.length : Int))) (by rw [hl]; omega)
  unfold m_added
  refine ⟨Pol.trim i2, ?_, ?_⟩
  · rw [trim_ser, i3, pad_ser, Ser.X_zero]; grind
  · exact Nat.le_trans (trim_len _) (by rw [i1, hl]; exact Nat.le_refl _)
theorem added_nms (hp : 0 < p) {one other : List Int} {k : Int} (h1 : Nms p one) : Nms p (m_added p one other k) := (added_all hp h1).1.1
theorem added_len0 (p : Int) (one other : List Int) (k : Int) : (m_added p one other k).length ≤ max one.length other.length := by
  unfold m_added
  refine Nat.le_trans (trim_len _) ?_
  have : ∀ (l : List (Int × Int)) (s : List Int), (List.foldl (st_added_1 p one other k) s l).length = s.length := by
    intro l
    induction l with
    | nil => intro s; rfl
    | cons x l ih => intro s; rw [List.foldl_cons, ih]; exact List.length_set
  rw [this, List.length_append, repL_len]; simp only [List.length_cons, List.length_nil]; omega
theorem mul_all (hp : 0 < p) {one other : List Int} : Pol p (m_multiplied p one other) ∧ ser p (m_multiplied p one other) = ser p one * ser p other ∧ (m_multiplied p one other).length ≤ one.length + other.length := by
  have hl : (repL ([(0 : Int)] : List Int) ((one.length : Int) + (other.length : Int))).length = one.length + other.length := by
    rw [repL_len]; simp only [List.length_cons, List.length_nil]; omega
  have key : ∀ (t : List Int), t.length ≤ one.length → (List.foldl (st_multiplied_1 p one other) (repL ([(0 : Int)] : List Int) ((one.length : Int) + (other.length : Int))) (enm t)).length = one.length + other.length ∧ Nms p (List.foldl (st_multiplied_1 p one other) (repL ([(0 : Int)] : List Int) ((one.length : Int) + (other.length : Int))) (enm t)) ∧
      ser p (List.foldl (st_multiplied_1 p one other) (repL ([(0 : Int)] : List Int) ((one.length : Int) + (other.length : Int))) (enm t)) = ser p t * ser p other := by
    refine snoc_ind ?_ fun t a ih => ?_
    · intro _
      refine ⟨hl, by rw [repL_one]; exact nms_rep0 hp _, ?_⟩
      show ser p (repL _ _) = ser p [] * _
      rw [repL_one, ser_rep0, ser_nil]; grind
    · intro h
      rw [List.length_append, List.length_singleton] at h
      obtain ⟨i1, i2, i3⟩ := ih (by omega)
      rw [enm_snoc, List.foldl_append, List.foldl_cons, List.foldl_nil]
      generalize List.foldl (st_multiplied_1 p one other) (repL ([(0 : Int)] : List Int) ((one.length : Int) + (other.length : Int))) (enm t) = u at i1 i2 i3
      obtain ⟨j1, j2, j3⟩ := fold_add (p := p) (k := t.length) (c := a) (st := st_multiplied_2 p one other u ((t.length : Int), a)) hp (fun s x => rfl) other u i2 (by rw [i1]; omega)
      show (List.foldl (st_multiplied_2 p one other u ((t.length : Int), a)) u (enm other)).length = _ ∧ _
      refine ⟨by rw [j1, i1], j2, ?_⟩
      show ser p (List.foldl (st_multiplied_2 p one other u ((t.length : Int), a)) u (enm other)) = _
      rw [j3, i3, ser_app, ser_cons, ser_nil]; grind
  obtain ⟨i1, i2, i3⟩ := key one (Nat.le_refl _)
  unfold m_multiplied
  exact ⟨Pol.trim i2, by rw [trim_ser, i3], Nat.le_trans (trim_len _) (by rw [i1]; exact Nat.le_refl _)⟩
/-! ### twos: what their walks want -/
theorem added_len (p : Int) (one other : List Int) (k : Int) : (m_added p one other k).length ≤ max one.length other.length := added_len0 p one other k
theorem tws_pad {n : Nat} {one : List (List Int)} {k : Int} (h : Tws p n one) : ∀ x ∈ one ++ repL [([] : List Int)] k, Nms p x ∧ x.length ≤ n := fun x hx => by
  rcases List.mem_append.mp hx with hx | hx
  · exact h.2 x hx
  · rw [repL_one] at hx
    rw [List.eq_of_mem_replicate hx]
    exact ⟨(fun _ h => by cases h), Nat.zero_le _⟩
theorem gt0_mem {α : Type} {d : α} {xs : List α} {i : Int} (h1 : -(xs.length : Int) ≤ i) (h2 : i < xs.length) : gt0 d xs i ∈ xs := List.mem_of_getElem? (gt0_some (d := d) h1 h2)
theorem set_all {α : Type} {F : α → Prop} {s : List α} {k : Nat} {x : α} (h : ∀ y ∈ s, F y) (hx : F x) : ∀ y ∈ s.set k x, F y := fun y hy => by
  rcases List.mem_or_eq_of_mem_set hy with h1 | h1
  · exact h y h1
  · rw [h1]; exact hx
theorem corner_0 {two : List (List Int)} (h : (decide (two = []) || decide (gt0 [] two 0 = [])) = true) : (0 : Int) = cornerL two := by
  unfold cornerL
  rw [Bool.or_eq_true, decide_eq_true_eq, decide_eq_true_eq] at h
  rcases h with h | h
  · rw [h]; rfl
  · rw [h]; rfl
theorem corner_1 {two : List (List Int)} (h : (decide (two = []) || decide (gt0 [] two 0 = [])) = false) : 0 < two.length ∧ 0 < (gt0 [] two 0).length := by
  rw [Bool.or_eq_false_iff, decide_eq_false_iff_not, decide_eq_false_iff_not] at h
  exact ⟨List.length_pos_iff.mpr h.1, List.length_pos_iff.mpr h.2⟩
theorem corner_h {two : List (List Int)} (h : decide (two = []) = false) : 0 < two.length := by
  rw [decide_eq_false_iff_not] at h
  exact List.length_pos_iff.mpr h
end
section
variable {P : Program} {w : World} {K : PySem.W.Frag} {mg : Str → Option Value} {base : Heap}
def sp_two_trimmed_L (K : PySem.W.Frag) : Sp := fun vs H Q _ => ∃ (polys : (List (List Int))) (p_polys : Addr), (vs = [.ref p_polys]) ∧ (Lt (rT K rI) H p_polys polys) ∧ (∀ (v : V) H', Ex H H' → (rT K (rT K rI)) H' (trim2 polys) v → Q v H')
def sp_two_trimmed_T (K : PySem.W.Frag) : Sp := fun vs H Q _ => ∃ (polys : (List (List Int))) (v_polys : V), (vs = [v_polys]) ∧ ((rT K (rT K rI)) H polys v_polys) ∧ (∀ (v : V) H', Ex H H' → (rT K (rT K rI)) H' (trim2 polys) v → Q v H')
def sp_two_trimmed (K : PySem.W.Frag) : Sp := fun vs H Q E => sp_two_trimmed_L K vs H Q E ∨ sp_two_trimmed_T K vs H Q E
section
variable {K : PySem.W.Frag}
theorem gv_two_trimmed_L {polys : (List (List Int))} : Gv (sp_two_trimmed K) (AcL (rT K rI) polys A0) (rT K (rT K rI)) (trim2 polys) := by
  intro vs H1 hp Q E k
  obtain ⟨v0, w0, rfl, f0, hp⟩ := hp
  obtain ⟨p0, rfl, f0⟩ := f0
  cases hp
  exact .inl (⟨_, p0, rfl, f0, fun v H2 e r => k v H2 e r⟩)
theorem gv_two_trimmed_T {polys : (List (List Int))} : Gv (sp_two_trimmed K) (Ac (rT K (rT K rI)) polys A0) (rT K (rT K rI)) (trim2 polys) := by
  intro vs H1 hp Q E k
  obtain ⟨v0, w0, rfl, f0, hp⟩ := hp
  cases hp
  exact .inr (⟨_, v0, rfl, f0, fun v H2 e r => k v H2 e r⟩)
end
theorem ok_two_trimmed {f : Addr} {fd : FuncData} (F : Fun K "two_trimmed" "two_trimmed" s_two_trimmed f fd) (n_len : mg "len" = none) (n_tuple : mg "tuple" = none) : FnOk P w K mg base CX0 1 f fd ["polys"] (sp_two_trimmed K) := by
  refine F.ok sc_two_trimmed (fun vs H Q E h => ?_) (fun cdv A outer s H vs Q E hr h => ?_)
  · rcases h with ⟨polys, p_polys, rfl, _⟩ | ⟨polys, v_polys, rfl, _⟩
    all_goals rfl
  · rcases h with h | h
    · obtain ⟨polys, p_polys, rfl, f_polys, q⟩ := h
      refine ⟨_, (pss_cons (ps_set (i := 1) sc_two_trimmed.nd rfl (Or.inl rfl) (pe_callB (call_len_seqK K) (by rfl) n_len (by decide +kernel) (pa_cons (pv 0) pa_nil)))
 (pss_cons (ps_while PassesOwn.never (PW.pt (pw_and (pt_cmpR op_gt (pv 1) pe_int (nomark _)) (pw_and1 (pt_cmpR (op_eqDK K hr.units) (pe_ix (ix_listK K) (pv 0) (pe_op op_sub (pv 1) pe_int) (fun _ _ => rfl)) (pe_tup pa_nil) (nomark _))))) (pss_one (ps_set (i := 1) sc_two_trimmed.nd rfl (Or.inl rfl) (pe_op op_sub (pv 1) pe_int))))
 (pss_one (ps_ret (pe_callTy (call_tuple_ofK K) (by rfl) n_tuple (by decide +kernel) (pa_cons (pe_slice (sl_listK K) (pv 0) po_none (po_some (pv 1))) pa_nil)))))), ?_⟩
      have F0 : Ex H H := Ex.refl H
      refine q_asgI (er_lenL (er_var rfl (Lt.rl f_polys))) fun H1 e2 => ?_
      replace f_polys := Lt.ex f_polys e2
      replace F0 := F0.trans e2
      have k3 : Kt K _ _ := Kt.refl H1
      refine q_while (fun m σ' H' => ∃ (k1_ : Nat) (s1 : Int), m = s1.toNat ∧ (0 ≤ s1 ∧ s1 ≤ (polys.length : Int)) ∧ (trim2 (polys.take s1.toNat) = trim2 polys) ∧ σ' = [some (.ref p_polys), some (.int s1)] ∧ Ex H H' ∧ Kt K H1 H' ∧ Lt (rT K rI) H' p_polys polys) _ ⟨0, ((polys.length : Int)), rfl, ⟨by omega, by omega⟩, (by rw [Int.toNat_natCast, List.take_length]), rfl, F0, k3, f_polys⟩ ?_
      rintro _ _ H4 ⟨k1_, s1, rfl, hw1_0, hw1_1, rfl, F0, k3, f_polys⟩
      refine ⟨_, (et_and (et_t (er_cmp er_iv er_int)) fun hc5 => (et_t (er_eqD (K := K) (er_ixL0 [] (er_var rfl (Lt.rl f_polys)) (er_op0 er_iv er_int) (by first | omega | assumption | (simp; omega) | (simp only [Bool.and_eq_true, Bool.or_eq_true, Bool.not_eq_true', Bool.and_eq_false_iff, Bool.or_eq_false_iff, Bool.not_eq_false', decide_eq_true_eq, decide_eq_false_iff_not, List.length_append, List.length_cons, List.length_nil, List.length_map, List.length_range, List.length_set, rng_len, enm_len, repL_len] at *; omega)) (by first | omega | assumption | (simp; omega) | (simp only [Bool.and_eq_true, Bool.or_eq_true, Bool.not_eq_true', Bool.and_eq_false_iff, Bool.or_eq_false_iff, Bool.not_eq_false', decide_eq_true_eq, decide_eq_false_iff_not, List.length_append, List.length_cons, List.length_nil, List.length_map, List.length_range, List.length_set, rng_len, enm_len, repL_len] at *; omega))) (er_tup (R := rI) eas0 (by decide))))), fun hb_1 H7 e6 => ?_, fun hb_1 H7 e6 => ?_⟩
      ·
        have hb_1' := hb_1
        try simp only [Bool.and_eq_true, Bool.or_eq_true, Bool.not_eq_true', Bool.and_eq_false_iff, Bool.or_eq_false_iff, Bool.not_eq_false', decide_eq_true_eq, decide_eq_false_iff_not] at hb_1'
        replace f_polys := Lt.ex f_polys e6
        replace F0 := F0.trans e6
        replace k3 := k3.trans (Kt.ex e6)
        refine ⟨fun σ2 H2 => ∃ m', m' < s1.toNat ∧ (fun m σ' H' => ∃ (k1_ : Nat) (s1 : Int), m = s1.toNat ∧ (0 ≤ s1 ∧ s1 ≤ (polys.length : Int)) ∧ (trim2 (polys.take s1.toNat) = trim2 polys) ∧ σ' = [some (.ref p_polys), some (.int s1)] ∧ Ex H H' ∧ Kt K H1 H' ∧ Lt (rT K rI) H' p_polys polys) m' σ2 H2, fun _ _ h => h, ?_⟩
        refine s_asgI (er_op0 er_iv er_int) fun H8 e9 => ?_
        replace f_polys := Lt.ex f_polys e9
        replace F0 := F0.trans e9
        replace k3 := k3.trans (Kt.ex e9)
        exact ⟨(((s1 - (1 : Int)))).toNat, (by omega), ⟨k1_ + 1, ((s1 - (1 : Int))), rfl, ⟨by omega, by omega⟩, (trim_step hw1_1 (by omega) (by omega) hb_1'.2), rfl, F0, k3, f_polys⟩⟩
      have hb_1' := hb_1
      try simp only [Bool.and_eq_true, Bool.or_eq_true, Bool.not_eq_true', Bool.and_eq_false_iff, Bool.or_eq_false_iff, Bool.not_eq_false', decide_eq_true_eq, decide_eq_false_iff_not] at hb_1'
      replace f_polys := Lt.ex f_polys e6
      replace F0 := F0.trans e6
      replace k3 := k3.trans (Kt.ex e6)
      refine s_ret (R := (rT K (rT K rI))) (er_tupL (El.er (K := K) (el_sl (er_var rfl (Lt.rl f_polys)) eo0 (eo1 er_iv)))) fun v H' e r => ?_
      exact q v H' (F0.trans e) (by rw [show trim2 polys = _ from (trim_end hw1_0.1 hw1_1 hw1_0.2 hb_1').symm]; exact r)
    · obtain ⟨polys, v_polys, rfl, f_polys, q⟩ := h
      refine ⟨_, (pss_cons (ps_set (i := 1) sc_two_trimmed.nd rfl (Or.inl rfl) (pe_callB (call_len_seqK K) (by rfl) n_len (by decide +kernel) (pa_cons (pv 0) pa_nil)))
 (pss_cons (ps_while PassesOwn.never (PW.pt (pw_and (pt_cmpR op_gt (pv 1) pe_int (nomark _)) (pw_and1 (pt_cmpR (op_eqDK K hr.units) (pe_ix (ix_tupK K) (pv 0) (pe_op op_sub (pv 1) pe_int) (fun _ _ => rfl)) (pe_tup pa_nil) (nomark _))))) (pss_one (ps_set (i := 1) sc_two_trimmed.nd rfl (Or.inl rfl) (pe_op op_sub (pv 1) pe_int))))
 (pss_one (ps_ret (pe_callTy (call_tuple_ofK K) (by rfl) n_tuple (by decide +kernel) (pa_cons (pe_slice (sl_tupAK K) (pv 0) po_none (po_some (pv 1))) pa_nil)))))), ?_⟩
      have F0 : Ex H H := Ex.refl H
      refine q_asgI (er_lenT (er_var rfl f_polys)) fun H1 e2 => ?_
      replace f_polys := Me.ex e2 f_polys
      replace F0 := F0.trans e2
      have k3 : Kt K _ _ := Kt.refl H1
      refine q_while (fun m σ' H' => ∃ (k1_ : Nat) (s1 : Int), m = s1.toNat ∧ (0 ≤ s1 ∧ s1 ≤ (polys.length : Int)) ∧ (trim2 (polys.take s1.toNat) = trim2 polys) ∧ σ' = [some v_polys, some (.int s1)] ∧ Ex H H' ∧ Kt K H1 H') _ ⟨0, ((polys.length : Int)), rfl, ⟨by omega, by omega⟩, (by rw [Int.toNat_natCast, List.take_length]), rfl, F0, k3⟩ ?_
      rintro _ _ H4 ⟨k1_, s1, rfl, hw1_0, hw1_1, rfl, F0, k3⟩
      replace f_polys := Mkt.kt k3 f_polys
      refine ⟨_, (et_and (et_t (er_cmp er_iv er_int)) fun hc5 => (et_t (er_eqD (K := K) (er_ixT0 [] (er_var rfl f_polys) (er_op0 er_iv er_int) (by first | omega | assumption | (simp; omega) | (simp only [Bool.and_eq_true, Bool.or_eq_true, Bool.not_eq_true', Bool.and_eq_false_iff, Bool.or_eq_false_iff, Bool.not_eq_false', decide_eq_true_eq, decide_eq_false_iff_not, List.length_append, List.length_cons, List.length_nil, List.length_map, List.length_range, List.length_set, rng_len, enm_len, repL_len] at *; omega)) (by first | omega | assumption | (simp; omega) | (simp only [Bool.and_eq_true, Bool.or_eq_true, Bool.not_eq_true', Bool.and_eq_false_iff, Bool.or_eq_false_iff, Bool.not_eq_false', decide_eq_true_eq, decide_eq_false_iff_not, List.length_append, List.length_cons, List.length_nil, List.length_map, List.length_range, List.length_set, rng_len, enm_len, repL_len] at *; omega))) (er_tup (R := rI) eas0 (by decide))))), fun hb_1 H7 e6 => ?_, fun hb_1 H7 e6 => ?_⟩
      ·
        have hb_1' := hb_1
        try simp only [Bool.and_eq_true, Bool.or_eq_true, Bool.not_eq_true', Bool.and_eq_false_iff, Bool.or_eq_false_iff, Bool.not_eq_false', decide_eq_true_eq, decide_eq_false_iff_not] at hb_1'
        replace f_polys := Me.ex e6 f_polys
        replace F0 := F0.trans e6
        replace k3 := k3.trans (Kt.ex e6)
        refine ⟨fun σ2 H2 => ∃ m', m' < s1.toNat ∧ (fun m σ' H' => ∃ (k1_ : Nat) (s1 : Int), m = s1.toNat ∧ (0 ≤ s1 ∧ s1 ≤ (polys.length : Int)) ∧ (trim2 (polys.take s1.toNat) = trim2 polys) ∧ σ' = [some v_polys, some (.int s1)] ∧ Ex H H' ∧ Kt K H1 H') m' σ2 H2, fun _ _ h => h, ?_⟩
        refine s_asgI (er_op0 er_iv er_int) fun H8 e9 => ?_
        replace f_polys := Me.ex e9 f_polys
        replace F0 := F0.trans e9
        replace k3 := k3.trans (Kt.ex e9)
        exact ⟨(((s1 - (1 : Int)))).toNat, (by omega), ⟨k1_ + 1, ((s1 - (1 : Int))), rfl, ⟨by omega, by omega⟩, (trim_step hw1_1 (by omega) (by omega) hb_1'.2), rfl, F0, k3⟩⟩
      have hb_1' := hb_1
      try simp only [Bool.and_eq_true, Bool.or_eq_true, Bool.not_eq_true', Bool.and_eq_false_iff, Bool.or_eq_false_iff, Bool.not_eq_false', decide_eq_true_eq, decide_eq_false_iff_not] at hb_1'
      replace f_polys := Me.ex e6 f_polys
      replace F0 := F0.trans e6
      replace k3 := k3.trans (Kt.ex e6)
      refine s_ret (R := (rT K (rT K rI))) (er_tupT (er_slT (er_var rfl f_polys) eo0 (eo1 er_iv))) fun v H' e r => ?_
      exact q v H' (F0.trans e) (by rw [show trim2 polys = _ from (trim_end hw1_0.1 hw1_1 hw1_0.2 hb_1').symm]; exact r)

def sp_corner (K : PySem.W.Frag) : Sp := fun vs H Q _ => ∃ (two : (List (List Int))) (v_two : V), (vs = [v_two]) ∧ ((rT K (rT K rI)) H two v_two) ∧ (∀ H', Ex H H' → Q (.int (cornerL two)) H')
section
variable {K : PySem.W.Frag}
theorem gv_corner {two : (List (List Int))} : Gv (sp_corner K) (Ac (rT K (rT K rI)) two A0) rI (cornerL two) := by
  intro vs H1 hp Q E k
  obtain ⟨v0, w0, rfl, f0, hp⟩ := hp
  cases hp
  exact ⟨_, v0, rfl, f0, fun H2 e => k _ H2 e rfl⟩
end
theorem ok_corner {f : Addr} {fd : FuncData} (F : Fun K "corner" "corner" s_corner f fd) : FnOk P w K mg base CX0 1 f fd ["two"] (sp_corner K) := by
  refine F.ok sc_corner (fun vs H Q E h => ?_) (fun cdv A outer s H vs Q E hr h => ?_)
  · obtain ⟨two, v_two, rfl, _⟩ := h; rfl
  · obtain ⟨two, v_two, rfl, f_two, q⟩ := h
    refine ⟨_, (pss_cons (ps_if (PW.pt (pw_or (pt_cmpR (op_eqDK K hr.units) (pv 0) (pe_tup pa_nil) (nomark _)) (pw_or1 (pt_cmpR (op_eqDK K hr.units) (pe_ix (ix_tupK K) (pv 0) pe_int (fun _ _ => rfl)) (pe_tup pa_nil) (nomark _))))) (pss_one (ps_ret pe_int)) pss_nil)
 (pss_one (ps_ret (pe_ix (ix_tupK K) (pe_ix (ix_tupK K) (pv 0) pe_int (fun _ _ => rfl)) pe_int (fun _ _ => rfl))))), ?_⟩
    have F0 : Ex H H := Ex.refl H
    refine q_when (et_or (et_t (er_eqD (K := K) (er_var rfl f_two) (er_tup (R := (rT K rI)) eas0 (by decide)))) fun hc1 => (et_t (er_eqD (K := K) (er_ixT0 [] (er_var rfl f_two) er_int (by omega) (by first | omega | (have := corner_h (two := two) (by assumption); omega))) (er_tup (R := rI) eas0 (by decide))))) (fun hb_1 H2 e3 => ?_) (fun hb_1 H2 e3 => ?_)
    ·
      have hz := corner_0 hb_1
      replace f_two := Me.ex e3 f_two
      replace F0 := F0.trans e3
      refine s_ret (R := rI) er_int fun v H' e r => ?_
      cases r
      have z := q _ (F0.trans e)
      rw [← hz] at z; exact z
    obtain ⟨hc0, hc1⟩ := corner_1 hb_1
    replace f_two := Me.ex e3 f_two
    replace F0 := F0.trans e3
    refine s_ret (R := rI) (er_ixT0 (0 : Int) (er_ixT0 [] (er_var rfl f_two) er_int (by omega) (by first | omega | (have := corner_h (two := two) (by assumption); omega))) er_int (by first | omega | assumption | (simp; omega) | (simp only [Bool.and_eq_true, Bool.or_eq_true, Bool.not_eq_true', Bool.and_eq_false_iff, Bool.or_eq_false_iff, Bool.not_eq_false', decide_eq_true_eq, decide_eq_false_iff_not, List.length_append, List.length_cons, List.length_nil, List.length_map, List.length_range, List.length_set, rng_len, enm_len, repL_len] at *; omega)) (by first | omega | assumption | (simp; omega) | (simp only [Bool.and_eq_true, Bool.or_eq_true, Bool.not_eq_true', Bool.and_eq_false_iff, Bool.or_eq_false_iff, Bool.not_eq_false', decide_eq_true_eq, decide_eq_false_iff_not, List.length_append, List.length_cons, List.length_nil, List.length_map, List.length_range, List.length_set, rng_len, enm_len, repL_len] at *; omega))) fun v H' e r => ?_
    cases r
    have z := q _ (F0.trans e)
    exact z

def st_twos_added_1 (p : Int) (one : (List (List Int))) (other : (List (List Int))) (often : Int) : (List (List Int)) → (Int × (List Int)) → (List (List Int)) := fun s1 x1 => ((s1.set (ixs s1.length x1.1) (m_added p ((gt0 [] s1 x1.1)) x1.2 often)))
def m_twos_added (p : Int) (one : (List (List Int))) (other : (List (List Int))) (often : Int) : (List (List Int)) := ((trim2 (List.foldl (st_twos_added_1 p one other often) ((one ++ (repL ([([] : (List Int))] : List (List Int)) ((other.length : Int) - (one.length : Int))))) ((enm other)))))
def sp_twos_added (K : PySem.W.Frag) : Sp := fun vs H Q _ => ∃ (p : Int) (one : (List (List Int))) (other : (List (List Int))) (often : Int) (v_one : V) (v_other : V), (vs = [.int p, v_one, v_other, .int often]) ∧ ((rT K (rT K rI)) H one v_one) ∧ ((rT K (rT K rI)) H other v_other) ∧ (2 ≤ p ∧ p ≤ 5) ∧ (Tws p 5000 one) ∧ (Tws p 5000 other) ∧ (∀ (v : V) H', Ex H H' → (rT K (rT K rI)) H' (m_twos_added p one other often) v → Q v H')
section
variable {K : PySem.W.Frag}
theorem gv_twos_added {p : Int} {one : (List (List Int))} {other : (List (List Int))} {often : Int} (h0 : 2 ≤ p ∧ p ≤ 5) (h1 : Tws p 5000 one) (h2 : Tws p 5000 other) : Gv (sp_twos_added K) (Ac rI p (Ac (rT K (rT K rI)) one (Ac (rT K (rT K rI)) other (Ac rI often A0)))) (rT K (rT K rI)) (m_twos_added p one other often) := by
  intro vs H1 hp Q E k
  obtain ⟨v0, w0, rfl, f0, hp⟩ := hp
  cases f0
  obtain ⟨v1, w1, rfl, f1, hp⟩ := hp
  obtain ⟨v2, w2, rfl, f2, hp⟩ := hp
  obtain ⟨v3, w3, rfl, f3, hp⟩ := hp
  cases f3
  cases hp
  exact ⟨_, _, _, _, v1, v2, rfl, f1, f2, h0, h1, h2, fun v H2 e r => k v H2 e r⟩
end
theorem ok_twos_added {f : Addr} {fd : FuncData} (F : Fun K "twos_added" "twos_added" s_twos_added f fd) (n_enumerate : mg "enumerate" = none) (D_two_trimmed : Df P w K mg base CX0 1 "two_trimmed" ["polys"] (sp_two_trimmed K)) (n_list : mg "list" = none) (D_added : Df P w K mg base CX0 2 "added" ["p", "one", "other", "often"] (sp_added K)) (n_len : mg "len" = none) : FnOk P w K mg base CX0 3 f fd ["p", "one", "other", "often"] (sp_twos_added K) := by
  refine F.ok sc_twos_added (fun vs H Q E h => ?_) (fun cdv A outer s H vs Q E hr h => ?_)
  · obtain ⟨p, one, other, often, v_one, v_other, rfl, _⟩ := h; rfl
  · obtain ⟨p, one, other, often, v_one, v_other, rfl, f_one, f_other, hpre0, hpre1, hpre2, q⟩ := h
    refine ⟨_, (pss_cons (ps_set (i := 4) sc_twos_added.nd rfl (Or.inl rfl) (pe_op op_cat (pe_callTy (call_list_ofK K) (by rfl) n_list (by decide +kernel) (pa_cons (pv 1) pa_nil)) (pe_op op_rep (pe_lst (pa_cons (pe_tup pa_nil) pa_nil)) (pe_op op_sub (pe_callB (call_len_seqK K) (by rfl) n_len (by decide +kernel) (pa_cons (pv 2) pa_nil)) (pe_callB (call_len_seqK K) (by rfl) n_len (by decide +kernel) (pa_cons (pv 1) pa_nil))))))
 (pss_cons (ps_for PassesOwn.never rfl (pi_enumTK K (by rfl) n_enumerate (pa_cons (pv 2) pa_nil)) (pg_tupK K 2 rfl (pgs_cons (pg_name (i := 5) sc_twos_added.nd rfl (Or.inl rfl)) (pgs_cons (pg_name (i := 6) sc_twos_added.nd rfl (Or.inl rfl)) pgs_nil)))
 (pss_one (ps_asg (pe_call D_added.ok (hr.mono (by omega)) (by rfl) D_added.g D_added.kp D_added.b .nil pass0 (pa_cons (pv 0) (pa_cons (pe_ix (ix_listK K) (pv 4) (pv 5) (fun _ _ => rfl)) (pa_cons (pv 6) (pa_cons (pv 3) pa_nil))))) (pg_sub (pv 4) (pv 5) set_list))))
 (pss_one (ps_ret (pe_call D_two_trimmed.ok (hr.mono (by omega)) (by rfl) D_two_trimmed.g D_two_trimmed.kp D_two_trimmed.b .nil pass0 (pa_cons (pv 4) pa_nil)))))), ?_⟩
    have F0 : Ex H H := Ex.refl H
    have hlo := hpre1.1
    have hlr := hpre2.1
    refine q_asgL (el_catW (El.ew (el_listT (er_var rfl f_one))) (El.ew (el_rep (el_lst (R := (rT K rI)) (eas (er_tup (R := rI) eas0 (by decide)) eas0) (by first | decide | simp)) (er_op0 (er_lenT (er_var rfl f_other)) (er_lenT (er_var rfl f_one))) (by first | omega | assumption | (simp only [Bool.and_eq_true, Bool.or_eq_true, Bool.not_eq_true', Bool.and_eq_false_iff, Bool.or_eq_false_iff, Bool.not_eq_false', decide_eq_true_eq, decide_eq_false_iff_not, List.length_append, List.length_cons, List.length_nil, List.length_map, List.length_range, List.length_set, rng_len, enm_len, repL_len] at *; omega)) (by first | omega | assumption | (simp only [Bool.and_eq_true, Bool.or_eq_true, Bool.not_eq_true', Bool.and_eq_false_iff, Bool.or_eq_false_iff, Bool.not_eq_false', decide_eq_true_eq, decide_eq_false_iff_not, List.length_append, List.length_cons, List.length_nil, List.length_map, List.length_range, List.length_set, rng_len, enm_len, repL_len] at *; omega)))) (by first | omega | assumption | (simp only [Bool.and_eq_true, Bool.or_eq_true, Bool.not_eq_true', Bool.and_eq_false_iff, Bool.or_eq_false_iff, Bool.not_eq_false', decide_eq_true_eq, decide_eq_false_iff_not, List.length_append, List.length_cons, List.length_nil, List.length_map, List.length_range, List.length_set, rng_len, enm_len, repL_len] at *; omega))) fun p3 H1 n4 e2 l5 => ?_
    have n0p3 : _ = none := fresh_back F0 n4
    replace f_one := Me.ex e2 f_one
    replace f_other := Me.ex e2 f_other
    replace F0 := F0.trans e2
    refine q_forET (er_var rfl f_other) fun v8 H6 e7 r9 => ?_
    replace f_one := Me.ex e7 f_one
    replace f_other := Me.ex e7 f_other
    replace l5 := Lt.ex l5 e7
    replace F0 := F0.trans e7
    have k10 : Kt K _ _ := Kt.refl H6
    refine fq_ET r9 (fun i σ' H' => ∃ (s1 : (List (List Int))) (j11 : Option V) (j12 : Option V), s1 = List.foldl (st_twos_added_1 p one other often) ((one ++ (repL ([([] : (List Int))] : List (List Int)) ((other.length : Int) - (one.length : Int))))) (List.take i ((enm other))) ∧ (s1.length = one.length + (other.length - one.length)) ∧ (∀ x ∈ s1, Nms p x ∧ x.length ≤ 5000) ∧ σ' = [some (.int p), some v_one, some v_other, some (.int often), some (.ref p3), j11, j12] ∧ Ex H H' ∧ Kt K H6 H' ∧ Lt (rT K rI) H' p3 s1) ?_ ?_ ?_ ?_
    · exact ⟨((one ++ (repL ([([] : (List Int))] : List (List Int)) ((other.length : Int) - (one.length : Int))))), _, _, rfl, (by rw [List.length_append, repL_len]; simp only [List.length_cons, List.length_nil]; omega), (tws_pad hpre1), rfl, F0, k10, l5⟩
    · intro i σ' H' hi h; obtain ⟨s1, j11, j12, hs1, hp1_0, hp1_1, rfl, F0, k10, l5⟩ := h; exact Mkt.kt k10 r9
    ·
      rintro i x1 v14 _ H13 H16 hi hx1 ⟨s1, j11, j12, hs1, hp1_0, hp1_1, rfl, F0, k10, l5⟩ e17 r15
      replace f_one := Mkt.kt k10 f_one
      replace f_other := Mkt.kt k10 f_other
      replace f_one := Me.ex e17 f_one
      replace f_other := Me.ex e17 f_other
      replace l5 := Lt.ex l5 e17
      replace r15 := Me.ex e17 r15
      replace F0 := F0.trans e17
      replace k10 := k10.trans (Kt.ex e17)
      have hr1 := enm_at hx1
      have hn := hpre2.2 _ (List.mem_of_getElem? (enm_at hx1).2)
      have hr3 := (List.getElem?_eq_some_iff.mp (enm_at hx1).2).1
      have hfo := hp1_1 (gt0 [] s1 x1.1) (gt0_mem (by omega) (by omega))
      refine s_set (K := K) (j := 4) l5 rfl (er_call (eac er_iv (eac (er_ixL0 [] (er_var rfl (Lt.rl l5)) er_iv (by first | omega | assumption | (simp; omega) | (simp only [Bool.and_eq_true, Bool.or_eq_true, Bool.not_eq_true', Bool.and_eq_false_iff, Bool.or_eq_false_iff, Bool.not_eq_false', decide_eq_true_eq, decide_eq_false_iff_not, List.length_append, List.length_cons, List.length_nil, List.length_map, List.length_range, List.length_set, rng_len, enm_len, repL_len] at *; omega)) (by first | omega | assumption | (simp; omega) | (simp only [Bool.and_eq_true, Bool.or_eq_true, Bool.not_eq_true', Bool.and_eq_false_iff, Bool.or_eq_false_iff, Bool.not_eq_false', decide_eq_true_eq, decide_eq_false_iff_not, List.length_append, List.length_cons, List.length_nil, List.length_map, List.length_range, List.length_set, rng_len, enm_len, repL_len] at *; omega))) (eac (er_var rfl r15) (eac er_iv ea0)))) (gv_added (by first | assumption | omega | (simp only [Bool.and_eq_true, Bool.or_eq_true, Bool.not_eq_true', Bool.and_eq_false_iff, Bool.or_eq_false_iff, Bool.not_eq_false', decide_eq_true_eq, decide_eq_false_iff_not, List.length_append, List.length_cons, List.length_nil, List.length_map, List.length_range, List.length_set, rng_len, enm_len, repL_len] at *; omega)) (by omega) hn.1 (by omega))) er_iv (by first | omega | assumption | (simp; omega) | (simp only [Bool.and_eq_true, Bool.or_eq_true, Bool.not_eq_true', Bool.and_eq_false_iff, Bool.or_eq_false_iff, Bool.not_eq_false', decide_eq_true_eq, decide_eq_false_iff_not, List.length_append, List.length_cons, List.length_nil, List.length_map, List.length_range, List.length_set, rng_len, enm_len, repL_len] at *; omega)) (by first | omega | assumption | (simp; omega) | (simp only [Bool.and_eq_true, Bool.or_eq_true, Bool.not_eq_true', Bool.and_eq_false_iff, Bool.or_eq_false_iff, Bool.not_eq_false', decide_eq_true_eq, decide_eq_false_iff_not, List.length_append, List.length_cons, List.length_nil, List.length_map, List.length_range, List.length_set, rng_len, enm_len, repL_len] at *; omega)) fun H18 c19 l20 => ?_
      have kt21 : Kt K _ _ := Lt.kt l5 c19
      replace k10 := k10.trans kt21
      replace f_one := Mkt.kt kt21 f_one
      replace f_other := Mkt.kt kt21 f_other
      replace r15 := Mkt.kt kt21 r15
      replace F0 := C1.ofNew F0 n0p3 c19
      exact ⟨st_twos_added_1 p one other often s1 x1, _, _, fold_snoc hs1 hx1, (by rw [← hp1_0]; exact List.length_set), (set_all hp1_1 ⟨added_nms (by omega) hfo.1, Nat.le_trans (added_len _ _ _ _) (by omega)⟩), rfl, F0, k10, l20⟩
    rintro _ H22 ⟨s1, j11, j12, hs1, hp1_0, hp1_1, rfl, F0, k10, l5⟩
    rw [take_all] at hs1; subst hs1
    replace f_one := Mkt.kt k10 f_one
    replace f_other := Mkt.kt k10 f_other
    refine s_ret (R := (rT K (rT K rI))) (er_call (eacO rfl l5 ea0) (gv_two_trimmed_L )) fun v H' e r => ?_
    exact q v H' (F0.trans e) (by exact r)

end
section
variable {p : Int}
theorem mem_cutL2 {α : Type} {xs : List α} {lo hi : Option Int} {x : α} (h : x ∈ cutL xs lo hi) : x ∈ xs := List.mem_of_mem_drop (List.mem_of_mem_take h)
theorem enm_mem2 {α : Type} {xs : List α} {x : Int × α} (h : x ∈ enm xs) : x.2 ∈ xs := by
  obtain ⟨i, hi⟩ := List.getElem?_of_mem h
  exact List.mem_of_getElem? (enm_at hi).2
theorem fold_len2 {one other : List (List Int)} {k : Int} : ∀ (l : List (Int × List Int)) (s : List (List Int)), (List.foldl (st_twos_added_1 p one other k) s l).length = s.length := by
  intro l
  induction l with
  | nil => intro s; rfl
  | cons x l ih => intro s; rw [List.foldl_cons, ih]; exact List.length_set
theorem tadd_len (one other : List (List Int)) (k : Int) : (m_twos_added p one other k).length ≤ max one.length other.length := by
  unfold m_twos_added
  refine Nat.le_trans (trim_len _) ?_
  rw [fold_len2, List.length_append, repL_len]; simp only [List.length_cons, List.length_nil]; omega
/-- any bound of the numbers' count stays -/
theorem tadd_tws (hp : 0 < p) {n : Nat} {one other : List (List Int)} {k : Int} (h1 : Tws p n one) (h2 : Tws p n other) : Tws p n (m_twos_added p one other k) := by
  have key : ∀ (l : List (Int × List Int)) (s : List (List Int)), (∀ x ∈ l, x.2 ∈ other) → (∀ x ∈ s, Nms p x ∧ x.length ≤ n) → ∀ x ∈ List.foldl (st_twos_added_1 p one other k) s l, Nms p x ∧ x.length ≤ n := by
    intro l
    induction l with
    | nil => exact fun s _ h => h
    | cons y l ih =>
      intro s hl h
      rw [List.foldl_cons]
      refine ih _ (fun x hx => hl x (List.mem_cons_of_mem _ hx)) ?_
      have hy := h2.2 _ (hl y (List.mem_cons_self ..))
      have hg : Nms p (gt0 [] s y.1) ∧ (gt0 [] s y.1).length ≤ n := by
        unfold gt0
        cases e : s[ixs s.length y.1]? with
        | none => exact ⟨(fun _ h => by cases h), Nat.zero_le _⟩
        | some z => exact h z (List.mem_of_getElem? e)
      exact set_all h ⟨added_nms hp hg.1, Nat.le_trans (added_len _ _ _ _) (by omega)⟩
  refine ⟨Nat.le_trans (tadd_len one other k) (by have := h1.1; have := h2.1; omega), fun x hx => ?_⟩
  unfold m_twos_added at hx
  exact key _ _ (fun x hx => enm_mem2 hx) (tws_pad h1) x (trim_mem hx)
theorem Tws.mono {m n : Nat} {t : List (List Int)} (h : Tws p m t) (l : m ≤ n) : Tws p n t := ⟨Nat.le_trans h.1 l, fun x hx => ⟨(h.2 x hx).1, Nat.le_trans (h.2 x hx).2 l⟩⟩
theorem Tws.cons {n : Nat} {a : List Int} {t : List (List Int)} (h : Tws p n t) (ha : Nms p a) (hl : a.length ≤ n) (hn : t.length < n) : Tws p n ([a] ++ t) := ⟨by simp; omega, fun x hx => by
  rcases List.mem_append.mp hx with hx | hx
  · rw [List.mem_singleton.mp hx]; exact ⟨ha, hl⟩
  · exact h.2 x hx⟩
theorem tws_one {n : Nat} {a : List Int} (ha : Nms p a) (hl : a.length ≤ n) (h1 : 1 ≤ n := by omega) : Tws p n [a] := ⟨h1, fun x hx => by rw [List.mem_singleton.mp hx]; exact ⟨ha, hl⟩⟩
theorem shift_ok (hp : 0 < p) {c : Int} {s : List (List Int)} {x : List Int} {i : Nat} (h : Tws p 2000 s ∧ s.length ≤ i + 1) (hx : Nms p x ∧ x.length ≤ 1000) (hi : i < 1000) :
    Tws p 2000 (m_twos_added p (m_twos_added p ([[]] ++ s) s c) [x] 1) ∧ (m_twos_added p (m_twos_added p ([[]] ++ s) s c) [x] 1).length ≤ i + 1 + 1 := by
  have h0 : Nms p [] := fun _ h => by cases h
  have w1 := Tws.cons h.1 h0 (Nat.zero_le _) (by omega)
  have w2 := tadd_tws (k := c) hp w1 h.1
  refine ⟨tadd_tws hp w2 (tws_one hx.1 (by omega)), ?_⟩
  have a1 := tadd_len (p := p) (m_twos_added p ([[]] ++ s) s c) [x] 1
  have a2 := tadd_len (p := p) ([[]] ++ s) s c
  simp only [List.length_append, List.length_cons, List.length_nil] at a1 a2
  omega
theorem cutv_ok (hp : 0 < p) {poly s x : List Int} {many : Int} (h : Nms p s ∧ s.length ≤ 1000) (hx : Nms p x ∧ x.length ≤ 1000) (hm : 0 ≤ many ∧ many ≤ 1000) :
    Nms p (trimL (cutL (m_added p (m_multiplied p s poly) x 1) none (some many))) ∧ (trimL (cutL (m_added p (m_multiplied p s poly) x 1) none (some many))).length ≤ 1000 := by
  rw [cut_to hm.1]
  refine ⟨fun y hy => nms_take (added_nms hp (mul_all hp).1.1) _ y (trim_mem hy), Nat.le_trans (trim_len _) ?_⟩
  rw [List.length_take]; omega
theorem nms_nil : Nms p [] := fun _ h => by cases h
end
section
variable {P : Program} {w : World} {K : PySem.W.Frag} {mg : Str → Option Value} {base : Heap}
def m_slope_of (p : Int) (two : (List (List Int))) : (List (List Int)) := ((trim2 (((enm (cutL two (some ((1 : Int))) none))).map fun x1 => (m_added p (([] : (List Int))) x1.2 ((x1.1 + (1 : Int)))))))
def sp_slope_of (K : PySem.W.Frag) : Sp := fun vs H Q _ => ∃ (p : Int) (two : (List (List Int))) (v_two : V), (vs = [.int p, v_two]) ∧ ((rT K (rT K rI)) H two v_two) ∧ (2 ≤ p ∧ p ≤ 5) ∧ (Tws p 1000 two) ∧ (∀ (v : V) H', Ex H H' → (rT K (rT K rI)) H' (m_slope_of p two) v → Q v H')
section
variable {K : PySem.W.Frag}
theorem gv_slope_of {p : Int} {two : (List (List Int))} (h0 : 2 ≤ p ∧ p ≤ 5) (h1 : Tws p 1000 two) : Gv (sp_slope_of K) (Ac rI p (Ac (rT K (rT K rI)) two A0)) (rT K (rT K rI)) (m_slope_of p two) := by
  intro vs H1 hp Q E k
  obtain ⟨v0, w0, rfl, f0, hp⟩ := hp
  cases f0
  obtain ⟨v1, w1, rfl, f1, hp⟩ := hp
  cases hp
  exact ⟨_, _, v1, rfl, f1, h0, h1, fun v H2 e r => k v H2 e r⟩
end
theorem ok_slope_of {f : Addr} {fd : FuncData} (F : Fun K "slope_of" "slope_of" s_slope_of f fd) (D_two_trimmed : Df P w K mg base CX0 1 "two_trimmed" ["polys"] (sp_two_trimmed K)) (D_added : Df P w K mg base CX0 2 "added" ["p", "one", "other", "often"] (sp_added K)) (n_enumerate : mg "enumerate" = none) : FnOk P w K mg base CX0 4 f fd ["p", "two"] (sp_slope_of K) := by
  refine F.ok sc_slope_of (fun vs H Q E h => ?_) (fun cdv A outer s H vs Q E hr h => ?_)
  · obtain ⟨p, two, v_two, rfl, _⟩ := h; rfl
  · obtain ⟨p, two, v_two, rfl, f_two, hpre0, hpre1, q⟩ := h
    refine ⟨_, (pss_one (ps_ret (pe_call D_two_trimmed.ok (hr.mono (by omega)) (by rfl) D_two_trimmed.g D_two_trimmed.kp D_two_trimmed.b .nil pass0 (pa_cons (pe_lc (own := [("place", 2), ("poly", 3)]) (by rfl) sc_slope_of.nd (pi_enumTK K (by rfl) n_enumerate (pa_cons (pe_slice (sl_tupAK K) (pv 1) (po_some pe_int) po_none) pa_nil)) (blkOk_by (own := [("place", 2), ("poly", 3)]) (N := ["p", "two", "place", "poly"]) (sc := defScope s_slope_of) (by decide +kernel)) (fun _ _ _ _ _ => (pg_tupK K 2 rfl (pgs_cons (pg_name (i := 2) sc_slope_of.nd rfl (Or.inl rfl)) (pgs_cons (pg_name (i := 3) sc_slope_of.nd rfl (Or.inl rfl)) pgs_nil)))) (fun _ _ _ _ _ => pts_nil) (fun _ _ _ _ _ => (pe_call D_added.ok (hr.mono (by omega)) (by rfl) D_added.g D_added.kp D_added.b .nil pass0 (pa_cons (pv 0) (pa_cons (pe_tup pa_nil) (pa_cons (pv 3) (pa_cons (pe_op op_add (pv 2) pe_int) pa_nil))))))) pa_nil)))), ?_⟩
    have F0 : Ex H H := Ex.refl H
    have hl := hpre1.1
    have hcl := cutL_len two (some 1) none
    refine s_ret (R := (rT K (rT K rI))) (er_call (eacL (el_lcET (K := K) (er_slT (er_var rfl f_two) (eo1 er_int) eo0) (by omega) (fun _ _ => rfl) (fun x7 v10 H1 e8 hx9 r11 => (er_call (eac er_iv (eac (er_tup (R := rI) eas0 (by decide)) (eac (er_var rfl r11) (eac (er_op0 er_iv er_int) ea0)))) (gv_added (by first | omega | exact Nat.zero_le _ | exact (hpre1.2 _ (mem_cutL2 (enm_mem2 (by assumption)))).1 | exact Nat.le_trans (hpre1.2 _ (mem_cutL2 (enm_mem2 (by assumption)))).2 (by omega)) (by first | omega | exact Nat.zero_le _ | exact (hpre1.2 _ (mem_cutL2 (enm_mem2 (by assumption)))).1 | exact Nat.le_trans (hpre1.2 _ (mem_cutL2 (enm_mem2 (by assumption)))).2 (by omega)) (by first | omega | exact Nat.zero_le _ | exact (hpre1.2 _ (mem_cutL2 (enm_mem2 (by assumption)))).1 | exact Nat.le_trans (hpre1.2 _ (mem_cutL2 (enm_mem2 (by assumption)))).2 (by omega)) (by first | omega | exact Nat.zero_le _ | exact (hpre1.2 _ (mem_cutL2 (enm_mem2 (by assumption)))).1 | exact Nat.le_trans (hpre1.2 _ (mem_cutL2 (enm_mem2 (by assumption)))).2 (by omega)))))) ea0) (gv_two_trimmed_L )) fun v H' e r => ?_
    exact q v H' (F0.trans e) (by exact r)

def st_shifted_by_1 (p : Int) (two : (List (List Int))) (c : Int) : (List (List Int)) → (List Int) → (List (List Int)) := fun s1 x1 => ((m_twos_added p ((m_twos_added p (([([] : (List Int))] ++ s1)) s1 c)) ([x1]) ((1 : Int))))
def m_shifted_by (p : Int) (two : (List (List Int))) (c : Int) : (List (List Int)) := ((trim2 (List.foldl (st_shifted_by_1 p two c) (([] : (List (List Int)))) two.reverse)))
def sp_shifted_by (K : PySem.W.Frag) : Sp := fun vs H Q _ => ∃ (p : Int) (two : (List (List Int))) (c : Int) (v_two : V), (vs = [.int p, v_two, .int c]) ∧ ((rT K (rT K rI)) H two v_two) ∧ (2 ≤ p ∧ p ≤ 5) ∧ (Tws p 1000 two) ∧ (∀ (v : V) H', Ex H H' → (rT K (rT K rI)) H' (m_shifted_by p two c) v → Q v H')
section
variable {K : PySem.W.Frag}
theorem gv_shifted_by {p : Int} {two : (List (List Int))} {c : Int} (h0 : 2 ≤ p ∧ p ≤ 5) (h1 : Tws p 1000 two) : Gv (sp_shifted_by K) (Ac rI p (Ac (rT K (rT K rI)) two (Ac rI c A0))) (rT K (rT K rI)) (m_shifted_by p two c) := by
  intro vs H1 hp Q E k
  obtain ⟨v0, w0, rfl, f0, hp⟩ := hp
  cases f0
  obtain ⟨v1, w1, rfl, f1, hp⟩ := hp
  obtain ⟨v2, w2, rfl, f2, hp⟩ := hp
  cases f2
  cases hp
  exact ⟨_, _, _, v1, rfl, f1, h0, h1, fun v H2 e r => k v H2 e r⟩
end
theorem ok_shifted_by {f : Addr} {fd : FuncData} (F : Fun K "shifted_by" "shifted_by" s_shifted_by f fd) (D_two_trimmed : Df P w K mg base CX0 1 "two_trimmed" ["polys"] (sp_two_trimmed K)) (D_twos_added : Df P w K mg base CX0 3 "twos_added" ["p", "one", "other", "often"] (sp_twos_added K)) : FnOk P w K mg base CX0 4 f fd ["p", "two", "c"] (sp_shifted_by K) := by
  refine F.ok sc_shifted_by (fun vs H Q E h => ?_) (fun cdv A outer s H vs Q E hr h => ?_)
  · obtain ⟨p, two, c, v_two, rfl, _⟩ := h; rfl
  · obtain ⟨p, two, c, v_two, rfl, f_two, hpre0, hpre1, q⟩ := h
    refine ⟨_, (pss_cons (ps_set (i := 3) sc_shifted_by.nd rfl (Or.inl rfl) (pe_tup pa_nil))
 (pss_cons (ps_for PassesOwn.never rfl (pi_tupK K (pe_sl3 K (pv 1) po_none po_none (pe_un un_neg pe_int))) (pg_name (i := 4) sc_shifted_by.nd rfl (Or.inl rfl))
 (pss_cons (ps_set (i := 3) sc_shifted_by.nd rfl (Or.inl rfl) (pe_call D_twos_added.ok (hr.mono (by omega)) (by rfl) D_twos_added.g D_twos_added.kp D_twos_added.b .nil pass0 (pa_cons (pv 0) (pa_cons (pe_op (op_catAK K) (pe_tup (pa_cons (pe_tup pa_nil) pa_nil)) (pv 3)) (pa_cons (pv 3) (pa_cons (pv 2) pa_nil))))))
 (pss_one (ps_set (i := 3) sc_shifted_by.nd rfl (Or.inl rfl) (pe_call D_twos_added.ok (hr.mono (by omega)) (by rfl) D_twos_added.g D_twos_added.kp D_twos_added.b .nil pass0 (pa_cons (pv 0) (pa_cons (pv 3) (pa_cons (pe_tup (pa_cons (pv 4) pa_nil)) (pa_cons pe_int pa_nil)))))))))
 (pss_one (ps_ret (pe_call D_two_trimmed.ok (hr.mono (by omega)) (by rfl) D_two_trimmed.g D_two_trimmed.kp D_two_trimmed.b .nil pass0 (pa_cons (pv 3) pa_nil)))))), ?_⟩
    have F0 : Ex H H := Ex.refl H
    have hl := hpre1.1
    refine q_asg (R := (rT K (rT K rI))) (er_tup (R := (rT K rI)) eas0 (by decide)) fun v3 H1 e2 f_found4 => ?_
    replace f_two := Me.ex e2 f_two
    replace F0 := F0.trans e2
    refine q_forT (er_revT (er_var rfl f_two) (sz1 (by first | omega | assumption | (simp only [Bool.and_eq_true, Bool.or_eq_true, Bool.not_eq_true', Bool.and_eq_false_iff, Bool.or_eq_false_iff, Bool.not_eq_false', decide_eq_true_eq, decide_eq_false_iff_not, List.length_append, List.length_cons, List.length_nil, List.length_map, List.length_range, List.length_set, rng_len, enm_len, repL_len] at *; omega)))) fun v7 H5 e6 r8 => ?_
    replace f_two := Me.ex e6 f_two
    replace f_found4 := Me.ex e6 f_found4
    replace F0 := F0.trans e6
    have k9 : Kt K _ _ := Kt.refl H5
    refine fq_T r8 (fun i σ' H' => ∃ (s1 : (List (List Int))) (j12 : Option V) (v10 : V), s1 = List.foldl (st_shifted_by_1 p two c) (([] : (List (List Int)))) (List.take i two.reverse) ∧ (Tws p 2000 s1 ∧ s1.length ≤ i + 1) ∧ σ' = [some (.int p), some v_two, some (.int c), some v10, j12] ∧ Ex H H' ∧ Kt K H5 H' ∧ (rT K (rT K rI)) H' s1 v10) ?_ ?_ ?_ ?_
    · exact ⟨(([] : (List (List Int)))), _, _, rfl, ⟨⟨Nat.zero_le _, fun x h => by cases h⟩, Nat.zero_le _⟩, rfl, F0, k9, f_found4⟩
    · intro i σ' H' hi h; obtain ⟨s1, j12, v10, hs1, hp1_0, rfl, F0, k9, f11⟩ := h; exact Mkt.kt k9 r8
    ·
      rintro i x1 v14 _ H13 hi hx1 ⟨s1, j12, v10, hs1, hp1_0, rfl, F0, k9, f11⟩ r15
      replace f_two := Mkt.kt k9 f_two
      have hm := hpre1.2 x1 (List.mem_reverse.mp (List.mem_of_getElem? hx1))
      have hr := List.length_reverse (as := two)
      have hw1 := Tws.cons hp1_0.1 nms_nil (Nat.zero_le _) (by omega)
      have hw2 := tadd_tws (p := p) (k := c) (by omega) hw1 hp1_0.1
      have hw3 := tws_one (n := 5000) hm.1 (by omega)
      refine q_asg (R := (rT K (rT K rI))) (er_call (eac er_iv (eac (er_catT (er_tup (eas (er_tup (R := rI) eas0 (by decide)) eas0) (by first | decide | simp)) (er_var rfl f11) (by simp only [List.length_cons, List.length_nil]; omega)) (eac (er_var rfl f11) (eac er_iv ea0)))) (gv_twos_added (by first | assumption | omega | (simp only [Bool.and_eq_true, Bool.or_eq_true, Bool.not_eq_true', Bool.and_eq_false_iff, Bool.or_eq_false_iff, Bool.not_eq_false', decide_eq_true_eq, decide_eq_false_iff_not, List.length_append, List.length_cons, List.length_nil, List.length_map, List.length_range, List.length_set, rng_len, enm_len, repL_len] at *; omega)) (hw1.mono (by omega)) (hp1_0.1.mono (by omega)))) fun v18 H16 e17 f_found19 => ?_
      replace f_two := Me.ex e17 f_two
      replace r15 := Me.ex e17 r15
      replace F0 := F0.trans e17
      replace k9 := k9.trans (Kt.ex e17)
      refine s_asg (R := (rT K (rT K rI))) (er_call (eac er_iv (eac (er_var rfl f_found19) (eac (er_tup (eas (er_var rfl r15) eas0) (by first | decide | simp)) (eac er_int ea0)))) (gv_twos_added (by first | assumption | omega | (simp only [Bool.and_eq_true, Bool.or_eq_true, Bool.not_eq_true', Bool.and_eq_false_iff, Bool.or_eq_false_iff, Bool.not_eq_false', decide_eq_true_eq, decide_eq_false_iff_not, List.length_append, List.length_cons, List.length_nil, List.length_map, List.length_range, List.length_set, rng_len, enm_len, repL_len] at *; omega)) (hw2.mono (by omega)) hw3)) fun v22 H20 e21 f_found23 => ?_
      replace f_two := Me.ex e21 f_two
      replace r15 := Me.ex e21 r15
      replace F0 := F0.trans e21
      replace k9 := k9.trans (Kt.ex e21)
      exact ⟨st_shifted_by_1 p two c s1 x1, _, _, fold_snoc hs1 hx1, (shift_ok (by omega) hp1_0 hm (by simp only [List.length_reverse] at hi; omega)), rfl, F0, k9, f_found23⟩
    rintro _ H24 ⟨s1, j12, v10, hs1, hp1_0, rfl, F0, k9, f11⟩
    rw [take_all] at hs1; subst hs1
    replace f_two := Mkt.kt k9 f_two
    refine s_ret (R := (rT K (rT K rI))) (er_call (eac (er_var rfl f11) ea0) (gv_two_trimmed_T )) fun v H' e r => ?_
    exact q v H' (F0.trans e) (by exact r)

def st_value_cut_1 (p : Int) (two : (List (List Int))) (poly : (List Int)) (many : Int) : (List Int) → (List Int) → (List Int) := fun s1 x1 => (((trimL (cutL (m_added p ((m_multiplied p s1 poly)) x1 ((1 : Int))) none (some many)))))
def m_value_cut (p : Int) (two : (List (List Int))) (poly : (List Int)) (many : Int) : (List Int) := (List.foldl (st_value_cut_1 p two poly many) (([] : (List Int))) two.reverse)
def sp_value_cut (K : PySem.W.Frag) : Sp := fun vs H Q _ => ∃ (p : Int) (two : (List (List Int))) (poly : (List Int)) (many : Int) (v_two : V) (v_poly : V), (vs = [.int p, v_two, v_poly, .int many]) ∧ ((rT K (rT K rI)) H two v_two) ∧ ((rT K rI) H poly v_poly) ∧ (2 ≤ p ∧ p ≤ 5) ∧ (Tws p 1000 two) ∧ (Nms p poly) ∧ (poly.length ≤ 1000) ∧ (0 ≤ many ∧ many ≤ 1000) ∧ (∀ (v : V) H', Ex H H' → (rT K rI) H' (m_value_cut p two poly many) v → Q v H')
section
variable {K : PySem.W.Frag}
theorem gv_value_cut {p : Int} {two : (List (List Int))} {poly : (List Int)} {many : Int} (h0 : 2 ≤ p ∧ p ≤ 5) (h1 : Tws p 1000 two) (h2 : Nms p poly) (h3 : poly.length ≤ 1000) (h4 : 0 ≤ many ∧ many ≤ 1000) : Gv (sp_value_cut K) (Ac rI p (Ac (rT K (rT K rI)) two (Ac (rT K rI) poly (Ac rI many A0)))) (rT K rI) (m_value_cut p two poly many) := by
  intro vs H1 hp Q E k
  obtain ⟨v0, w0, rfl, f0, hp⟩ := hp
  cases f0
  obtain ⟨v1, w1, rfl, f1, hp⟩ := hp
  obtain ⟨v2, w2, rfl, f2, hp⟩ := hp
  obtain ⟨v3, w3, rfl, f3, hp⟩ := hp
  cases f3
  cases hp
  exact ⟨_, _, _, _, v1, v2, rfl, f1, f2, h0, h1, h2, h3, h4, fun v H2 e r => k v H2 e r⟩
end
theorem ok_value_cut {f : Addr} {fd : FuncData} (F : Fun K "value_cut" "value_cut" s_value_cut f fd) (D_trimmed : Df P w K mg base CX0 1 "trimmed" ["numbers"] (sp_trimmed K)) (D_added : Df P w K mg base CX0 2 "added" ["p", "one", "other", "often"] (sp_added K)) (D_multiplied : Df P w K mg base CX0 2 "multiplied" ["p", "one", "other"] (sp_multiplied K)) : FnOk P w K mg base CX0 3 f fd ["p", "two", "poly", "many"] (sp_value_cut K) := by
  refine F.ok sc_value_cut (fun vs H Q E h => ?_) (fun cdv A outer s H vs Q E hr h => ?_)
  · obtain ⟨p, two, poly, many, v_two, v_poly, rfl, _⟩ := h; rfl
  · obtain ⟨p, two, poly, many, v_two, v_poly, rfl, f_two, f_poly, hpre0, hpre1, hpre2, hpre3, hpre4, q⟩ := h
    refine ⟨_, (pss_cons (ps_set (i := 4) sc_value_cut.nd rfl (Or.inl rfl) (pe_tup pa_nil))
 (pss_cons (ps_for PassesOwn.never rfl (pi_tupK K (pe_sl3 K (pv 1) po_none po_none (pe_un un_neg pe_int))) (pg_name (i := 5) sc_value_cut.nd rfl (Or.inl rfl))
 (pss_one (ps_set (i := 4) sc_value_cut.nd rfl (Or.inl rfl) (pe_call D_trimmed.ok (hr.mono (by omega)) (by rfl) D_trimmed.g D_trimmed.kp D_trimmed.b .nil pass0 (pa_cons (pe_slice (sl_tupAK K) (pe_call D_added.ok (hr.mono (by omega)) (by rfl) D_added.g D_added.kp D_added.b .nil pass0 (pa_cons (pv 0) (pa_cons (pe_call D_multiplied.ok (hr.mono (by omega)) (by rfl) D_multiplied.g D_multiplied.kp D_multiplied.b .nil pass0 (pa_cons (pv 0) (pa_cons (pv 4) (pa_cons (pv 2) pa_nil)))) (pa_cons (pv 5) (pa_cons pe_int pa_nil))))) po_none (po_some (pv 3))) pa_nil)))))
 (pss_one (ps_ret (pv 4))))), ?_⟩
    have F0 : Ex H H := Ex.refl H
    have hl := hpre1.1
    refine q_asg (R := (rT K rI)) (er_tup (R := rI) eas0 (by decide)) fun v3 H1 e2 f_found4 => ?_
    replace f_two := Me.ex e2 f_two
    replace f_poly := Me.ex e2 f_poly
    replace F0 := F0.trans e2
    refine q_forT (er_revT (er_var rfl f_two) (sz1 (by first | omega | assumption | (simp only [Bool.and_eq_true, Bool.or_eq_true, Bool.not_eq_true', Bool.and_eq_false_iff, Bool.or_eq_false_iff, Bool.not_eq_false', decide_eq_true_eq, decide_eq_false_iff_not, List.length_append, List.length_cons, List.length_nil, List.length_map, List.length_range, List.length_set, rng_len, enm_len, repL_len] at *; omega)))) fun v7 H5 e6 r8 => ?_
    replace f_two := Me.ex e6 f_two
    replace f_poly := Me.ex e6 f_poly
    replace f_found4 := Me.ex e6 f_found4
    replace F0 := F0.trans e6
    have k9 : Kt K _ _ := Kt.refl H5
    refine fq_T r8 (fun i σ' H' => ∃ (s1 : (List Int)) (j12 : Option V) (v10 : V), s1 = List.foldl (st_value_cut_1 p two poly many) (([] : (List Int))) (List.take i two.reverse) ∧ (Nms p s1 ∧ s1.length ≤ 1000) ∧ σ' = [some (.int p), some v_two, some v_poly, some (.int many), some v10, j12] ∧ Ex H H' ∧ Kt K H5 H' ∧ (rT K rI) H' s1 v10) ?_ ?_ ?_ ?_
    · exact ⟨(([] : (List Int))), _, _, rfl, ⟨(fun x h => by cases h), Nat.zero_le _⟩, rfl, F0, k9, f_found4⟩
    · intro i σ' H' hi h; obtain ⟨s1, j12, v10, hs1, hp1_0, rfl, F0, k9, f11⟩ := h; exact Mkt.kt k9 r8
    ·
      rintro i x1 v14 _ H13 hi hx1 ⟨s1, j12, v10, hs1, hp1_0, rfl, F0, k9, f11⟩ r15
      replace f_two := Mkt.kt k9 f_two
      replace f_poly := Mkt.kt k9 f_poly
      have hm := hpre1.2 x1 (List.mem_reverse.mp (List.mem_of_getElem? hx1))
      have hml := mul_all (p := p) (by omega) (one := s1) (other := poly)
      refine s_asg (R := (rT K rI)) (er_call (eac (er_slT (er_call (eac er_iv (eac (er_call (eac er_iv (eac (er_var rfl f11) (eac (er_var rfl f_poly) ea0))) (gv_multiplied (by first | assumption | omega | (simp only [Bool.and_eq_true, Bool.or_eq_true, Bool.not_eq_true', Bool.and_eq_false_iff, Bool.or_eq_false_iff, Bool.not_eq_false', decide_eq_true_eq, decide_eq_false_iff_not, List.length_append, List.length_cons, List.length_nil, List.length_map, List.length_range, List.length_set, rng_len, enm_len, repL_len] at *; omega)) hp1_0.1 (by omega) (by first | assumption | omega | (simp only [Bool.and_eq_true, Bool.or_eq_true, Bool.not_eq_true', Bool.and_eq_false_iff, Bool.or_eq_false_iff, Bool.not_eq_false', decide_eq_true_eq, decide_eq_false_iff_not, List.length_append, List.length_cons, List.length_nil, List.length_map, List.length_range, List.length_set, rng_len, enm_len, repL_len] at *; omega)) (by omega))) (eac (er_var rfl r15) (eac er_int ea0)))) (gv_added (by first | assumption | omega | (simp only [Bool.and_eq_true, Bool.or_eq_true, Bool.not_eq_true', Bool.and_eq_false_iff, Bool.or_eq_false_iff, Bool.not_eq_false', decide_eq_true_eq, decide_eq_false_iff_not, List.length_append, List.length_cons, List.length_nil, List.length_map, List.length_range, List.length_set, rng_len, enm_len, repL_len] at *; omega)) (by omega) hm.1 (by omega))) eo0 (eo1 er_iv)) ea0) (gv_trimmed_T )) fun v18 H16 e17 f_found19 => ?_
      replace f_two := Me.ex e17 f_two
      replace f_poly := Me.ex e17 f_poly
      replace r15 := Me.ex e17 r15
      replace F0 := F0.trans e17
      replace k9 := k9.trans (Kt.ex e17)
      exact ⟨st_value_cut_1 p two poly many s1 x1, _, _, fold_snoc hs1 hx1, (cutv_ok (by omega) hp1_0 hm hpre4), rfl, F0, k9, f_found19⟩
    rintro _ H20 ⟨s1, j12, v10, hs1, hp1_0, rfl, F0, k9, f11⟩
    rw [take_all] at hs1; subst hs1
    replace f_two := Mkt.kt k9 f_two
    replace f_poly := Mkt.kt k9 f_poly
    refine s_ret (R := (rT K rI)) (er_var rfl f11) fun v H' e r => ?_
    exact q v H' (F0.trans e) (by exact r)

end
section
variable {p : Int}
theorem trim2_tws {n : Nat} {t : List (List Int)} (h : Tws p n t) : Tws p n (trim2 t) := ⟨Nat.le_trans (trim_len _) h.1, fun x hx => h.2 x (trim_mem hx)⟩
theorem shifted_fold (hp : 0 < p) {c : Int} : ∀ (t : List (List Int)), t.length ≤ 100 → (∀ x ∈ t, Nms p x ∧ x.length ≤ 100) → Tws p 1000 (List.foldl (fun s1 x1 => m_twos_added p (m_twos_added p ([[]] ++ s1) s1 c) [x1] 1) [] t) ∧ (List.foldl (fun s1 x1 => m_twos_added p (m_twos_added p ([[]] ++ s1) s1 c) [x1] 1) [] t).length ≤ t.length + 1 ∧ ∀ x ∈ (List.foldl (fun s1 x1 => m_twos_added p (m_twos_added p ([[]] ++ s1) s1 c) [x1] 1) [] t), x.length ≤ 100 := by
  refine snoc_ind ?_ fun t a ih => ?_
  · exact fun _ _ => ⟨⟨Nat.zero_le _, fun x h => by cases h⟩, Nat.zero_le _, fun x h => by cases h⟩
  · intro hl hx
    rw [List.length_append, List.length_singleton] at hl
    obtain ⟨i1, i2, i3⟩ := ih (by omega) fun x h => hx x (List.mem_append_left _ h)
    have ha := hx a (by simp)
    rw [List.foldl_append, List.foldl_cons, List.foldl_nil]
    generalize List.foldl (fun s1 x1 => m_twos_added p (m_twos_added p ([[]] ++ s1) s1 c) [x1] 1) [] t = s at i1 i2 i3
    have a1 := tadd_len (p := p) (m_twos_added p ([[]] ++ s) s c) [a] 1
    have a2 := tadd_len (p := p) ([[]] ++ s) s c
    simp only [List.length_append, List.length_cons, List.length_nil] at a1 a2
    have w : Tws p 1000 s := i1
    have w0 := Tws.cons w nms_nil (Nat.zero_le _) (by omega)
    have w1 : Tws p 1000 (m_twos_added p ([[]] ++ s) s c) := tadd_tws hp w0 w
    have h0 : Tws p 101 s := ⟨by omega, fun x hx => ⟨(w.2 x hx).1, Nat.le_trans (i3 x hx) (by omega)⟩⟩
    have e0 : Tws p 102 ([[]] ++ s) := Tws.cons (h0.mono (by omega)) nms_nil (Nat.zero_le _) (by have := h0.1; omega)
    refine ⟨tadd_tws hp w1 (tws_one ha.1 (by omega)), by simp only [List.length_append, List.length_cons, List.length_nil]; omega, ?_⟩
    have key : ∀ {one other : List (List Int)} {k : Int}, (∀ x ∈ one, Nms p x ∧ x.length ≤ 100) → (∀ x ∈ other, Nms p x ∧ x.length ≤ 100) → one.length ≤ 5000 → other.length ≤ 5000 → ∀ x ∈ m_twos_added p one other k, Nms p x ∧ x.length ≤ 100 := by
      intro one other k h1 h2 l1 l2
      have key : ∀ (l : List (Int × List Int)) (s : List (List Int)), (∀ x ∈ l, x.2 ∈ other) → (∀ x ∈ s, Nms p x ∧ x.length ≤ 100) → ∀ x ∈ List.foldl (st_twos_added_1 p one other k) s l, Nms p x ∧ x.length ≤ 100 := by
        intro l
        induction l with
        | nil => exact fun s _ h => h
        | cons y l ih =>
          intro s hl h
          rw [List.foldl_cons]
          refine ih _ (fun x hx => hl x (List.mem_cons_of_mem _ hx)) ?_
          have hy := h2 _ (hl y (List.mem_cons_self ..))
          have hg : Nms p (gt0 [] s y.1) ∧ (gt0 [] s y.1).length ≤ 100 := by
            unfold gt0
            cases e : s[ixs s.length y.1]? with
            | none => exact ⟨(fun _ h => by cases h), Nat.zero_le _⟩
            | some z => exact h z (List.mem_of_getElem? e)
          exact set_all h ⟨added_nms hp hg.1, Nat.le_trans (added_len _ _ _ _) (by omega)⟩
      intro x hx
      unfold m_twos_added at hx
      refine key _ _ (fun x hx => enm_mem2 hx) ?_ x (trim_mem hx)
      intro x hx
      rcases List.mem_append.mp hx with hx | hx
      · exact h1 x hx
      · rw [repL_one] at hx
        rw [List.eq_of_mem_replicate hx]
        exact ⟨nms_nil, Nat.zero_le _⟩
    have s100 : ∀ x ∈ s, Nms p x ∧ x.length ≤ 100 := fun x hx => ⟨(w.2 x hx).1, i3 x hx⟩
    have m1 := key (one := [[]] ++ s) (other := s) (k := c) (fun x hx => by
      rcases List.mem_append.mp hx with hx | hx
      · rw [List.mem_singleton.mp hx]; exact ⟨nms_nil, Nat.zero_le _⟩
      · exact s100 x hx) s100 (by simp; omega) (by omega)
    have m2 := key (one := m_twos_added p ([[]] ++ s) s c) (other := [a]) (k := 1) m1 (fun x hx => by rw [List.mem_singleton.mp hx]; exact ha) (by omega) (by simp)
    exact fun x hx => (m2 x hx).2
theorem shifted_tws (hp : 0 < p) {c : Int} {t : List (List Int)} (h : Tws p 100 t) : Tws p 101 (m_shifted_by p t c) := by
  have hr := shifted_fold hp (c := c) t.reverse (by rw [List.length_reverse]; exact h.1) fun x hx => h.2 x (List.mem_reverse.mp hx)
  have e : m_shifted_by p t c = trim2 (List.foldl (fun s1 x1 => m_twos_added p (m_twos_added p ([[]] ++ s1) s1 c) [x1] 1) [] t.reverse) := rfl
  rw [e]
  refine trim2_tws ⟨?_, fun x hx => ⟨(hr.1.2 x hx).1, Nat.le_trans (hr.2.2 x hx) (by omega)⟩⟩
  have := hr.2.1
  rw [List.length_reverse] at this
  have := h.1
  omega
theorem slope_tws (hp : 0 < p) {n : Nat} {t : List (List Int)} (h : Tws p n t) : Tws p n (m_slope_of p t) := by
  unfold m_slope_of
  refine trim2_tws ⟨?_, fun x hx => ?_⟩
  · rw [List.length_map, enm_len]
    exact Nat.le_trans (cutL_len _ _ _) h.1
  · obtain ⟨y, h1, rfl⟩ := List.mem_map.mp hx
    have := h.2 _ (mem_cutL2 (enm_mem2 h1))
    exact ⟨added_nms hp nms_nil, Nat.le_trans (added_len _ _ _ _) (by simp; exact this.2)⟩
theorem corner_nm (hp : 0 < p) {n : Nat} {t : List (List Int)} (h : Tws p n t) : 0 ≤ cornerL t ∧ cornerL t < p := by
  unfold cornerL
  have hg : Nms p (gt0 [] t 0) := by
    unfold gt0
    cases e : t[ixs t.length 0]? with
    | none => exact fun _ h => by cases h
    | some z => exact (h.2 z (List.mem_of_getElem? e)).1
  unfold gt0
  cases e : (gt0 [] t 0)[ixs (gt0 [] t 0).length 0]? with
  | none =>
    unfold gt0 at e
    rw [e]; exact ⟨Int.le_refl 0, hp⟩
  | some z =>
    have := hg z (List.mem_of_getElem? e)
    unfold gt0 at e
    rw [e]; exact this
def okR (p : Int) (eq : List (List Int)) (b : Int) : Bool := decide (cornerL (m_shifted_by p eq b) = 0) && !decide (cornerL (m_slope_of p (m_shifted_by p eq b)) = 0)
def rootN (p : Int) (mv : List (List Int)) (back : Int) (s : List Int) : Int := (-(if decide (((m_value_cut p mv (trimL s) ((s.length : Int) + 1)).length : Int) = (s.length : Int) + 1) = true then gt0 (0 : Int) (m_value_cut p mv (trimL s) ((s.length : Int) + 1)) (-1) else 0) * back) % p
def rootS (p : Int) (mv : List (List Int)) (back : Int) : Nat → List Int
  | 0 => [0]
  | k + 1 => rootS p mv back k ++ [rootN p mv back (rootS p mv back k)]
def rootE (p : Int) (eq : List (List Int)) (b : Int) (n : Nat) : List Int := ((rootS p (m_shifted_by p eq b) (bk p (cornerL (m_slope_of p (m_shifted_by p eq b)))) (n - 1)).set 0 b).take n
theorem rootS_len (p : Int) (mv : List (List Int)) (back : Int) : ∀ k, (rootS p mv back k).length = k + 1
  | 0 => rfl
  | k + 1 => by rw [rootS, List.length_append, rootS_len p mv back k]; rfl
theorem okR_f {eq : List (List Int)} {b : Int} (h : ((!decide (cornerL (m_shifted_by p eq b) = 0)) || decide (cornerL (m_slope_of p (m_shifted_by p eq b)) = 0)) = true) : okR p eq b = false := by
  unfold okR
  generalize decide (cornerL (m_shifted_by p eq b) = 0) = u at h ⊢
  generalize decide (cornerL (m_slope_of p (m_shifted_by p eq b)) = 0) = v at h ⊢
  revert h; cases u <;> cases v <;> decide
theorem okR_t {eq : List (List Int)} {b : Int} (h : ((!decide (cornerL (m_shifted_by p eq b) = 0)) || decide (cornerL (m_slope_of p (m_shifted_by p eq b)) = 0)) = false) : okR p eq b = true := by
  unfold okR
  generalize decide (cornerL (m_shifted_by p eq b) = 0) = u at h ⊢
  generalize decide (cornerL (m_slope_of p (m_shifted_by p eq b)) = 0) = v at h ⊢
  revert h; cases u <;> cases v <;> decide
theorem okR_c (hp : 0 < p) {eq : List (List Int)} {b : Int} (hT : Tws p 100 eq) (h : okR p eq b = true) : 0 < cornerL (m_slope_of p (m_shifted_by p eq b)) ∧ cornerL (m_slope_of p (m_shifted_by p eq b)) < p := by
  have h1 := corner_nm hp (slope_tws hp (shifted_tws (c := b) hp hT))
  unfold okR at h
  rw [Bool.and_eq_true, Bool.not_eq_true', decide_eq_false_iff_not] at h
  exact ⟨by have := h.2; omega, h1.2⟩
theorem rootN_nm (hp : 0 < p) (mv : List (List Int)) (back : Int) (s : List Int) : Nm p (rootN p mv back s) := Nm.mod hp
theorem rootS_nm (hp : 0 < p) (mv : List (List Int)) (back : Int) : ∀ k, Nms p (rootS p mv back k)
  | 0 => fun x hx => by rw [rootS, List.mem_singleton] at hx; rw [hx]; exact ⟨Int.le_refl 0, hp⟩
  | k + 1 => nms_app (rootS_nm hp mv back k) fun x hx => by rw [List.mem_singleton.mp hx]; exact rootN_nm hp _ _ _
theorem rootS_nms (hp : 0 < p) {mv : List (List Int)} {back : Int} {s : List Int} {k : Nat} (h : s = rootS p mv back k) : Nms p s := h ▸ rootS_nm hp mv back k
theorem root_fin {eq : List (List Int)} {b many : Int} {s : List Int} {k : Nat} (hm : 0 ≤ many) (h : s = rootS p (m_shifted_by p eq b) (bk p (cornerL (m_slope_of p (m_shifted_by p eq b)))) k) (hk : k = 0 ∨ (s.length : Int) ≤ many) (hb : ¬ (s.length : Int) < many) :
    cutL (s.set (ixs s.length 0) b) none (some many) = rootE p eq b many.toNat := by
  have hl := rootS_len p (m_shifted_by p eq b) (bk p (cornerL (m_slope_of p (m_shifted_by p eq b)))) k
  rw [← h] at hl
  have e : k = many.toNat - 1 := by omega
  rw [cut_to hm]
  unfold rootE
  rw [← e, ← h]; rfl
end
section
variable {P : Program} {w : World} {K : PySem.W.Frag} {mg : Str → Option Value} {base : Heap}
def sp_look_root (K : PySem.W.Frag) (C_NoPrime C_NoRoot : Addr) : Sp := fun vs H Q E => ∃ (x v_equation : V) (b : Int), vs = [x, v_equation, .int b] ∧ Th K H x ∧ (isPr x = false → ∀ H', Ex H H' → E (.ref C_NoPrime) none H') ∧
  (∀ p : Int, x = .int p → Pr p → ∃ (equation : List (List Int)), rT K (rT K rI) H equation v_equation ∧ Tws p 100 equation ∧ (okR p equation b = true → ∀ v H', Ex H H' → rT K (rT K rI) H' (m_shifted_by p equation b) v → Q v H') ∧ (okR p equation b = false → ∀ H', Ex H H' → E (.ref C_NoRoot) none H'))
theorem ok_look_root {f : Addr} {fd : FuncData} (F : Fun K "look_root" "look_root" s_look_root f fd) (D_look_prime : Df P w K mg base (L2N.CX P w) 3 "look_prime" ["p"] (sp_look_prime K C_NoPrime)) (D_shifted_by : Df P w K mg base CX0 4 "shifted_by" ["p", "two", "c"] (sp_shifted_by K)) (x_NoRoot : Xc K mg "NoRoot" C_NoRoot) (D_corner : Df P w K mg base CX0 1 "corner" ["two"] (sp_corner K)) (D_slope_of : Df P w K mg base CX0 4 "slope_of" ["p", "two"] (sp_slope_of K)) : FnOk P w K mg base (L2N.CX P w) 5 f fd ["p", "equation", "b"] (sp_look_root K C_NoPrime C_NoRoot) := by
  refine okN F sc_look_root (fun vs H Q E h => ?_) (fun cdv A outer s H vs Q E hr h => ?_)
  · obtain ⟨x, v_equation, b, rfl, _⟩ := h; rfl
  · obtain ⟨x, v_equation, b, rfl, th, qP, qq⟩ := h
    refine ⟨_, (pss_cons (ps_expr (pe_call D_look_prime.ok (hr.mono (by omega)) (by rfl) D_look_prime.g D_look_prime.kp D_look_prime.b .nil (L2N.passes_call (L2N.takes_of rfl rfl rfl rfl) (fun _ _ _ _ h => h)) (pa_cons (pv 0) pa_nil)))
 (pss_cons (ps_set (i := 3) sc_look_root.nd rfl (Or.inl rfl) (pe_call D_shifted_by.ok (hr.mono (by omega)) (by rfl) D_shifted_by.g D_shifted_by.kp D_shifted_by.b .nil pass0 (pa_cons (pv 0) (pa_cons (pv 1) (pa_cons (pv 2) pa_nil)))))
 (pss_cons (ps_if (PW.pt (pw_or (pt_cmpR op_ne (pe_call D_corner.ok (hr.mono (by omega)) (by rfl) D_corner.g D_corner.kp D_corner.b .nil pass0 (pa_cons (pv 3) pa_nil)) pe_int (nomark _)) (pw_or1 (pt_cmpR op_eq (pe_call D_corner.ok (hr.mono (by omega)) (by rfl) D_corner.g D_corner.kp D_corner.b .nil pass0 (pa_cons (pe_call D_slope_of.ok (hr.mono (by omega)) (by rfl) D_slope_of.g D_slope_of.kp D_slope_of.b .nil pass0 (pa_cons (pv 0) (pa_cons (pv 3) pa_nil))) pa_nil)) pe_int (nomark _))))) (pss_one (L2N.ps_raise rfl (L2N.takes_of rfl rfl rfl rfl) (L2N.pmk_own PySem.F.excBase_ValueError x_NoRoot.x x_NoRoot.g x_NoRoot.kp (raises_own x_NoRoot.sb x_NoRoot.ty) rfl))) pss_nil)
 (pss_one (ps_ret (pv 3)))))), ?_⟩
    have F0 : Ex H H := Ex.refl H
    refine s_look rfl th (fun p0 hx0 h3 H0 e0 => ?_) qP
    replace F0 := F0.trans e0
    subst hx0
    have h3p := h3.pr
    clear h3
    generalize ((p0 : Nat) : Int) = p at *
    obtain ⟨equation, f_equation, hT, qs, qn⟩ := qq p rfl h3p
    replace f_equation := Me.ex e0 f_equation
    have hp := h3p.le
    have hM := shifted_tws (p := p) (c := b) (by omega) hT
    refine q_asg (R := (rT K (rT K rI))) (er_call (eac er_iv (eac (er_var rfl f_equation) (eac er_iv ea0))) (gv_shifted_by (by first | assumption | omega | (simp only [Bool.and_eq_true, Bool.or_eq_true, Bool.not_eq_true', Bool.and_eq_false_iff, Bool.or_eq_false_iff, Bool.not_eq_false', decide_eq_true_eq, decide_eq_false_iff_not, List.length_append, List.length_cons, List.length_nil, List.length_map, List.length_range, List.length_set, rng_len, enm_len, repL_len] at *; omega)) (hT.mono (by omega)))) fun v3 H1 e2 f_moved4 => ?_
    replace f_equation := Me.ex e2 f_equation
    replace F0 := F0.trans e2
    refine q_when (et_or (et_t (er_neI (er_call (eac (er_var rfl f_moved4) ea0) (gv_corner )) er_int)) fun hc5 => (et_t (er_eqI (er_call (eac (er_call (eac er_iv (eac (er_var rfl f_moved4) ea0)) (gv_slope_of (by first | assumption | omega | (simp only [Bool.and_eq_true, Bool.or_eq_true, Bool.not_eq_true', Bool.and_eq_false_iff, Bool.or_eq_false_iff, Bool.not_eq_false', decide_eq_true_eq, decide_eq_false_iff_not, List.length_append, List.length_cons, List.length_nil, List.length_map, List.length_range, List.length_set, rng_len, enm_len, repL_len] at *; omega)) (hM.mono (by omega)))) ea0) (gv_corner )) er_int))) (fun hb_1 H6 e7 => ?_) (fun hb_1 H6 e7 => ?_)
    ·
      have hb_1' := hb_1
      try simp only [Bool.and_eq_true, Bool.or_eq_true, Bool.not_eq_true', Bool.and_eq_false_iff, Bool.or_eq_false_iff, Bool.not_eq_false', decide_eq_true_eq, decide_eq_false_iff_not] at hb_1'
      replace f_equation := Me.ex e7 f_equation
      replace f_moved4 := Me.ex e7 f_moved4
      replace F0 := F0.trans e7
      exact qn (okR_f hb_1) _ F0
    have hb_1' := hb_1
    try simp only [Bool.and_eq_true, Bool.or_eq_true, Bool.not_eq_true', Bool.and_eq_false_iff, Bool.or_eq_false_iff, Bool.not_eq_false', decide_eq_true_eq, decide_eq_false_iff_not] at hb_1'
    replace f_equation := Me.ex e7 f_equation
    replace f_moved4 := Me.ex e7 f_moved4
    replace F0 := F0.trans e7
    exact s_ret (R := rT K (rT K rI)) (er_var rfl f_moved4) fun v H' e r => qs (okR_t hb_1) v H' (F0.trans e) r

def sp_root_entries (K : PySem.W.Frag) (C_NoPrime C_NoRoot : Addr) : Sp := fun vs H Q E => ∃ (x v_equation : V) (b many : Int), vs = [x, v_equation, .int b, .int many] ∧ Th K H x ∧ (isPr x = false → ∀ H', Ex H H' → E (.ref C_NoPrime) none H') ∧
  (∀ p : Int, x = .int p → Pr p → ∃ (equation : List (List Int)), rT K (rT K rI) H equation v_equation ∧ Tws p 100 equation ∧ (0 ≤ many ∧ many ≤ 100) ∧ (okR p equation b = true → ∀ l H', H l = none → Ex H H' → Lt rI H' l (rootE p equation b many.toNat) → Q (.ref l) H') ∧ (okR p equation b = false → ∀ H', Ex H H' → E (.ref C_NoRoot) none H'))
theorem ok_root_entries {f : Addr} {fd : FuncData} (F : Fun K "root_entries" "root_entries" s_root_entries f fd) (D_look_root : Df P w K mg base (L2N.CX P w) 5 "look_root" ["p", "equation", "b"] (sp_look_root K C_NoPrime C_NoRoot)) (D_back_of : Df P w K mg base CX0 1 "back_of" ["p", "number"] (sp_back_of K)) (D_corner : Df P w K mg base CX0 1 "corner" ["two"] (sp_corner K)) (n_len : mg "len" = none) (D_value_cut : Df P w K mg base CX0 3 "value_cut" ["p", "two", "poly", "many"] (sp_value_cut K)) (D_slope_of : Df P w K mg base CX0 4 "slope_of" ["p", "two"] (sp_slope_of K)) (D_trimmed : Df P w K mg base CX0 1 "trimmed" ["numbers"] (sp_trimmed K)) : FnOk P w K mg base (L2N.CX P w) 6 f fd ["p", "equation", "b", "many"] (sp_root_entries K C_NoPrime C_NoRoot) := by
  refine okN F sc_root_entries (fun vs H Q E h => ?_) (fun cdv A outer s H vs Q E hr h => ?_)
  · obtain ⟨x, v_equation, b', many, rfl, _⟩ := h; rfl
  · obtain ⟨x, v_equation, b', many, rfl, th, qP, qq⟩ := h
    refine ⟨_, (pss_cons (ps_set (i := 4) sc_root_entries.nd rfl (Or.inl rfl) (pe_call D_look_root.ok (hr.mono (by omega)) (by rfl) D_look_root.g D_look_root.kp D_look_root.b .nil (L2N.passes_call (L2N.takes_of rfl rfl rfl rfl) (fun _ _ _ _ h => h)) (pa_cons (pv 0) (pa_cons (pv 1) (pa_cons (pv 2) pa_nil)))))
 (pss_cons (ps_set (i := 5) sc_root_entries.nd rfl (Or.inl rfl) (pe_call D_back_of.ok (hr.mono (by omega)) (by rfl) D_back_of.g D_back_of.kp D_back_of.b .nil pass0 (pa_cons (pv 0) (pa_cons (pe_call D_corner.ok (hr.mono (by omega)) (by rfl) D_corner.g D_corner.kp D_corner.b .nil pass0 (pa_cons (pe_call D_slope_of.ok (hr.mono (by omega)) (by rfl) D_slope_of.g D_slope_of.kp D_slope_of.b .nil pass0 (pa_cons (pv 0) (pa_cons (pv 4) pa_nil))) pa_nil)) pa_nil))))
 (pss_cons (ps_set (i := 6) sc_root_entries.nd rfl (Or.inl rfl) (pe_lst (pa_cons pe_int pa_nil)))
 (pss_cons (ps_while (passes_of rfl) (pt_cmpR op_lt (pe_callB (call_len_seqK K) (by rfl) n_len (by decide +kernel) (pa_cons (pv 6) pa_nil)) (pv 3) (nomark _)) (pss_cons (ps_set (i := 7) sc_root_entries.nd rfl (Or.inl rfl) (pe_call D_value_cut.ok (hr.mono (by omega)) (by rfl) D_value_cut.g D_value_cut.kp D_value_cut.b .nil pass0 (pa_cons (pv 0) (pa_cons (pv 4) (pa_cons (pe_call D_trimmed.ok (hr.mono (by omega)) (by rfl) D_trimmed.g D_trimmed.kp D_trimmed.b .nil pass0 (pa_cons (pv 6) pa_nil)) (pa_cons (pe_op op_add (pe_callB (call_len_seqK K) (by rfl) n_len (by decide +kernel) (pa_cons (pv 6) pa_nil)) pe_int) pa_nil))))))
 (pss_cons (ps_set (i := 8) sc_root_entries.nd rfl (Or.inl rfl) pe_int)
 (Evl.pss_cut (ps_if (pt_cmpR op_eq (pe_callB (call_len_seqK K) (by rfl) n_len (by decide +kernel) (pa_cons (pv 7) pa_nil)) (pe_op op_add (pe_callB (call_len_seqK K) (by rfl) n_len (by decide +kernel) (pa_cons (pv 6) pa_nil)) pe_int) (nomark _)) (pss_one (ps_set (i := 8) sc_root_entries.nd rfl (Or.inl rfl) (pe_ix (ix_tupK K) (pv 7) (pe_un un_neg pe_int) (fun _ _ => rfl)))) pss_nil)
 (pss_one (ps_expr (pe_bm PySem.F.plainAttrs_list PySem.F.slot_list_append PySem.F.type_list_append mt_append (pv 6) (pa_cons (pe_op op_mod (pe_op op_mul (pe_un un_neg (pv 8)) (pv 5)) (pv 0)) pa_nil))))))))
 (pss_cons (ps_asg (pv 2) (pg_sub (pv 6) pe_int set_list))
 (pss_one (ps_ret (pe_slice (sl_listK K) (pv 6) po_none (po_some (pv 3)))))))))), ?_⟩
    have F0 : Ex H H := Ex.refl H
    refine q_asg0 ?_
    refine go_callA ?_
    refine go_cons ?_
    refine ⟨_, rfl, ?_⟩
    refine go_cons ?_
    refine ⟨_, rfl, ?_⟩
    refine go_cons ?_
    refine ⟨_, rfl, ?_⟩
    refine go_nil ?_
    refine ⟨x, v_equation, b', rfl, th, qP, fun p hx hP => ?_⟩
    subst hx
    obtain ⟨equation, f_equation, hT, hmany, qs, qn⟩ := qq p rfl hP
    refine ⟨equation, f_equation, hT, fun hok v0 H0 e0 f0 => ?_, fun hok H0 e0 => qn hok H0 e0⟩
    have hp := hP.le
    have hM := shifted_tws (p := p) (c := b') (by omega) hT
    have hc := okR_c (by omega) hT hok
    have hSl := slope_tws (p := p) (by omega) hM
    have hbk := (bk_ok hP hc).2
    replace f_equation := Me.ex e0 f_equation
    replace F0 := F0.trans e0
    refine q_asgI (er_call (eac er_iv (eac (er_call (eac (er_call (eac er_iv (eac (er_var rfl f0) ea0)) (gv_slope_of (by first | assumption | omega | (simp only [Bool.and_eq_true, Bool.or_eq_true, Bool.not_eq_true', Bool.and_eq_false_iff, Bool.or_eq_false_iff, Bool.not_eq_false', decide_eq_true_eq, decide_eq_false_iff_not, List.length_append, List.length_cons, List.length_nil, List.length_map, List.length_range, List.length_set, rng_len, enm_len, repL_len] at *; omega)) (hM.mono (by omega)))) ea0) (gv_corner )) ea0)) (gv_back_of hP hc)) fun H1 e2 => ?_
    replace f_equation := Me.ex e2 f_equation
    replace f0 := Me.ex e2 f0
    replace F0 := F0.trans e2
    refine q_asgL (el_lst (R := rI) (eas er_int eas0) (by first | decide | simp)) fun p5 H3 n6 e4 l7 => ?_
    have n0p5 : _ = none := fresh_back F0 n6
    replace f_equation := Me.ex e4 f_equation
    replace f0 := Me.ex e4 f0
    replace F0 := F0.trans e4
    have k8 : Kt K _ _ := Kt.refl H3
    refine q_while (fun m σ' H' => ∃ (k1_ : Nat) (s1 : (List Int)) (j9 : Option V) (j10 : Option V), m = (many.toNat - s1.length) ∧ (s1 = rootS p (m_shifted_by p equation b') (bk p (cornerL (m_slope_of p (m_shifted_by p equation b')))) k1_) ∧ (k1_ = 0 ∨ (s1.length : Int) ≤ many) ∧ σ' = [some (.int p), some v_equation, some (.int b'), some (.int many), some v0, some (.int (((bk p ((cornerL (m_slope_of p ((m_shifted_by p equation b'))))))))), some (.ref p5), j9, j10] ∧ Ex H H' ∧ Kt K H3 H' ∧ Lt rI H' p5 s1) _ ⟨0, (([(0 : Int)] : List Int)), _, _, rfl, rfl, (.inl rfl), rfl, F0, k8, l7⟩ ?_
    rintro _ _ H11 ⟨k1_, s1, j9, j10, rfl, hw1_0, hw1_1, rfl, F0, k8, l7⟩
    replace f_equation := Mkt.kt k8 f_equation
    replace f0 := Mkt.kt k8 f0
    have hlen := rootS_len p (m_shifted_by p equation b') (bk p (cornerL (m_slope_of p (m_shifted_by p equation b')))) k1_
    rw [← hw1_0] at hlen
    have htl := trim_len (z := (0 : Int)) s1
    have hns := rootS_nms (p := p) (by omega) hw1_0
    refine ⟨_, (et_t (er_cmp (er_lenL (er_var rfl (Lt.rl l7))) er_iv)), fun hb_1 H13 e12 => ?_, fun hb_1 H13 e12 => ?_⟩
    ·
      have hb_1' := hb_1
      try simp only [Bool.and_eq_true, Bool.or_eq_true, Bool.not_eq_true', Bool.and_eq_false_iff, Bool.or_eq_false_iff, Bool.not_eq_false', decide_eq_true_eq, decide_eq_false_iff_not] at hb_1'
      replace f_equation := Me.ex e12 f_equation
      replace f0 := Me.ex e12 f0
      replace l7 := Lt.ex l7 e12
      replace F0 := F0.trans e12
      replace k8 := k8.trans (Kt.ex e12)
      refine ⟨fun σ2 H2 => ∃ m', m' < (many.toNat - s1.length) ∧ (fun m σ' H' => ∃ (k1_ : Nat) (s1 : (List Int)) (j9 : Option V) (j10 : Option V), m = (many.toNat - s1.length) ∧ (s1 = rootS p (m_shifted_by p equation b') (bk p (cornerL (m_slope_of p (m_shifted_by p equation b')))) k1_) ∧ (k1_ = 0 ∨ (s1.length : Int) ≤ many) ∧ σ' = [some (.int p), some v_equation, some (.int b'), some (.int many), some v0, some (.int (((bk p ((cornerL (m_slope_of p ((m_shifted_by p equation b'))))))))), some (.ref p5), j9, j10] ∧ Ex H H' ∧ Kt K H3 H' ∧ Lt rI H' p5 s1) m' σ2 H2, fun _ _ h => h, ?_⟩
      refine q_asg (R := (rT K rI)) (er_call (eac er_iv (eac (er_var rfl f0) (eac (er_call (eacO rfl l7 ea0) (gv_trimmed_L )) (eac (er_op0 (er_lenL (er_var rfl (Lt.rl l7))) er_int) ea0)))) (gv_value_cut (by first | assumption | omega | (simp only [Bool.and_eq_true, Bool.or_eq_true, Bool.not_eq_true', Bool.and_eq_false_iff, Bool.or_eq_false_iff, Bool.not_eq_false', decide_eq_true_eq, decide_eq_false_iff_not, List.length_append, List.length_cons, List.length_nil, List.length_map, List.length_range, List.length_set, rng_len, enm_len, repL_len] at *; omega)) (hM.mono (by omega)) (fun y hy => hns y (trim_mem hy)) (Nat.le_trans htl (by omega)) (by first | assumption | omega | (simp only [Bool.and_eq_true, Bool.or_eq_true, Bool.not_eq_true', Bool.and_eq_false_iff, Bool.or_eq_false_iff, Bool.not_eq_false', decide_eq_true_eq, decide_eq_false_iff_not, List.length_append, List.length_cons, List.length_nil, List.length_map, List.length_range, List.length_set, rng_len, enm_len, repL_len] at *; omega)))) fun v16 H14 e15 f_value17 => ?_
      replace f_equation := Me.ex e15 f_equation
      replace f0 := Me.ex e15 f0
      replace l7 := Lt.ex l7 e15
      replace F0 := F0.trans e15
      replace k8 := k8.trans (Kt.ex e15)
      refine q_asgI er_int fun H18 e19 => ?_
      replace f_equation := Me.ex e19 f_equation
      replace f0 := Me.ex e19 f0
      replace l7 := Lt.ex l7 e19
      replace f_value17 := Me.ex e19 f_value17
      replace F0 := F0.trans e19
      replace k8 := k8.trans (Kt.ex e19)
      have k22 : Kt K _ _ := Kt.refl H18
      refine ⟨fun σ' H' => σ' = [some (.int p), some v_equation, some (.int b'), some (.int many), some v0, some (.int (((bk p ((cornerL (m_slope_of p ((m_shifted_by p equation b'))))))))), some (.ref p5), some v16, some (.int ((if (decide ((((m_value_cut p ((m_shifted_by p equation b')) (((trimL s1))) (((s1.length : Int) + (1 : Int))))).length : Int) = ((s1.length : Int) + (1 : Int)))) = true then (gt0 (0 : Int) (m_value_cut p ((m_shifted_by p equation b')) (((trimL s1))) (((s1.length : Int) + (1 : Int)))) (-(1 : Int))) else (0 : Int))))] ∧ Ex H H' ∧ Kt K H18 H' ∧ Lt rI H' p5 s1, ?_, ?_⟩
      · refine s_if (et_t (er_eqI (er_lenT (er_var rfl f_value17)) (er_op0 (er_lenL (er_var rfl (Lt.rl l7))) er_int))) (fun hb_2 H20 e21 => ?_) (fun hb_2 H20 e21 => ?_)
        ·
          have hb_2' := hb_2
          try simp only [Bool.and_eq_true, Bool.or_eq_true, Bool.not_eq_true', Bool.and_eq_false_iff, Bool.or_eq_false_iff, Bool.not_eq_false', decide_eq_true_eq, decide_eq_false_iff_not] at hb_2'
          replace f_equation := Me.ex e21 f_equation
          replace f0 := Me.ex e21 f0
          replace l7 := Lt.ex l7 e21
          replace f_value17 := Me.ex e21 f_value17
          replace F0 := F0.trans e21
          replace k8 := k8.trans (Kt.ex e21)
          replace k22 := k22.trans (Kt.ex e21)
          refine s_asgI (er_ixT0 (0 : Int) (er_var rfl f_value17) (er_neg er_int) (by omega) (by omega)) fun H23 e24 => ?_
          replace f_equation := Me.ex e24 f_equation
          replace f0 := Me.ex e24 f0
          replace l7 := Lt.ex l7 e24
          replace f_value17 := Me.ex e24 f_value17
          replace F0 := F0.trans e24
          replace k8 := k8.trans (Kt.ex e24)
          replace k22 := k22.trans (Kt.ex e24)
          refine ⟨(by (try rw [hb_2]); rfl), F0, k22, (by (try rw [hb_2]); exact l7)⟩
        ·
          have hb_2' := hb_2
          try simp only [Bool.and_eq_true, Bool.or_eq_true, Bool.not_eq_true', Bool.and_eq_false_iff, Bool.or_eq_false_iff, Bool.not_eq_false', decide_eq_true_eq, decide_eq_false_iff_not] at hb_2'
          replace f_equation := Me.ex e21 f_equation
          replace f0 := Me.ex e21 f0
          replace l7 := Lt.ex l7 e21
          replace f_value17 := Me.ex e21 f_value17
          replace F0 := F0.trans e21
          replace k8 := k8.trans (Kt.ex e21)
          replace k22 := k22.trans (Kt.ex e21)
          refine ⟨(by (try rw [hb_2]); rfl), F0, k22, (by (try rw [hb_2]); exact l7)⟩
      rintro _ H25 ⟨rfl, F0, kt26, l7⟩
      replace k8 := k8.trans kt26
      replace f_equation := Mkt.kt kt26 f_equation
      replace f0 := Mkt.kt kt26 f0
      replace f_value17 := Mkt.kt kt26 f_value17
      refine s_app (j := 6) l7 rfl (er_op (er_op (er_neg er_iv) er_iv (cmul_r (by omega))) er_iv (by omega)) (by first | omega | assumption | (simp only [Bool.and_eq_true, Bool.or_eq_true, Bool.not_eq_true', Bool.and_eq_false_iff, Bool.or_eq_false_iff, Bool.not_eq_false', decide_eq_true_eq, decide_eq_false_iff_not, List.length_append, List.length_cons, List.length_nil, List.length_map, List.length_range, List.length_set, rng_len, enm_len, repL_len] at *; omega)) fun H27 c28 l29 => ?_
      have kt30 : Kt K _ _ := Lt.kt l7 c28
      replace k8 := k8.trans kt30
      replace f_equation := Mkt.kt kt30 f_equation
      replace f0 := Mkt.kt kt30 f0
      replace f_value17 := Mkt.kt kt30 f_value17
      replace F0 := C1.ofNew F0 n0p5 c28
      exact ⟨(many.toNat - (((s1 ++ [(((-(if (decide ((((m_value_cut p ((m_shifted_by p equation b')) (((trimL s1))) (((s1.length : Int) + (1 : Int))))).length : Int) = ((s1.length : Int) + (1 : Int)))) = true then (gt0 (0 : Int) (m_value_cut p ((m_shifted_by p equation b')) (((trimL s1))) (((s1.length : Int) + (1 : Int)))) (-(1 : Int))) else (0 : Int))) * ((bk p ((cornerL (m_slope_of p ((m_shifted_by p equation b')))))))) % p)]))).length), (by simp only [List.length_append, List.length_cons, List.length_nil]; omega), ⟨k1_ + 1, ((s1 ++ [(((-(if (decide ((((m_value_cut p ((m_shifted_by p equation b')) (((trimL s1))) (((s1.length : Int) + (1 : Int))))).length : Int) = ((s1.length : Int) + (1 : Int)))) = true then (gt0 (0 : Int) (m_value_cut p ((m_shifted_by p equation b')) (((trimL s1))) (((s1.length : Int) + (1 : Int)))) (-(1 : Int))) else (0 : Int))) * ((bk p ((cornerL (m_slope_of p ((m_shifted_by p equation b')))))))) % p)])), _, _, rfl, (by rw [rootS, ← hw1_0]; rfl), (.inr (by simp only [List.length_append, List.length_cons, List.length_nil]; omega)), rfl, F0, k8, l29⟩⟩
    have hb_1' := hb_1
    try simp only [Bool.and_eq_true, Bool.or_eq_true, Bool.not_eq_true', Bool.and_eq_false_iff, Bool.or_eq_false_iff, Bool.not_eq_false', decide_eq_true_eq, decide_eq_false_iff_not] at hb_1'
    replace f_equation := Me.ex e12 f_equation
    replace f0 := Me.ex e12 f0
    replace l7 := Lt.ex l7 e12
    replace F0 := F0.trans e12
    replace k8 := k8.trans (Kt.ex e12)
    refine q_set (K := K) (j := 6) l7 rfl er_iv er_int (by omega) (by omega) fun H31 c32 l33 => ?_
    have kt34 : Kt K _ _ := Lt.kt l7 c32
    replace f_equation := Mkt.kt kt34 f_equation
    replace f0 := Mkt.kt kt34 f0
    replace F0 := C1.ofNew F0 n0p5 c32
    exact go_L (el_sl (er_var rfl (Lt.rl l33)) eo0 (eo1 er_iv)) fun p9 H9 n9 e9 l9 => qs hok p9 H9 (fresh_back F0 n9) (F0.trans e9) (by have hz := root_fin (many := many) hmany.1 hw1_0 hw1_1 hb_1'; exact hz ▸ l9)

end
section
open L2N (Zn)
open L2H HotX
variable {P : Program} {w : World} {K : PySem.W.Frag} {mg : Str → Option Value} {base : Heap}
/-! ### _law_only: the kind of a refusal -/
/-- the classes by the places of the law's list -/
structure Kcs where
  p : Addr
  m : Addr
  o : Addr
  r : Addr
  g : Addr
  z : List Addr
  d : Addr
structure Kx (K : PySem.W.Frag) (c : Kcs) (C : Addr) (i : Int) : Prop where
  ec : ExcC K C
  r : 0 ≤ i ∧ i < 6
  h0 : PySem.W.kitOne K (.ref C) (.ref c.p) = some (decide (i = 0))
  h1 : PySem.W.kitOne K (.ref C) (.ref c.m) = some (decide (i = 1))
  h2 : PySem.W.kitOne K (.ref C) (.ref c.o) = some (decide (i = 2))
  h3 : PySem.W.kitOne K (.ref C) (.ref c.r) = some (decide (i = 3))
  h4 : PySem.W.kitOne K (.ref C) (.ref c.g) = some (decide (i = 4))
  h5 : PySem.W.kitAny K (.ref C) (c.z.map Value.ref) = some (decide (i = 5))
  hd : PySem.W.kitOne K (.ref C) (.ref c.d) = some true
  hv : PySem.W.kitOne K (.ref C) (.type "ValueError") = some true
def sp__law_only (K : PySem.W.Frag) (c : Kcs) : Addr × Obj → Sp := fun q vs H Q _ => ∃ (C : Addr) (i due : Int), vs = [.ref q.1, .int due] ∧ Kx K c C i ∧ Zn (.ref C) none q.2 ∧ (∃ xs, q.2.data = .fields xs) ∧ (0 ≤ due ∧ due < 6) ∧ ∀ H', Ex H H' → Q (.bl (decide (due = i))) H'
theorem er_isQ {a C : Addr} {σ : L2.St} {H : Hp} {c : Addr} {b : Bool} (h0 : σ[0]? = some (some (.ref a))) (hk : PySem.W.kitOne K (.ref C) (.ref c) = some b) : Er rB (tCB (rIsE K C a) (tCons (tVar 0) (tCons (tC (.ref c)) tNil))) σ H b := fun H1 e Q q =>
  ⟨_, h0, .ref c, .ref c, b, rfl, fun u r => r, hk, q _ H1 (Ex.refl H1) rfl⟩
theorem er_isQv {a C : Addr} {σ : L2.St} {H : Hp} {b : Bool} (h0 : σ[0]? = some (some (.ref a))) (hk : PySem.W.kitOne K (.ref C) (.type "ValueError") = some b) : Er rB (tCB (rIsE K C a) (tCons (tVar 0) (tCons (tC (.ty "ValueError")) tNil))) σ H b := fun H1 e Q q =>
  ⟨_, h0, .ty "ValueError", .type "ValueError", b, rfl, fun u r => r, hk, q _ H1 (Ex.refl H1) rfl⟩
theorem go_tup5 {a b c d e : V} {σ : L2.St} {H : Hp} {Q : VK} (k : ∀ p, H p = none → Q (.ref p) (upd H p (.tup [a, b, c, d, e]))) : tTup (tCons (tC a) (tCons (tC b) (tCons (tC c) (tCons (tC d) (tCons (tC e) tNil))))) σ H Q := ⟨(by show 5 ≤ sizeLine; decide), k⟩
theorem ok__law_only {f : Addr} {fd : FuncData} (F : Fun K "_law_only" "_law_only" s__law_only f fd) {cp cm co cr cg c1 c2 c3 c4 c5 cd : Addr} (n_isinstance : mg "isinstance" = none) (g_NoPrime : mg "NoPrime" = some (.ref cp)) (g_NoMatch : mg "NoMatch" = some (.ref cm)) (g_NoOver : mg "NoOver" = some (.ref co)) (g_NoRoot : mg "NoRoot" = some (.ref cr))
    (g_DigitError : mg "DigitError" = some (.ref cd)) (n_ValueError : mg "ValueError" = none) (g_TooGreat : mg "TooGreat" = some (.ref cg)) (g_NoRow : mg "NoRow" = some (.ref c1)) (g_TooMany : mg "TooMany" = some (.ref c2)) (g_NoText : mg "NoText" = some (.ref c3)) (g_NoName : mg "NoName" = some (.ref c4)) (g_NoSaying : mg "NoSaying" = some (.ref c5)) (n_range : mg "range" = none) :
    FnE P w K mg base CX0 1 f fd ["_law_e", "_law_due"] (sp__law_only K ⟨cp, cm, co, cr, cg, [c1, c2, c3, c4, c5], cd⟩) := by
  refine fnE_of F sc__law_only (fun q vs H Q E h => ?_) (fun cdv A outer s H vs Q E q hot hr h => ?_)
  · obtain ⟨C, i, due, rfl, _⟩ := h; rfl
  · obtain ⟨C, i, due, rfl, kx, hz, hf, hdue, an⟩ := h
    have hq : q ∈ (cxH CX0 P w K mg base ["_law_e", "_law_due", "_law_kinds", "_law_k"] "_law_only" (defScope s__law_only) f cdv A outer s H E q).pn := List.mem_cons_self
    have hc : HotC (cxH CX0 P w K mg base ["_law_e", "_law_due", "_law_kinds", "_law_k"] "_law_only" (defScope s__law_only) f cdv A outer s H E q) := ⟨q, hot, hq⟩
    refine ⟨_, (pss_cons (ps_set (i := 2) sc__law_only.nd rfl (Or.inl rfl) (pe_lst
        (pa_cons (pe_callB (call_isQ kx.ec hq hz hf) (by rfl) n_isinstance (by decide +kernel) (pa_cons (pv 0) (pa_cons (pe_glob (v := .ref cp) (by rfl) g_NoPrime rfl) pa_nil)))
        (pa_cons (pe_callB (call_isQ kx.ec hq hz hf) (by rfl) n_isinstance (by decide +kernel) (pa_cons (pv 0) (pa_cons (pe_glob (v := .ref cm) (by rfl) g_NoMatch rfl) pa_nil)))
        (pa_cons (pe_callB (call_isQ kx.ec hq hz hf) (by rfl) n_isinstance (by decide +kernel) (pa_cons (pv 0) (pa_cons (pe_glob (v := .ref co) (by rfl) g_NoOver rfl) pa_nil)))
        (pa_cons (pe_callB (call_isQ kx.ec hq hz hf) (by rfl) n_isinstance (by decide +kernel) (pa_cons (pv 0) (pa_cons (pe_glob (v := .ref cr) (by rfl) g_NoRoot rfl) pa_nil))) pa_nil))))))
      (pss_cons (ps_set (i := 2) sc__law_only.nd rfl (Or.inl rfl) (pe_op op_cat (pv 2) (pe_lst
        (pa_cons (pe_callB (call_isQ kx.ec hq hz hf) (by rfl) n_isinstance (by decide +kernel) (pa_cons (pv 0) (pa_cons (pe_glob (v := .ref cg) (by rfl) g_TooGreat rfl) pa_nil)))
        (pa_cons (pe_callB (call_isQt kx.ec hq hz hf) (by rfl) n_isinstance (by decide +kernel) (pa_cons (pv 0) (pa_cons (pe_tup (pa_cons (pe_glob (v := .ref c1) (by rfl) g_NoRow rfl) (pa_cons (pe_glob (v := .ref c2) (by rfl) g_TooMany rfl) (pa_cons (pe_glob (v := .ref c3) (by rfl) g_NoText rfl) (pa_cons (pe_glob (v := .ref c4) (by rfl) g_NoName rfl) (pa_cons (pe_glob (v := .ref c5) (by rfl) g_NoSaying rfl) pa_nil)))))) pa_nil))) pa_nil)))))
      (pss_one (ps_ret (pe_and (pe_callB (call_isQ kx.ec hq hz hf) (by rfl) n_isinstance (by decide +kernel) (pa_cons (pv 0) (pa_cons (pe_glob (v := .ref cd) (by rfl) g_DigitError rfl) pa_nil)))
        (pe_and (pe_callB (call_isQ kx.ec hq hz hf) (by rfl) n_isinstance (by decide +kernel) (pa_cons (pv 0) (pa_cons (pe_bltn (v := .ty "ValueError") (by rfl) n_ValueError (by decide +kernel) rfl) pa_nil)))
        (pe_one (pe_cmpR (op_eqDK K (by have := hr.un; show (A.deeper _).units + 64 < cLine; omega)) (pv 2) (pe_lcH (own := [("_law_k", 3)]) hc sc__law_only.nd (pi_range1H (by rfl) n_range (pa_cons pe_int pa_nil)) (blkOk_by (own := [("_law_k", 3)]) (N := ["_law_e", "_law_due", "_law_kinds", "_law_k"]) (sc := defScope s__law_only) (by decide +kernel))
          (fun _ _ _ _ _ => (pg_name (i := 3) sc__law_only.nd rfl (Or.inl rfl))) (fun _ _ _ _ _ => (pe_cmpR op_eq (pv 1) (pv 3) (nomark _)))) (nomark _))))))))), ?_⟩
    have F0 : Ex H H := Ex.refl H
    refine q_asgL (R := rB) (el_lst (R := rB) (eas (er_isQ rfl kx.h0) (eas (er_isQ rfl kx.h1) (eas (er_isQ rfl kx.h2) (eas (er_isQ rfl kx.h3) eas0)))) (by simp)) fun p1 H1 n1 e1 l1 => ?_
    refine q_asg0 ?_
    refine go_opK ?_
    refine ⟨_, rfl, ?_⟩
    refine go_lstA (go_cons ?_)
    refine go_B (er_isQ rfl kx.h4) fun H2 e2 => go_cons ?_
    refine ⟨_, rfl, ?_⟩
    refine go_cons ?_
    refine go_tup5 fun t nt => ?_
    refine go_nil ?_
    refine ⟨t, _, _, _, rfl, upd_same, .cons (.own _) (.cons (.own _) (.cons (.own _) (.cons (.own _) (.cons (.own _) .nil)))), kx.h5, ?_⟩
    have e3 := Ex.new (o := .tup [.ref c1, .ref c2, .ref c3, .ref c4, .ref c5]) nt
    refine go_nil ?_
    refine go_L (el_lst (R := rB) (eas er_bK (eas er_bK eas0)) (by simp)) fun p4 H4 n4 e4 l4 => ?_
    refine go_L (el_catW (R := rB) (ew_K ((((l1.ex e2).ex e3)).ex e4)) (ew_K l4) (by simp)) fun p5 H5 n5 e5 l5 => ?_
    refine s_ret (R := rB) (er_andV (er_isQ rfl kx.hd) fun _ => er_andV (er_isQv rfl kx.hv) fun _ => er_eqD (K := K) (R := rL K rB) (er_var rfl (Lt.rl l5)) (El.er (el_lcR1 (K := K) (R := rB) er_int (by decide) (fun _ => rfl) fun x H6 e6 hx => er_eqI er_iv er_iv))) fun v H7 e7 r => ?_
    cases r
    have z := an _ ((((e1.trans e2).trans (e3.trans e4)).trans e5).trans e7)
    have key : ((true && (true && decide (([decide (i = 0), decide (i = 1), decide (i = 2), decide (i = 3)] ++ [decide (i = 4), decide (i = 5)]) = (rng 0 6).map fun x => decide (due = x)))) : Bool) = decide (due = i) := by
      have hr1 := kx.r
      have hi : i = 0 ∨ i = 1 ∨ i = 2 ∨ i = 3 ∨ i = 4 ∨ i = 5 := by omega
      have hd : due = 0 ∨ due = 1 ∨ due = 2 ∨ due = 3 ∨ due = 4 ∨ due = 5 := by omega
      rcases hi with rfl | rfl | rfl | rfl | rfl | rfl <;> rcases hd with rfl | rfl | rfl | rfl | rfl | rfl <;> decide
    rw [← key] at z
    exact z
end
section
open L2N (Zn)
open L2H HotX
variable {P : Program} {w : World} {K : PySem.W.Frag} {mg : Str → Option Value} {base : Heap}
theorem pe_imp {X : Cx} {e : Expr} {t t' : TE} (h : PE X e t) (f : ∀ σ H Q, t' σ H Q → t σ H Q) : PE X e t' := ⟨fun pins s σ H Q I q => h.run pins s σ H Q I (f _ _ _ q)⟩
/-- what a law's look at a refusal needs: the class C caught by D -/
structure Xn (K : PySem.W.Frag) (c : Kcs) (C D : Addr) (i : Int) : Prop where
  e : PySem.W.exmOne K (.ref C) (.ref D) = some true
  k : Kx K c C i
  kp : PySem.W.keepIn K (.ref C) = true
def spOnly (K : PySem.W.Frag) (c : Kcs) (C a : Addr) : Sp := fun vs H Q _ => ∃ (i due : Int), vs = [.ref a, .int due] ∧ Kx K c C i ∧ (0 ≤ due ∧ due < 6) ∧ ∀ H', Ex H H' → Q (.bl (decide (due = i))) H'
theorem tCall_imp {sp sp' : Sp} {E E' : XK} {t : TA} {σ : L2.St} {H : Hp} {Q : VK} (tm : ∀ {R R' : List V → Hp → Prop}, (∀ vs H, R vs H → R' vs H) → t σ H R → t σ H R') (f : ∀ vs H, sp vs H Q E → sp' vs H Q E') (h : tCall sp [] E t σ H Q) : tCall sp' [] E' t σ H Q :=
  tm (fun vs H1 z => f _ H1 z) h
/-- _law_only(e, k) in the suite of an error of class C -/
theorem pe_only {X : Cx} {c : Kcs} {C f a : Addr} {oe : Obj} {fd : FuncData} {pn : List (Addr × Obj)} {k : Nat} {n : Int} {p1 p2 p3 pos : Pos} {kk : Nat} {j : Nat} {y : Str} (F : FnE X.prog X.w X.K X.mg X.base CX0 1 f fd ["_law_e", "_law_due"] (sp__law_only X.K c)) (hr : Room k X.A) (hk1 : 1 ≤ k)
    (hz : Zn (.ref C) none oe) (hf : ∃ vs, oe.data = .fields vs) (hg : Gl X "_law_only") (hm : X.mg "_law_only" = some (.ref f)) (hk : PySem.W.keepIn X.K (.ref f) = true) (hb : Binds X.K fd ["_law_e", "_law_due"] [])
    (hN : X.N[j]? = some y) (hv : Vis X.env.scope y) (hd : (y == ("__debug__" : Str)) = false := by decide) (hd2 : (y == ("__classdict__" : Str)) = false := by decide) (he : starEach [.Name y p2, .Constant (.int n) kk p3] X.env = (false, eval (.Name y p2) X.env) :: starEach [.Constant (.int n) kk p3] X.env := by rfl)
    (he2 : starEach [.Constant (.int n) kk p3] X.env = (false, eval (.Constant (.int n) kk p3) X.env) :: starEach [] X.env := by rfl)
    (hpl : (backTo pos (starEach [.Constant (.int n) kk p3] X.env)).any (·.1) = false := by rfl) :
    PE (X.suite a ((a, oe) :: pn)) (.Call (.Name "_law_only" p1) [.Name y p2, .Constant (.int n) kk p3] [] pos) (tCall (spOnly X.K c C a) [] (fun _ _ _ => False) (tCons (tVar j) (tCons (tC (.int n)) tNil))) := by
  refine pe_imp (pe_callE (t := tCons (tVar j) (tCons (tC (.int n)) tNil)) F (L2H.RoomH.mono (roomH_of hr) hk1) hz hf (fun _ _ _ _ _ _ _ _ z _ => z) hg hm hk hb (pa_cons (pe_var hN hv hd hd2) (pa_cons pe_int pa_nil he2) he) (by decide) he hpl) fun σ H Q h => ?_
  obtain ⟨v, hv, i, due, e, kx, hd, q⟩ := h
  exact ⟨v, hv, C, i, due, e, kx, hz, hf, hd, q⟩
theorem kitAny_false {K : PySem.W.Frag} {t : Value} : ∀ {cs : List Value}, (∀ c ∈ cs, PySem.W.kitOne K t c = some false) → PySem.W.kitAny K t cs = some false
  | [], _ => rfl
  | c :: cs, h => by
    unfold PySem.W.kitAny
    rw [h c (List.mem_cons_self ..)]
    exact kitAny_false fun d hd => h d (List.mem_cons_of_mem _ hd)
theorem kitAny_true {K : PySem.W.Frag} {t c : Value} : ∀ {cs : List Value}, (∀ d ∈ cs, PySem.W.kitOne K t d = some false ∨ PySem.W.kitOne K t d = some true) → c ∈ cs → PySem.W.kitOne K t c = some true → PySem.W.kitAny K t cs = some true
  | [], _, h, _ => by cases h
  | d :: cs, h, hc, ht => by
    unfold PySem.W.kitAny
    rcases h d (List.mem_cons_self ..) with e | e
    · rw [e]
      rcases List.mem_cons.mp hc with rfl | hc
      · rw [ht] at e; cases e
      · exact kitAny_true (fun x hx => h x (List.mem_cons_of_mem _ hx)) hc ht
    · rw [e]
end
section
open L2N (Zn)
open L2H HotX
variable {P : Program} {w : World} {K : PySem.W.Frag} {mg : Str → Option Value} {base : Heap}
/-! ### _law_told -/
def sp__law_told (K : PySem.W.Frag) : Sp := fun vs H Q _ => ∃ (p b' many : Int) (eq : List (List Int)) (v : V), vs = [.int p, v, .int b', .int many] ∧ rT K (rT K rI) H eq v ∧ Pr p ∧ Tws p 100 eq ∧ (0 ≤ many ∧ many ≤ 100) ∧
  (okR p eq b' = true → ∀ l H', H l = none → Ex H H' → Lt rI H' l (rootE p eq b' many.toNat) → Q (.ref l) H') ∧ (okR p eq b' = false → ∀ H', Ex H H' → Q .non H')
theorem ok__law_told {f : Addr} {fd : FuncData} (F : Fun K "_law_told" "_law_told" s__law_told f fd) {C0 C CD fo : Addr} {fdo : FuncData} {c : Kcs} (D_root_entries : Df P w K mg base (L2N.CX P w) 6 "root_entries" ["p", "equation", "b", "many"] (sp_root_entries K C0 C)) (X : Xn K c C CD 3)
    (Fo : FnE P w K mg base CX0 1 fo fdo ["_law_e", "_law_due"] (sp__law_only K c)) (go : mg "_law_only" = some (.ref fo)) (ko : PySem.W.keepIn K (.ref fo) = true) (bo : Binds K fdo ["_law_e", "_law_due"] [])
    (g_DigitError : mg "DigitError" = some (.ref CD)) : FnOk P w K mg base CX0 7 f fd ["_law_p", "_law_equation_here", "_law_b", "_law_many"] (sp__law_told K) := by
  refine F.ok sc__law_told (fun vs H Q E h => ?_) (fun cdv A outer s H vs Q E hr h => ?_)
  · obtain ⟨p, b', many, eq, v, rfl, _⟩ := h; rfl
  · obtain ⟨p, b', many, eq, v, rfl, fv, hP, hT, hm, q1, q2⟩ := h
    refine ⟨_, pss_cons (L2N.ps_try_as (i := 4) (tb := fun W => tRet (tCallS (sp_root_entries K C0 C) (WE W) (tCons (tVar 0) (tCons (tVar 1) (tCons (tVar 2) (tCons (tVar 3) tNil))))))
      (ts := fun a cls d D σ H => ∃ z : Unit, (cls = .ref C ∧ d = none) ∧ (tIfS (tB (tCall (spOnly K c C a) [] (fun _ _ _ => False) (tCons (tVar 4) (tCons (tC (.int 3)) tNil)))) (tRet (tC .non)) tNext D σ H))
      (Wout := fun _ _ _ _ => False) rfl rfl sc__law_told.nd rfl rfl ⟨rfl, by decide, Or.inl g_DigitError⟩ takes0N
        (fun W pn xe tk _ => pss_one (ps_ret (by exact (pe_callS D_root_entries.ok (hr.mono (by omega)) (by rfl) D_root_entries.g D_root_entries.kp D_root_entries.b (fun σ => L2N.passAt tk σ) (by exact (pa_cons (pv 0) (pa_cons (pv 1) (pa_cons (pv 2) (pa_cons (pv 3) pa_nil)))))))))
        (fun a oe cls d pn hz hf => pss_ex fun _ hc => ?_)) (pss_one (ps_ret (pe_tup pa_nil))), ?_⟩
    · obtain ⟨rfl, rfl⟩ := hc
      exact pss_one (ps_if (pt_val (pe_only (k := 6) Fo hr (by decide) hz hf (by rfl) go ko bo rfl (by exact Or.inl rfl))) (pss_one (ps_ret pe_non)) pss_nil)
    · refine ⟨_, rfl, _, rfl, _, rfl, _, rfl, ?_⟩
      refine ⟨.int p, v, b', many, rfl, .int _, fun z => ?_, fun p' e hp' => ?_⟩
      · rw [hP.is] at z
        cases z
      · cases e
        refine ⟨eq, fv, hT, hm, fun hok l H1 n1 e1 l1 => q1 hok l H1 n1 e1 l1, fun hok H1 e1 => ?_⟩
        refine ⟨true, X.e, fun _ a na => ⟨(), ⟨rfl, rfl⟩, ?_⟩, fun z => nomatch z⟩
        refine ⟨_, rfl, 3, 3, rfl, X.k, by decide, fun H2 e2 => ⟨_, rfl, ?_⟩⟩
        exact ite_ok (b := decide ((3 : Int) = 3)) rfl (q2 hok H2 (e1.trans e2))
end
section
variable {p : Int}
theorem pick3p {i : Int} (h : 0 ≤ i ∧ i < 3) : Pr (gt0 (0 : Int) [2, 3, 5] i) := by
  obtain ⟨q, e, hq⟩ := pick3i h
  rw [e]; exact hq
theorem rep0_ok (hp : 0 < p) {m : Int} (h : 0 ≤ m) : Nms p (repL [(0 : Int)] m) ∧ ((repL [(0 : Int)] m).length : Int) = m := by
  refine ⟨by rw [repL_one]; exact nms_rep0 hp _, ?_⟩
  rw [repL_len]; simp only [List.length_cons, List.length_nil]; omega
theorem set_ok (hp : 0 < p) {m v : Int} {k : Nat} {s : List Int} (h : Nms p s ∧ (s.length : Int) = m) : Nms p (s.set k (v % p)) ∧ ((s.set k (v % p)).length : Int) = m :=
  ⟨nms_set h.1 (Nm.mod hp), by rw [List.length_set]; exact h.2⟩
theorem gt0_nms (hp : 0 < p) {s : List Int} (h : Nms p s) (i : Int) : 0 ≤ gt0 (0 : Int) s i ∧ gt0 (0 : Int) s i < p := by
  unfold gt0
  cases e : s[ixs s.length i]? with
  | none => exact ⟨Int.le_refl 0, hp⟩
  | some z => exact h z (List.mem_of_getElem? e)
theorem foldl_ind {α β : Type} {P : α → Prop} {f : α → β → α} : ∀ {l : List β} {s : α}, P s → (∀ s x, x ∈ l → P s → P (f s x)) → P (List.foldl f s l)
  | [], _, h, _ => h
  | x :: l, s, h, st => foldl_ind (l := l) (st s x (List.mem_cons_self ..) h) fun s y hy => st s y (List.mem_cons_of_mem _ hy)
theorem mn2_both {x a b : Int} (h : x < mn2 a b) : x < a ∧ x < b := by
  unfold mn2 at h
  split at h <;> omega
theorem mn2_rng {a : Int} {n : Nat} (ha : 0 ≤ a ∧ a ≤ 1000) : -(2 ^ 62) ≤ mn2 a (n : Int) ∧ mn2 a (n : Int) < 2 ^ 62 := by
  unfold mn2
  split <;> omega
end
section
variable {P : Program} {w : World} {K : PySem.W.Frag} {mg : Str → Option Value} {base : Heap}
def sp__law_prime (K : PySem.W.Frag) : Sp := fun vs H Q _ => ∃ (b : Addr), (vs = [.ref b]) ∧ (Bag H b) ∧ (∀ (r : Int) H', C1 b H H' → Bag H' b → (Pr r) → Q (.int r) H')
theorem ok__law_prime {f : Addr} {fd : FuncData} (F : Fun K "_law_prime" "_law_prime" s__law_prime f fd) (D__law_draw : Df P w K mg base CX0 1 "_law_draw" ["_law_bag_here", "_law_many"] (sp__law_draw K)) : FnOk P w K mg base CX0 2 f fd ["_law_bag_here"] (sp__law_prime K) := by
  refine F.ok sc__law_prime (fun vs H Q E h => ?_) (fun cdv A outer s H vs Q E hr h => ?_)
  · obtain ⟨b, rfl, _⟩ := h; rfl
  · obtain ⟨b, rfl, B0, q⟩ := h
    refine ⟨_, (pss_one (ps_ret (pe_ix (ix_listK K) (pe_lst (pa_cons pe_int (pa_cons pe_int (pa_cons pe_int pa_nil)))) (pe_call D__law_draw.ok (hr.mono (by omega)) (by rfl) D__law_draw.g D__law_draw.kp D__law_draw.b .nil pass0 (pa_cons (pv 0) (pa_cons pe_int pa_nil))) (fun _ _ => rfl)))), ?_⟩
    have F0 : C1 b H H := C1.refl b H
    refine s_ret0 ?_
    refine go_opK ?_
    refine go_L (el_lst (R := rI) (eas er_int (eas er_int (eas er_int eas0))) (by first | decide | simp)) fun p3 H1 n4 e2 l5 => ?_
    have nebp3 : b ≠ p3 := B0.ne n4
    have n0p3 : _ = none := fb F0 B0 n4
    replace B0 := Bag.ex B0 e2
    replace F0 := F0.trans (C1.ex e2)
    refine go_callA ?_
    refine go_cons ?_
    refine ⟨_, rfl, ?_⟩
    refine go_cons ?_
    refine go_I er_int fun H8 e9 => ?_
    replace B0 := Bag.ex B0 e9
    replace l5 := Lt.ex l5 e9
    replace F0 := F0.trans (C1.ex e9)
    refine go_nil ?_
    refine ⟨b, _, rfl, B0, (by first | assumption | omega | (simp only [Bool.and_eq_true, Bool.or_eq_true, Bool.not_eq_true', Bool.and_eq_false_iff, Bool.or_eq_false_iff, Bool.not_eq_false', decide_eq_true_eq, decide_eq_false_iff_not, List.length_append, List.length_cons, List.length_nil, List.length_map, List.length_range, List.length_set, rng_len, enm_len, repL_len] at *; omega)), (by first | assumption | omega | (simp only [Bool.and_eq_true, Bool.or_eq_true, Bool.not_eq_true', Bool.and_eq_false_iff, Bool.or_eq_false_iff, Bool.not_eq_false', decide_eq_true_eq, decide_eq_false_iff_not, List.length_append, List.length_cons, List.length_nil, List.length_map, List.length_range, List.length_set, rng_len, enm_len, repL_len] at *; omega)), fun y12 H11 c13 B14 hqy12_0 => ?_⟩
    have kt15 : Kt K _ _ := Bag.kt B0 c13
    replace l5 := Lt.keep l5 kt15 c13 (by first | assumption | exact Ne.symm (by assumption))
    replace F0 := F0.trans c13
    replace B0 := B14
    refine go_I (er_ixL0 (0 : Int) (er_K (Lt.rl l5)) er_iK (by first | omega | assumption | (simp; omega) | (simp only [Bool.and_eq_true, Bool.or_eq_true, Bool.not_eq_true', Bool.and_eq_false_iff, Bool.or_eq_false_iff, Bool.not_eq_false', decide_eq_true_eq, decide_eq_false_iff_not, List.length_append, List.length_cons, List.length_nil, List.length_map, List.length_range, List.length_set, rng_len, enm_len, repL_len] at *; omega)) (by first | omega | assumption | (simp; omega) | (simp only [Bool.and_eq_true, Bool.or_eq_true, Bool.not_eq_true', Bool.and_eq_false_iff, Bool.or_eq_false_iff, Bool.not_eq_false', decide_eq_true_eq, decide_eq_false_iff_not, List.length_append, List.length_cons, List.length_nil, List.length_map, List.length_range, List.length_set, rng_len, enm_len, repL_len] at *; omega))) fun H17 e18 => ?_
    replace B0 := Bag.ex B0 e18
    replace l5 := Lt.ex l5 e18
    replace F0 := F0.trans (C1.ex e18)
    exact q _ _ F0 B0 (pick3p (by assumption))

def sp__law_trimmed_r (K : PySem.W.Frag) : Sp := fun vs H Q _ => ∃ (l_numbers : (List Int)) (v_l_numbers : V), (vs = [v_l_numbers]) ∧ ((rL K rI) H l_numbers v_l_numbers) ∧ (∀ (v : V) H', Ex H H' → (rT K rI) H' (trimL l_numbers) v → Q v H')
def sp__law_trimmed_T (K : PySem.W.Frag) : Sp := fun vs H Q _ => ∃ (l_numbers : (List Int)) (v_l_numbers : V), (vs = [v_l_numbers]) ∧ ((rT K rI) H l_numbers v_l_numbers) ∧ (∀ (v : V) H', Ex H H' → (rT K rI) H' (trimL l_numbers) v → Q v H')
def sp__law_trimmed (K : PySem.W.Frag) : Sp := fun vs H Q E => sp__law_trimmed_r K vs H Q E ∨ sp__law_trimmed_T K vs H Q E
section
variable {K : PySem.W.Frag}
theorem gv__law_trimmed_r {l_numbers : (List Int)} : Gv (sp__law_trimmed K) (Ac (rL K rI) l_numbers A0) (rT K rI) (trimL l_numbers) := by
  intro vs H1 hp Q E k
  obtain ⟨v0, w0, rfl, f0, hp⟩ := hp
  cases hp
  exact .inl (⟨_, v0, rfl, f0, fun v H2 e r => k v H2 e r⟩)
theorem gv__law_trimmed_T {l_numbers : (List Int)} : Gv (sp__law_trimmed K) (Ac (rT K rI) l_numbers A0) (rT K rI) (trimL l_numbers) := by
  intro vs H1 hp Q E k
  obtain ⟨v0, w0, rfl, f0, hp⟩ := hp
  cases hp
  exact .inr (⟨_, v0, rfl, f0, fun v H2 e r => k v H2 e r⟩)
end
theorem ok__law_trimmed {f : Addr} {fd : FuncData} (F : Fun K "_law_trimmed" "_law_trimmed" s__law_trimmed f fd) (n_len : mg "len" = none) (n_tuple : mg "tuple" = none) : FnOk P w K mg base CX0 1 f fd ["_law_numbers"] (sp__law_trimmed K) := by
  refine F.ok sc__law_trimmed (fun vs H Q E h => ?_) (fun cdv A outer s H vs Q E hr h => ?_)
  · rcases h with ⟨l_numbers, v_l_numbers, rfl, _⟩ | ⟨l_numbers, v_l_numbers, rfl, _⟩
    all_goals rfl
  · rcases h with h | h
    · obtain ⟨l_numbers, v_l_numbers, rfl, f_l_numbers, q⟩ := h
      refine ⟨_, (pss_cons (ps_set (i := 1) sc__law_trimmed.nd rfl (Or.inl rfl) (pe_callB (call_len_seqK K) (by rfl) n_len (by decide +kernel) (pa_cons (pv 0) pa_nil)))
 (pss_cons (ps_while PassesOwn.never (PW.pt (pw_and (pt_cmpR op_gt (pv 1) pe_int (nomark _)) (pw_and1 (pt_cmpR op_eq (pe_ix (ix_listK K) (pv 0) (pe_op op_sub (pv 1) pe_int) (fun _ _ => rfl)) pe_int (nomark _))))) (pss_one (ps_set (i := 1) sc__law_trimmed.nd rfl (Or.inl rfl) (pe_op op_sub (pv 1) pe_int))))
 (pss_one (ps_ret (pe_callTy (call_tuple_ofK K) (by rfl) n_tuple (by decide +kernel) (pa_cons (pe_slice (sl_listK K) (pv 0) po_none (po_some (pv 1))) pa_nil)))))), ?_⟩
      have F0 : Ex H H := Ex.refl H
      have o_l_numbers := f_l_numbers
      refine q_asgI (er_lenL (er_var rfl f_l_numbers)) fun H1 e2 => ?_
      replace f_l_numbers := Me.ex e2 f_l_numbers
      replace F0 := F0.trans e2
      have k3 : Kt K _ _ := Kt.refl H1
      refine q_while (fun m σ' H' => ∃ (k1_ : Nat) (s1 : Int), m = s1.toNat ∧ (0 ≤ s1 ∧ s1 ≤ (l_numbers.length : Int)) ∧ (trimL (l_numbers.take s1.toNat) = trimL l_numbers) ∧ σ' = [some v_l_numbers, some (.int s1)] ∧ Ex H H' ∧ Kt K H1 H') _ ⟨0, ((l_numbers.length : Int)), rfl, ⟨by omega, by omega⟩, (by rw [Int.toNat_natCast, List.take_length]), rfl, F0, k3⟩ ?_
      rintro _ _ H4 ⟨k1_, s1, rfl, hw1_0, hw1_1, rfl, F0, k3⟩
      replace f_l_numbers := Me.ex F0 o_l_numbers
      refine ⟨_, (et_and (et_t (er_cmp er_iv er_int)) fun hc5 => (et_t (er_eqI (er_ixL0 (0 : Int) (er_var rfl f_l_numbers) (er_op0 er_iv er_int) (by first | omega | assumption | (simp; omega) | (simp only [Bool.and_eq_true, Bool.or_eq_true, Bool.not_eq_true', Bool.and_eq_false_iff, Bool.or_eq_false_iff, Bool.not_eq_false', decide_eq_true_eq, decide_eq_false_iff_not, List.length_append, List.length_cons, List.length_nil, List.length_map, List.length_range, List.length_set, rng_len, enm_len, repL_len] at *; omega)) (by first | omega | assumption | (simp; omega) | (simp only [Bool.and_eq_true, Bool.or_eq_true, Bool.not_eq_true', Bool.and_eq_false_iff, Bool.or_eq_false_iff, Bool.not_eq_false', decide_eq_true_eq, decide_eq_false_iff_not, List.length_append, List.length_cons, List.length_nil, List.length_map, List.length_range, List.length_set, rng_len, enm_len, repL_len] at *; omega))) er_int))), fun hb_1 H7 e6 => ?_, fun hb_1 H7 e6 => ?_⟩
      ·
        have hb_1' := hb_1
        try simp only [Bool.and_eq_true, Bool.or_eq_true, Bool.not_eq_true', Bool.and_eq_false_iff, Bool.or_eq_false_iff, Bool.not_eq_false', decide_eq_true_eq, decide_eq_false_iff_not] at hb_1'
        replace f_l_numbers := Me.ex e6 f_l_numbers
        replace F0 := F0.trans e6
        replace k3 := k3.trans (Kt.ex e6)
        refine ⟨fun σ2 H2 => ∃ m', m' < s1.toNat ∧ (fun m σ' H' => ∃ (k1_ : Nat) (s1 : Int), m = s1.toNat ∧ (0 ≤ s1 ∧ s1 ≤ (l_numbers.length : Int)) ∧ (trimL (l_numbers.take s1.toNat) = trimL l_numbers) ∧ σ' = [some v_l_numbers, some (.int s1)] ∧ Ex H H' ∧ Kt K H1 H') m' σ2 H2, fun _ _ h => h, ?_⟩
        refine s_asgI (er_op0 er_iv er_int) fun H8 e9 => ?_
        replace f_l_numbers := Me.ex e9 f_l_numbers
        replace F0 := F0.trans e9
        replace k3 := k3.trans (Kt.ex e9)
        exact ⟨(((s1 - (1 : Int)))).toNat, (by omega), ⟨k1_ + 1, ((s1 - (1 : Int))), rfl, ⟨by omega, by omega⟩, (trim_step hw1_1 (by omega) (by omega) hb_1'.2), rfl, F0, k3⟩⟩
      have hb_1' := hb_1
      try simp only [Bool.and_eq_true, Bool.or_eq_true, Bool.not_eq_true', Bool.and_eq_false_iff, Bool.or_eq_false_iff, Bool.not_eq_false', decide_eq_true_eq, decide_eq_false_iff_not] at hb_1'
      replace f_l_numbers := Me.ex e6 f_l_numbers
      replace F0 := F0.trans e6
      replace k3 := k3.trans (Kt.ex e6)
      refine s_ret (R := (rT K rI)) (er_tupL (El.er (K := K) (el_sl (er_var rfl f_l_numbers) eo0 (eo1 er_iv)))) fun v H' e r => ?_
      exact q v H' (F0.trans e) (by rw [show trimL l_numbers = _ from (trim_end hw1_0.1 hw1_1 hw1_0.2 hb_1').symm]; exact r)
    · obtain ⟨l_numbers, v_l_numbers, rfl, f_l_numbers, q⟩ := h
      refine ⟨_, (pss_cons (ps_set (i := 1) sc__law_trimmed.nd rfl (Or.inl rfl) (pe_callB (call_len_seqK K) (by rfl) n_len (by decide +kernel) (pa_cons (pv 0) pa_nil)))
 (pss_cons (ps_while PassesOwn.never (PW.pt (pw_and (pt_cmpR op_gt (pv 1) pe_int (nomark _)) (pw_and1 (pt_cmpR op_eq (pe_ix (ix_tupK K) (pv 0) (pe_op op_sub (pv 1) pe_int) (fun _ _ => rfl)) pe_int (nomark _))))) (pss_one (ps_set (i := 1) sc__law_trimmed.nd rfl (Or.inl rfl) (pe_op op_sub (pv 1) pe_int))))
 (pss_one (ps_ret (pe_callTy (call_tuple_ofK K) (by rfl) n_tuple (by decide +kernel) (pa_cons (pe_slice (sl_tupAK K) (pv 0) po_none (po_some (pv 1))) pa_nil)))))), ?_⟩
      have F0 : Ex H H := Ex.refl H
      refine q_asgI (er_lenT (er_var rfl f_l_numbers)) fun H1 e2 => ?_
      replace f_l_numbers := Me.ex e2 f_l_numbers
      replace F0 := F0.trans e2
      have k3 : Kt K _ _ := Kt.refl H1
      refine q_while (fun m σ' H' => ∃ (k1_ : Nat) (s1 : Int), m = s1.toNat ∧ (0 ≤ s1 ∧ s1 ≤ (l_numbers.length : Int)) ∧ (trimL (l_numbers.take s1.toNat) = trimL l_numbers) ∧ σ' = [some v_l_numbers, some (.int s1)] ∧ Ex H H' ∧ Kt K H1 H') _ ⟨0, ((l_numbers.length : Int)), rfl, ⟨by omega, by omega⟩, (by rw [Int.toNat_natCast, List.take_length]), rfl, F0, k3⟩ ?_
      rintro _ _ H4 ⟨k1_, s1, rfl, hw1_0, hw1_1, rfl, F0, k3⟩
      replace f_l_numbers := Mkt.kt k3 f_l_numbers
      refine ⟨_, (et_and (et_t (er_cmp er_iv er_int)) fun hc5 => (et_t (er_eqI (er_ixT0 (0 : Int) (er_var rfl f_l_numbers) (er_op0 er_iv er_int) (by first | omega | assumption | (simp; omega) | (simp only [Bool.and_eq_true, Bool.or_eq_true, Bool.not_eq_true', Bool.and_eq_false_iff, Bool.or_eq_false_iff, Bool.not_eq_false', decide_eq_true_eq, decide_eq_false_iff_not, List.length_append, List.length_cons, List.length_nil, List.length_map, List.length_range, List.length_set, rng_len, enm_len, repL_len] at *; omega)) (by first | omega | assumption | (simp; omega) | (simp only [Bool.and_eq_true, Bool.or_eq_true, Bool.not_eq_true', Bool.and_eq_false_iff, Bool.or_eq_false_iff, Bool.not_eq_false', decide_eq_true_eq, decide_eq_false_iff_not, List.length_append, List.length_cons, List.length_nil, List.length_map, List.length_range, List.length_set, rng_len, enm_len, repL_len] at *; omega))) er_int))), fun hb_1 H7 e6 => ?_, fun hb_1 H7 e6 => ?_⟩
      ·
        have hb_1' := hb_1
        try simp only [Bool.and_eq_true, Bool.or_eq_true, Bool.not_eq_true', Bool.and_eq_false_iff, Bool.or_eq_false_iff, Bool.not_eq_false', decide_eq_true_eq, decide_eq_false_iff_not] at hb_1'
        replace f_l_numbers := Me.ex e6 f_l_numbers
        replace F0 := F0.trans e6
        replace k3 := k3.trans (Kt.ex e6)
        refine ⟨fun σ2 H2 => ∃ m', m' < s1.toNat ∧ (fun m σ' H' => ∃ (k1_ : Nat) (s1 : Int), m = s1.toNat ∧ (0 ≤ s1 ∧ s1 ≤ (l_numbers.length : Int)) ∧ (trimL (l_numbers.take s1.toNat) = trimL l_numbers) ∧ σ' = [some v_l_numbers, some (.int s1)] ∧ Ex H H' ∧ Kt K H1 H') m' σ2 H2, fun _ _ h => h, ?_⟩
        refine s_asgI (er_op0 er_iv er_int) fun H8 e9 => ?_
        replace f_l_numbers := Me.ex e9 f_l_numbers
        replace F0 := F0.trans e9
        replace k3 := k3.trans (Kt.ex e9)
        exact ⟨(((s1 - (1 : Int)))).toNat, (by omega), ⟨k1_ + 1, ((s1 - (1 : Int))), rfl, ⟨by omega, by omega⟩, (trim_step hw1_1 (by omega) (by omega) hb_1'.2), rfl, F0, k3⟩⟩
      have hb_1' := hb_1
      try simp only [Bool.and_eq_true, Bool.or_eq_true, Bool.not_eq_true', Bool.and_eq_false_iff, Bool.or_eq_false_iff, Bool.not_eq_false', decide_eq_true_eq, decide_eq_false_iff_not] at hb_1'
      replace f_l_numbers := Me.ex e6 f_l_numbers
      replace F0 := F0.trans e6
      replace k3 := k3.trans (Kt.ex e6)
      refine s_ret (R := (rT K rI)) (er_tupT (er_slT (er_var rfl f_l_numbers) eo0 (eo1 er_iv))) fun v H' e r => ?_
      exact q v H' (F0.trans e) (by rw [show trimL l_numbers = _ from (trim_end hw1_0.1 hw1_1 hw1_0.2 hb_1').symm]; exact r)

def st__law_at_nought_1 (l_p : Int) (l_equation_here : (List (List Int))) (l_b : Int) : (Int × Int) → (List Int) → (Int × Int) := fun s1 x1 => ((((s1.1 * l_b) + ((cutL x1 none (some ((1 : Int))))).sum) % l_p), (((s1.2 * l_b) + s1.1) % l_p))
def m__law_at_nought (l_p : Int) (l_equation_here : (List (List Int))) (l_b : Int) : (List Int) := [(List.foldl (st__law_at_nought_1 l_p l_equation_here l_b) ((0 : Int), (0 : Int)) l_equation_here.reverse).1, (List.foldl (st__law_at_nought_1 l_p l_equation_here l_b) ((0 : Int), (0 : Int)) l_equation_here.reverse).2]
def sp__law_at_nought (K : PySem.W.Frag) : Sp := fun vs H Q _ => ∃ (l_p : Int) (l_equation_here : (List (List Int))) (l_b : Int) (v_l_equation_here : V), (vs = [.int l_p, v_l_equation_here, .int l_b]) ∧ ((rT K (rT K rI)) H l_equation_here v_l_equation_here) ∧ (2 ≤ l_p ∧ l_p ≤ 5) ∧ (Tws l_p 100 l_equation_here) ∧ (0 ≤ l_b ∧ l_b < l_p) ∧ (∀ (v : V) H', Ex H H' → (rT K rI) H' (m__law_at_nought l_p l_equation_here l_b) v → Q v H')
section
variable {K : PySem.W.Frag}
theorem gv__law_at_nought {l_p : Int} {l_equation_here : (List (List Int))} {l_b : Int} (h0 : 2 ≤ l_p ∧ l_p ≤ 5) (h1 : Tws l_p 100 l_equation_here) (h2 : 0 ≤ l_b ∧ l_b < l_p) : Gv (sp__law_at_nought K) (Ac rI l_p (Ac (rT K (rT K rI)) l_equation_here (Ac rI l_b A0))) (rT K rI) (m__law_at_nought l_p l_equation_here l_b) := by
  intro vs H1 hp Q E k
  obtain ⟨v0, w0, rfl, f0, hp⟩ := hp
  cases f0
  obtain ⟨v1, w1, rfl, f1, hp⟩ := hp
  obtain ⟨v2, w2, rfl, f2, hp⟩ := hp
  cases f2
  cases hp
  exact ⟨_, _, _, v1, rfl, f1, h0, h1, h2, fun v H2 e r => k v H2 e r⟩
end
theorem ok__law_at_nought {f : Addr} {fd : FuncData} (F : Fun K "_law_at_nought" "_law_at_nought" s__law_at_nought f fd) (n_sum : mg "sum" = none) : FnOk P w K mg base CX0 1 f fd ["_law_p", "_law_equation_here", "_law_b"] (sp__law_at_nought K) := by
  refine F.ok sc__law_at_nought (fun vs H Q E h => ?_) (fun cdv A outer s H vs Q E hr h => ?_)
  · obtain ⟨l_p, l_equation_here, l_b, v_l_equation_here, rfl, _⟩ := h; rfl
  · obtain ⟨l_p, l_equation_here, l_b, v_l_equation_here, rfl, f_l_equation_here, hpre0, hpre1, hpre2, q⟩ := h
    refine ⟨_, (pss_cons (ps_set (i := 3) sc__law_at_nought.nd rfl (Or.inl rfl) pe_int)
 (pss_cons (ps_set (i := 4) sc__law_at_nought.nd rfl (Or.inl rfl) pe_int)
 (pss_cons (ps_for PassesOwn.never rfl (pi_tupK K (pe_sl3 K (pv 1) po_none po_none (pe_un un_neg pe_int))) (pg_name (i := 5) sc__law_at_nought.nd rfl (Or.inl rfl))
 (pss_cons (ps_set (i := 4) sc__law_at_nought.nd rfl (Or.inl rfl) (pe_op op_mod (pe_op op_add (pe_op op_mul (pv 4) (pv 2)) (pv 3)) (pv 0)))
 (pss_one (ps_set (i := 3) sc__law_at_nought.nd rfl (Or.inl rfl) (pe_op op_mod (pe_op op_add (pe_op op_mul (pv 3) (pv 2)) (pe_callB (cr_sumTK K rfl) (by rfl) n_sum (by decide +kernel) (pa_cons (pe_slice (sl_tupAK K) (pv 5) po_none (po_some pe_int)) pa_nil))) (pv 0))))))
 (pss_one (ps_ret (pe_tup (pa_cons (pv 3) (pa_cons (pv 4) pa_nil)))))))), ?_⟩
    have F0 : Ex H H := Ex.refl H
    have hl := hpre1.1
    refine q_asgI er_int fun H1 e2 => ?_
    replace f_l_equation_here := Me.ex e2 f_l_equation_here
    replace F0 := F0.trans e2
    refine q_asgI er_int fun H3 e4 => ?_
    replace f_l_equation_here := Me.ex e4 f_l_equation_here
    replace F0 := F0.trans e4
    refine q_forT (er_revT (er_var rfl f_l_equation_here) (sz1 (by first | omega | assumption | (simp only [Bool.and_eq_true, Bool.or_eq_true, Bool.not_eq_true', Bool.and_eq_false_iff, Bool.or_eq_false_iff, Bool.not_eq_false', decide_eq_true_eq, decide_eq_false_iff_not, List.length_append, List.length_cons, List.length_nil, List.length_map, List.length_range, List.length_set, rng_len, enm_len, repL_len] at *; omega)))) fun v7 H5 e6 r8 => ?_
    replace f_l_equation_here := Me.ex e6 f_l_equation_here
    replace F0 := F0.trans e6
    have k9 : Kt K _ _ := Kt.refl H5
    refine fq_T r8 (fun i σ' H' => ∃ (s1 : Int × Int) (j10 : Option V), s1 = List.foldl (st__law_at_nought_1 l_p l_equation_here l_b) ((0 : Int), (0 : Int)) (List.take i l_equation_here.reverse) ∧ σ' = [some (.int l_p), some v_l_equation_here, some (.int l_b), some (.int s1.1), some (.int s1.2), j10] ∧ Ex H H' ∧ Kt K H5 H') ?_ ?_ ?_ ?_
    · exact ⟨((0 : Int), (0 : Int)), _, rfl, rfl, F0, k9⟩
    · intro i σ' H' hi h; obtain ⟨s1, j10, hs1, rfl, F0, k9⟩ := h; exact Mkt.kt k9 r8
    ·
      rintro i x1 v12 _ H11 hi hx1 ⟨s1, j10, hs1, rfl, F0, k9⟩ r13
      replace f_l_equation_here := Mkt.kt k9 f_l_equation_here
      refine q_asgI (er_op (er_op0 (er_op er_iv er_iv (cmul_of (by first | omega | (left; omega) | (right; omega)))) er_iv) er_iv (by omega)) fun H14 e15 => ?_
      replace f_l_equation_here := Me.ex e15 f_l_equation_here
      replace r13 := Me.ex e15 r13
      replace F0 := F0.trans e15
      replace k9 := k9.trans (Kt.ex e15)
      refine s_asgI (er_op (er_op0 (er_op er_iv er_iv (cmul_of (by first | omega | (left; omega) | (right; omega)))) (er_sumT (er_slT (er_var rfl r13) eo0 (eo1 er_int)))) er_iv (by omega)) fun H16 e17 => ?_
      replace f_l_equation_here := Me.ex e17 f_l_equation_here
      replace r13 := Me.ex e17 r13
      replace F0 := F0.trans e17
      replace k9 := k9.trans (Kt.ex e17)
      exact ⟨st__law_at_nought_1 l_p l_equation_here l_b s1 x1, _, fold_snoc hs1 hx1, rfl, F0, k9⟩
    rintro _ H18 ⟨s1, j10, hs1, rfl, F0, k9⟩
    rw [take_all] at hs1; subst hs1
    replace f_l_equation_here := Mkt.kt k9 f_l_equation_here
    refine s_ret (R := (rT K rI)) (er_tup (eas er_iv (eas er_iv eas0)) (by first | decide | simp)) fun v H' e r => ?_
    exact q v H' (F0.trans e) (by exact r)

def st__law_value_3 (l_p : Int) (l_equation_here : (List (List Int))) (l_numbers : (List Int)) (l_many : Int) (s1 : (List Int)) (x1 : (List Int)) (s2 : (List Int)) (x2 : Int) : (List Int) → Int → (List Int) := fun s3 x3 => ((s3.set (ixs s3.length (x2 + x3)) (((gt0 (0 : Int) s3 (x2 + x3)) + ((gt0 (0 : Int) s1 x2) * (gt0 (0 : Int) l_numbers x3))) % l_p)))
def st__law_value_2 (l_p : Int) (l_equation_here : (List (List Int))) (l_numbers : (List Int)) (l_many : Int) (s1 : (List Int)) (x1 : (List Int)) : (List Int) → Int → (List Int) := fun s2 x2 => ((if (!decide ((gt0 (0 : Int) s1 x2) = (0 : Int))) = true then (List.foldl (st__law_value_3 l_p l_equation_here l_numbers l_many s1 x1 s2 x2) (s2) ((rng 0 (l_many - x2)))) else s2))
def st__law_value_4 (l_p : Int) (l_equation_here : (List (List Int))) (l_numbers : (List Int)) (l_many : Int) (s1 : (List Int)) (x1 : (List Int)) : (List Int) → Int → (List Int) := fun s4 x4 => ((s4.set (ixs s4.length x4) (((gt0 (0 : Int) s4 x4) + (gt0 (0 : Int) x1 x4)) % l_p)))
def st__law_value_1 (l_p : Int) (l_equation_here : (List (List Int))) (l_numbers : (List Int)) (l_many : Int) : (List Int) → (List Int) → (List Int) := fun s1 x1 => ((List.foldl (st__law_value_4 l_p l_equation_here l_numbers l_many s1 x1) ((List.foldl (st__law_value_2 l_p l_equation_here l_numbers l_many s1 x1) ((repL ([(0 : Int)] : List Int) l_many)) ((rng 0 l_many)))) ((rng 0 (mn2 l_many ((x1.length : Int)))))))
def m__law_value (l_p : Int) (l_equation_here : (List (List Int))) (l_numbers : (List Int)) (l_many : Int) : (List Int) := (List.foldl (st__law_value_1 l_p l_equation_here l_numbers l_many) ((repL ([(0 : Int)] : List Int) l_many)) l_equation_here.reverse)
def sp__law_value (K : PySem.W.Frag) : Sp := fun vs H Q _ => ∃ (l_p : Int) (l_equation_here : (List (List Int))) (l_numbers : (List Int)) (l_many : Int) (v_l_equation_here : V) (p_l_numbers : Addr), (vs = [.int l_p, v_l_equation_here, .ref p_l_numbers, .int l_many]) ∧ ((rT K (rT K rI)) H l_equation_here v_l_equation_here) ∧ (Lt rI H p_l_numbers l_numbers) ∧ (2 ≤ l_p ∧ l_p ≤ 5) ∧ (Tws l_p 100 l_equation_here) ∧ (Nms l_p l_numbers) ∧ (0 ≤ l_many ∧ l_many ≤ 100) ∧ ((l_numbers.length : Int) = l_many) ∧ (∀ (p : Addr) H', H p = none → Ex H H' → Lt rI H' p (m__law_value l_p l_equation_here l_numbers l_many) → Q (.ref p) H')
section
variable {K : PySem.W.Frag}
theorem gv__law_value {l_p : Int} {l_equation_here : (List (List Int))} {l_numbers : (List Int)} {l_many : Int} (h0 : 2 ≤ l_p ∧ l_p ≤ 5) (h1 : Tws l_p 100 l_equation_here) (h2 : Nms l_p l_numbers) (h3 : 0 ≤ l_many ∧ l_many ≤ 100) (h4 : (l_numbers.length : Int) = l_many) : Gnl (sp__law_value K) (Ac rI l_p (Ac (rT K (rT K rI)) l_equation_here (AcL rI l_numbers (Ac rI l_many A0)))) rI (m__law_value l_p l_equation_here l_numbers l_many) := by
  intro vs H1 hp Q E k
  obtain ⟨v0, w0, rfl, f0, hp⟩ := hp
  cases f0
  obtain ⟨v1, w1, rfl, f1, hp⟩ := hp
  obtain ⟨v2, w2, rfl, f2, hp⟩ := hp
  obtain ⟨p2, rfl, f2⟩ := f2
  obtain ⟨v3, w3, rfl, f3, hp⟩ := hp
  cases f3
  cases hp
  exact ⟨_, _, _, _, v1, p2, rfl, f1, f2, h0, h1, h2, h3, h4, fun p H2 n e l => k p H2 n e l⟩
end
theorem ok__law_value {f : Addr} {fd : FuncData} (F : Fun K "_law_value" "_law_value" s__law_value f fd) (n_range : mg "range" = none) (n_min : mg "min" = none) (n_len : mg "len" = none) : FnOk P w K mg base CX0 1 f fd ["_law_p", "_law_equation_here", "_law_numbers", "_law_many"] (sp__law_value K) := by
  refine F.ok sc__law_value (fun vs H Q E h => ?_) (fun cdv A outer s H vs Q E hr h => ?_)
  · obtain ⟨l_p, l_equation_here, l_numbers, l_many, v_l_equation_here, p_l_numbers, rfl, _⟩ := h; rfl
  · obtain ⟨l_p, l_equation_here, l_numbers, l_many, v_l_equation_here, p_l_numbers, rfl, f_l_equation_here, f_l_numbers, hpre0, hpre1, hpre2, hpre3, hpre4, q⟩ := h
    refine ⟨_, (pss_cons (ps_set (i := 4) sc__law_value.nd rfl (Or.inl rfl) (pe_op op_rep (pe_lst (pa_cons pe_int pa_nil)) (pv 3)))
 (pss_cons (ps_for PassesOwn.never rfl (pi_tupK K (pe_sl3 K (pv 1) po_none po_none (pe_un un_neg pe_int))) (pg_name (i := 5) sc__law_value.nd rfl (Or.inl rfl))
 (pss_cons (ps_set (i := 6) sc__law_value.nd rfl (Or.inl rfl) (pe_op op_rep (pe_lst (pa_cons pe_int pa_nil)) (pv 3)))
 (pss_cons (ps_for PassesOwn.never rfl (pi_range1 (by rfl) n_range (pa_cons (pv 3) pa_nil)) (pg_name (i := 7) sc__law_value.nd rfl (Or.inl rfl))
 (Evl.pss_cut (ps_if (pt_cmpR op_ne (pe_ix (ix_listK K) (pv 4) (pv 7) (fun _ _ => rfl)) pe_int (nomark _)) (pss_one (ps_for PassesOwn.never rfl (pi_range1 (by rfl) n_range (pa_cons (pe_op op_sub (pv 3) (pv 7)) pa_nil)) (pg_name (i := 8) sc__law_value.nd rfl (Or.inl rfl))
 (pss_cons (ps_set (i := 9) sc__law_value.nd rfl (Or.inl rfl) (pe_op op_mul (pe_ix (ix_listK K) (pv 4) (pv 7) (fun _ _ => rfl)) (pe_ix (ix_listK K) (pv 2) (pv 8) (fun _ _ => rfl))))
 (pss_one (ps_asg (pe_op op_mod (pe_op op_add (pe_ix (ix_listK K) (pv 6) (pe_op op_add (pv 7) (pv 8)) (fun _ _ => rfl)) (pv 9)) (pv 0)) (pg_sub (pv 6) (pe_op op_add (pv 7) (pv 8)) set_list)))))) pss_nil)
 pss_nil))
 (pss_cons (ps_for PassesOwn.never rfl (pi_range1 (by rfl) n_range (pa_cons (pe_callB (call_min2 rfl) (by rfl) n_min (by decide +kernel) (pa_cons (pv 3) (pa_cons (pe_callB (call_len_seqK K) (by rfl) n_len (by decide +kernel) (pa_cons (pv 5) pa_nil)) pa_nil))) pa_nil)) (pg_name (i := 7) sc__law_value.nd rfl (Or.inl rfl))
 (pss_one (ps_asg (pe_op op_mod (pe_op op_add (pe_ix (ix_listK K) (pv 6) (pv 7) (fun _ _ => rfl)) (pe_ix (ix_tupK K) (pv 5) (pv 7) (fun _ _ => rfl))) (pv 0)) (pg_sub (pv 6) (pv 7) set_list))))
 (pss_one (ps_set (i := 4) sc__law_value.nd rfl (Or.inl rfl) (pv 6)))))))
 (pss_one (ps_ret (pv 4))))), ?_⟩
    have F0 : Ex H H := Ex.refl H
    have hl := hpre1.1
    refine q_asgL (el_rep (el_lst (R := rI) (eas er_int eas0) (by first | decide | simp)) er_iv (by omega) (by simp only [List.length_cons, List.length_nil]; omega)) fun p3 H1 n4 e2 l5 => ?_
    have nep_l_numbersp3 : p_l_numbers ≠ p3 := f_l_numbers.ne n4
    have n0p3 : _ = none := fresh_back F0 n4
    replace f_l_equation_here := Me.ex e2 f_l_equation_here
    replace f_l_numbers := Lt.ex f_l_numbers e2
    replace F0 := F0.trans e2
    refine q_forT (er_revT (er_var rfl f_l_equation_here) (sz1 (by first | omega | assumption | (simp only [Bool.and_eq_true, Bool.or_eq_true, Bool.not_eq_true', Bool.and_eq_false_iff, Bool.or_eq_false_iff, Bool.not_eq_false', decide_eq_true_eq, decide_eq_false_iff_not, List.length_append, List.length_cons, List.length_nil, List.length_map, List.length_range, List.length_set, rng_len, enm_len, repL_len] at *; omega)))) fun v8 H6 e7 r9 => ?_
    replace f_l_equation_here := Me.ex e7 f_l_equation_here
    replace f_l_numbers := Lt.ex f_l_numbers e7
    replace l5 := Lt.ex l5 e7
    replace F0 := F0.trans e7
    have k10 : Kt K _ _ := Kt.refl H6
    refine fq_T r9 (fun i σ' H' => ∃ (s1 : (List Int)) (j12 : Option V) (j13 : Option V) (j14 : Option V) (j15 : Option V) (j16 : Option V) (p11 : Addr), s1 = List.foldl (st__law_value_1 l_p l_equation_here l_numbers l_many) ((repL ([(0 : Int)] : List Int) l_many)) (List.take i l_equation_here.reverse) ∧ (Nms l_p s1 ∧ (s1.length : Int) = l_many) ∧ σ' = [some (.int l_p), some v_l_equation_here, some (.ref p_l_numbers), some (.int l_many), some (.ref p11), j12, j13, j14, j15, j16] ∧ Ex H H' ∧ Kt K H6 H' ∧ Lt rI H' p_l_numbers l_numbers ∧ H p11 = none ∧ Lt rI H' p11 s1) ?_ ?_ ?_ ?_
    · exact ⟨((repL ([(0 : Int)] : List Int) l_many)), _, _, _, _, _, _, rfl, (rep0_ok (by omega) hpre3.1), rfl, F0, k10, f_l_numbers, n0p3, l5⟩
    · intro i σ' H' hi h; obtain ⟨s1, j12, j13, j14, j15, j16, p11, hs1, hp1_0, rfl, F0, k10, f_l_numbers, n0p11, l5⟩ := h; exact Mkt.kt k10 r9
    ·
      rintro i x1 v18 _ H17 hi hx1 ⟨s1, j12, j13, j14, j15, j16, p11, hs1, hp1_0, rfl, F0, k10, f_l_numbers, n0p11, l5⟩ r19
      replace f_l_equation_here := Mkt.kt k10 f_l_equation_here
      refine q_asgL (el_rep (el_lst (R := rI) (eas er_int eas0) (by first | decide | simp)) er_iv (by omega) (by simp only [List.length_cons, List.length_nil]; omega)) fun p22 H20 n23 e21 l24 => ?_
      have nep_l_numbersp22 : p_l_numbers ≠ p22 := f_l_numbers.ne n23
      have nep11p22 : p11 ≠ p22 := l5.ne n23
      have n0p22 : _ = none := fresh_back F0 n23
      replace f_l_equation_here := Me.ex e21 f_l_equation_here
      replace f_l_numbers := Lt.ex f_l_numbers e21
      replace l5 := Lt.ex l5 e21
      replace r19 := Me.ex e21 r19
      replace F0 := F0.trans e21
      replace k10 := k10.trans (Kt.ex e21)
      refine q_forR1 er_iv (by first | omega | assumption) fun H25 e26 => ?_
      replace f_l_equation_here := Me.ex e26 f_l_equation_here
      replace f_l_numbers := Lt.ex f_l_numbers e26
      replace l5 := Lt.ex l5 e26
      replace r19 := Me.ex e26 r19
      replace l24 := Lt.ex l24 e26
      replace F0 := F0.trans e26
      replace k10 := k10.trans (Kt.ex e26)
      have k27 : Kt K _ _ := Kt.refl H25
      refine fq_R (lo := 0) (hi := l_many) (by rw [Int.sub_zero]) (fun i σ' H' => ∃ (s2 : (List Int)) (j28 : Option V) (j29 : Option V) (j30 : Option V), s2 = List.foldl (st__law_value_2 l_p l_equation_here l_numbers l_many s1 x1) ((repL ([(0 : Int)] : List Int) l_many)) (List.take i ((rng 0 l_many))) ∧ (Nms l_p s2 ∧ (s2.length : Int) = l_many) ∧ σ' = [some (.int l_p), some v_l_equation_here, some (.ref p_l_numbers), some (.int l_many), some (.ref p11), some v18, some (.ref p22), j28, j29, j30] ∧ Ex H H' ∧ Kt K H25 H' ∧ Lt rI H' p_l_numbers l_numbers ∧ Lt rI H' p11 s1 ∧ Lt rI H' p22 s2) ?_ ?_ ?_
      · exact ⟨((repL ([(0 : Int)] : List Int) l_many)), _, _, _, rfl, (rep0_ok (by omega) hpre3.1), rfl, F0, k27, f_l_numbers, l5, l24⟩
      ·
        rintro i x2  _ H31 hi hx2 ⟨s2, j28, j29, j30, hs2, hp2_0, rfl, F0, k27, f_l_numbers, l5, l24⟩
        replace f_l_equation_here := Mkt.kt k27 f_l_equation_here
        replace r19 := Mkt.kt k27 r19
        replace k10 := k10.trans k27
        have hr2 := rng_at hx2
        have k34 : Kt K _ _ := Kt.refl H31
        refine ⟨fun σ' H' => ∃ (j48 : Option V) (j49 : Option V), σ' = [some (.int l_p), some v_l_equation_here, some (.ref p_l_numbers), some (.int l_many), some (.ref p11), some v18, some (.ref p22), some (.int x2), j48, j49] ∧ Ex H H' ∧ Kt K H31 H' ∧ Lt rI H' p_l_numbers l_numbers ∧ Lt rI H' p11 s1 ∧ Lt rI H' p22 ((if (!decide ((gt0 (0 : Int) s1 x2) = (0 : Int))) = true then (List.foldl (st__law_value_3 l_p l_equation_here l_numbers l_many s1 x1 s2 x2) (s2) ((rng 0 (l_many - x2)))) else s2)), ?_, ?_⟩
        · refine s_if (et_t (er_neI (er_ixL0 (0 : Int) (er_var rfl (Lt.rl l5)) er_iv (by first | omega | assumption | (simp; omega) | (simp only [Bool.and_eq_true, Bool.or_eq_true, Bool.not_eq_true', Bool.and_eq_false_iff, Bool.or_eq_false_iff, Bool.not_eq_false', decide_eq_true_eq, decide_eq_false_iff_not, List.length_append, List.length_cons, List.length_nil, List.length_map, List.length_range, List.length_set, rng_len, enm_len, repL_len] at *; omega)) (by first | omega | assumption | (simp; omega) | (simp only [Bool.and_eq_true, Bool.or_eq_true, Bool.not_eq_true', Bool.and_eq_false_iff, Bool.or_eq_false_iff, Bool.not_eq_false', decide_eq_true_eq, decide_eq_false_iff_not, List.length_append, List.length_cons, List.length_nil, List.length_map, List.length_range, List.length_set, rng_len, enm_len, repL_len] at *; omega))) er_int)) (fun hb_1 H32 e33 => ?_) (fun hb_1 H32 e33 => ?_)
          ·
            have hb_1' := hb_1
            try simp only [Bool.and_eq_true, Bool.or_eq_true, Bool.not_eq_true', Bool.and_eq_false_iff, Bool.or_eq_false_iff, Bool.not_eq_false', decide_eq_true_eq, decide_eq_false_iff_not] at hb_1'
            replace f_l_equation_here := Me.ex e33 f_l_equation_here
            replace f_l_numbers := Lt.ex f_l_numbers e33
            replace l5 := Lt.ex l5 e33
            replace r19 := Me.ex e33 r19
            replace l24 := Lt.ex l24 e33
            replace F0 := F0.trans e33
            replace k27 := k27.trans (Kt.ex e33)
            replace k10 := k10.trans (Kt.ex e33)
            replace k34 := k34.trans (Kt.ex e33)
            refine s_forR1 (er_op0 er_iv er_iv) (by first | omega | assumption) fun H35 e36 => ?_
            replace f_l_equation_here := Me.ex e36 f_l_equation_here
            replace f_l_numbers := Lt.ex f_l_numbers e36
            replace l5 := Lt.ex l5 e36
            replace r19 := Me.ex e36 r19
            replace l24 := Lt.ex l24 e36
            replace F0 := F0.trans e36
            replace k27 := k27.trans (Kt.ex e36)
            replace k10 := k10.trans (Kt.ex e36)
            replace k34 := k34.trans (Kt.ex e36)
            have k37 : Kt K _ _ := Kt.refl H35
            refine fl_R (lo := 0) (hi := (l_many - x2)) (by rw [Int.sub_zero]) (fun i σ' H' => ∃ (s3 : (List Int)) (j38 : Option V) (j39 : Option V), s3 = List.foldl (st__law_value_3 l_p l_equation_here l_numbers l_many s1 x1 s2 x2) (s2) (List.take i ((rng 0 (l_many - x2)))) ∧ (Nms l_p s3 ∧ (s3.length : Int) = l_many) ∧ σ' = [some (.int l_p), some v_l_equation_here, some (.ref p_l_numbers), some (.int l_many), some (.ref p11), some v18, some (.ref p22), some (.int x2), j38, j39] ∧ Ex H H' ∧ Kt K H35 H' ∧ Lt rI H' p_l_numbers l_numbers ∧ Lt rI H' p11 s1 ∧ Lt rI H' p22 s3) ?_ ?_ ?_
            · exact ⟨(s2), _, _, rfl, (by assumption), rfl, F0, k37, f_l_numbers, l5, l24⟩
            ·
              rintro i x3  _ H40 hi hx3 ⟨s3, j38, j39, hs3, hp3_0, rfl, F0, k37, f_l_numbers, l5, l24⟩
              replace f_l_equation_here := Mkt.kt k37 f_l_equation_here
              replace r19 := Mkt.kt k37 r19
              replace k27 := k27.trans k37
              replace k10 := k10.trans k37
              replace k34 := k34.trans k37
              have hr3 := rng_at hx3
              have hn := gt0_nms (by omega) hpre2 x3
              refine q_asgI (er_op (er_ixL0 (0 : Int) (er_var rfl (Lt.rl l5)) er_iv (by first | omega | assumption | (simp; omega) | (simp only [Bool.and_eq_true, Bool.or_eq_true, Bool.not_eq_true', Bool.and_eq_false_iff, Bool.or_eq_false_iff, Bool.not_eq_false', decide_eq_true_eq, decide_eq_false_iff_not, List.length_append, List.length_cons, List.length_nil, List.length_map, List.length_range, List.length_set, rng_len, enm_len, repL_len] at *; omega)) (by first | omega | assumption | (simp; omega) | (simp only [Bool.and_eq_true, Bool.or_eq_true, Bool.not_eq_true', Bool.and_eq_false_iff, Bool.or_eq_false_iff, Bool.not_eq_false', decide_eq_true_eq, decide_eq_false_iff_not, List.length_append, List.length_cons, List.length_nil, List.length_map, List.length_range, List.length_set, rng_len, enm_len, repL_len] at *; omega))) (er_ixL0 (0 : Int) (er_var rfl (Lt.rl f_l_numbers)) er_iv (by first | omega | assumption | (simp; omega) | (simp only [Bool.and_eq_true, Bool.or_eq_true, Bool.not_eq_true', Bool.and_eq_false_iff, Bool.or_eq_false_iff, Bool.not_eq_false', decide_eq_true_eq, decide_eq_false_iff_not, List.length_append, List.length_cons, List.length_nil, List.length_map, List.length_range, List.length_set, rng_len, enm_len, repL_len] at *; omega)) (by first | omega | assumption | (simp; omega) | (simp only [Bool.and_eq_true, Bool.or_eq_true, Bool.not_eq_true', Bool.and_eq_false_iff, Bool.or_eq_false_iff, Bool.not_eq_false', decide_eq_true_eq, decide_eq_false_iff_not, List.length_append, List.length_cons, List.length_nil, List.length_map, List.length_range, List.length_set, rng_len, enm_len, repL_len] at *; omega))) (cmul_r (by omega))) fun H41 e42 => ?_
              replace f_l_equation_here := Me.ex e42 f_l_equation_here
              replace f_l_numbers := Lt.ex f_l_numbers e42
              replace l5 := Lt.ex l5 e42
              replace r19 := Me.ex e42 r19
              replace l24 := Lt.ex l24 e42
              replace F0 := F0.trans e42
              replace k37 := k37.trans (Kt.ex e42)
              replace k27 := k27.trans (Kt.ex e42)
              replace k10 := k10.trans (Kt.ex e42)
              replace k34 := k34.trans (Kt.ex e42)
              refine s_set (K := K) (j := 6) l24 rfl (er_op (er_op0 (er_ixL0 (0 : Int) (er_var rfl (Lt.rl l24)) (er_op0 er_iv er_iv) (by first | omega | assumption | (simp; omega) | (simp only [Bool.and_eq_true, Bool.or_eq_true, Bool.not_eq_true', Bool.and_eq_false_iff, Bool.or_eq_false_iff, Bool.not_eq_false', decide_eq_true_eq, decide_eq_false_iff_not, List.length_append, List.length_cons, List.length_nil, List.length_map, List.length_range, List.length_set, rng_len, enm_len, repL_len] at *; omega)) (by first | omega | assumption | (simp; omega) | (simp only [Bool.and_eq_true, Bool.or_eq_true, Bool.not_eq_true', Bool.and_eq_false_iff, Bool.or_eq_false_iff, Bool.not_eq_false', decide_eq_true_eq, decide_eq_false_iff_not, List.length_append, List.length_cons, List.length_nil, List.length_map, List.length_range, List.length_set, rng_len, enm_len, repL_len] at *; omega))) er_iv) er_iv (by omega)) (er_op0 er_iv er_iv) (by first | omega | assumption | (simp; omega) | (simp only [Bool.and_eq_true, Bool.or_eq_true, Bool.not_eq_true', Bool.and_eq_false_iff, Bool.or_eq_false_iff, Bool.not_eq_false', decide_eq_true_eq, decide_eq_false_iff_not, List.length_append, List.length_cons, List.length_nil, List.length_map, List.length_range, List.length_set, rng_len, enm_len, repL_len] at *; omega)) (by first | omega | assumption | (simp; omega) | (simp only [Bool.and_eq_true, Bool.or_eq_true, Bool.not_eq_true', Bool.and_eq_false_iff, Bool.or_eq_false_iff, Bool.not_eq_false', decide_eq_true_eq, decide_eq_false_iff_not, List.length_append, List.length_cons, List.length_nil, List.length_map, List.length_range, List.length_set, rng_len, enm_len, repL_len] at *; omega)) fun H43 c44 l45 => ?_
              have kt46 : Kt K _ _ := Lt.kt l24 c44
              replace k37 := k37.trans kt46
              replace k27 := k27.trans kt46
              replace k10 := k10.trans kt46
              replace k34 := k34.trans kt46
              replace f_l_equation_here := Mkt.kt kt46 f_l_equation_here
              replace f_l_numbers := Lt.keep f_l_numbers kt46 c44 (by first | assumption | exact Ne.symm (by assumption))
              replace l5 := Lt.keep l5 kt46 c44 (by first | assumption | exact Ne.symm (by assumption))
              replace r19 := Mkt.kt kt46 r19
              replace F0 := C1.ofNew F0 n0p22 c44
              exact ⟨st__law_value_3 l_p l_equation_here l_numbers l_many s1 x1 s2 x2 s3 x3, _, _, fold_snoc hs3 hx3, (set_ok (by omega) hp3_0), rfl, F0, k37, f_l_numbers, l5, l45⟩
            rintro _ H47 ⟨s3, j38, j39, hs3, hp3_0, rfl, F0, k37, f_l_numbers, l5, l24⟩
            rw [take_all] at hs3; subst hs3
            replace f_l_equation_here := Mkt.kt k37 f_l_equation_here
            replace r19 := Mkt.kt k37 r19
            replace k27 := k27.trans k37
            replace k10 := k10.trans k37
            replace k34 := k34.trans k37
            refine ⟨_, _, (by (try rw [hb_1]); rfl), F0, k34, (by (try rw [hb_1]); exact f_l_numbers), (by (try rw [hb_1]); exact l5), (by (try rw [hb_1]); exact l24)⟩
          ·
            have hb_1' := hb_1
            try simp only [Bool.and_eq_true, Bool.or_eq_true, Bool.not_eq_true', Bool.and_eq_false_iff, Bool.or_eq_false_iff, Bool.not_eq_false', decide_eq_true_eq, decide_eq_false_iff_not] at hb_1'
            replace f_l_equation_here := Me.ex e33 f_l_equation_here
            replace f_l_numbers := Lt.ex f_l_numbers e33
            replace l5 := Lt.ex l5 e33
            replace r19 := Me.ex e33 r19
            replace l24 := Lt.ex l24 e33
            replace F0 := F0.trans e33
            replace k27 := k27.trans (Kt.ex e33)
            replace k10 := k10.trans (Kt.ex e33)
            replace k34 := k34.trans (Kt.ex e33)
            refine ⟨_, _, (by (try rw [hb_1]); rfl), F0, k34, (by (try rw [hb_1]); exact f_l_numbers), (by (try rw [hb_1]); exact l5), (by (try rw [hb_1]); exact l24)⟩
        rintro _ H50 ⟨j48, j49, rfl, F0, kt51, f_l_numbers, l5, l24⟩
        replace k27 := k27.trans kt51
        replace k10 := k10.trans kt51
        replace f_l_equation_here := Mkt.kt kt51 f_l_equation_here
        replace r19 := Mkt.kt kt51 r19
        exact ⟨st__law_value_2 l_p l_equation_here l_numbers l_many s1 x1 s2 x2, _, _, _, fold_snoc hs2 hx2, (by unfold st__law_value_2; split; exact foldl_ind (P := fun s => Nms l_p s ∧ (s.length : Int) = l_many) hp2_0 (fun s x _ h => set_ok (by omega) h); exact hp2_0), rfl, F0, k27, f_l_numbers, l5, l24⟩
      rintro _ H52 ⟨s2, j28, j29, j30, hs2, hp2_0, rfl, F0, k27, f_l_numbers, l5, l24⟩
      rw [take_all] at hs2; subst hs2
      replace f_l_equation_here := Mkt.kt k27 f_l_equation_here
      replace r19 := Mkt.kt k27 r19
      replace k10 := k10.trans k27
      refine q_forR1 (er_mn2 er_iv (er_lenT (er_var rfl r19))) (mn2_rng (by omega)) fun H53 e54 => ?_
      replace f_l_equation_here := Me.ex e54 f_l_equation_here
      replace f_l_numbers := Lt.ex f_l_numbers e54
      replace l5 := Lt.ex l5 e54
      replace r19 := Me.ex e54 r19
      replace l24 := Lt.ex l24 e54
      replace F0 := F0.trans e54
      replace k10 := k10.trans (Kt.ex e54)
      have k55 : Kt K _ _ := Kt.refl H53
      refine fq_R (lo := 0) (hi := (mn2 l_many ((x1.length : Int)))) (by rw [Int.sub_zero]) (fun i σ' H' => ∃ (s4 : (List Int)) (j56 : Option V), s4 = List.foldl (st__law_value_4 l_p l_equation_here l_numbers l_many s1 x1) ((List.foldl (st__law_value_2 l_p l_equation_here l_numbers l_many s1 x1) ((repL ([(0 : Int)] : List Int) l_many)) ((rng 0 l_many)))) (List.take i ((rng 0 (mn2 l_many ((x1.length : Int)))))) ∧ (Nms l_p s4 ∧ (s4.length : Int) = l_many) ∧ σ' = [some (.int l_p), some v_l_equation_here, some (.ref p_l_numbers), some (.int l_many), some (.ref p11), some v18, some (.ref p22), j56, j29, j30] ∧ Ex H H' ∧ Kt K H53 H' ∧ Lt rI H' p_l_numbers l_numbers ∧ Lt rI H' p11 s1 ∧ Lt rI H' p22 s4) ?_ ?_ ?_
      · exact ⟨((List.foldl (st__law_value_2 l_p l_equation_here l_numbers l_many s1 x1) ((repL ([(0 : Int)] : List Int) l_many)) ((rng 0 l_many)))), _, rfl, (by assumption), rfl, F0, k55, f_l_numbers, l5, l24⟩
      ·
        rintro i x4  _ H57 hi hx4 ⟨s4, j56, hs4, hp4_0, rfl, F0, k55, f_l_numbers, l5, l24⟩
        replace f_l_equation_here := Mkt.kt k55 f_l_equation_here
        replace r19 := Mkt.kt k55 r19
        replace k10 := k10.trans k55
        have hr4 := rng_at hx4
        have hq := mn2_both hr4.2.2
        refine s_set (K := K) (j := 6) l24 rfl (er_op (er_op0 (er_ixL0 (0 : Int) (er_var rfl (Lt.rl l24)) er_iv (by first | omega | assumption | (simp; omega) | (simp only [Bool.and_eq_true, Bool.or_eq_true, Bool.not_eq_true', Bool.and_eq_false_iff, Bool.or_eq_false_iff, Bool.not_eq_false', decide_eq_true_eq, decide_eq_false_iff_not, List.length_append, List.length_cons, List.length_nil, List.length_map, List.length_range, List.length_set, rng_len, enm_len, repL_len] at *; omega)) (by first | omega | assumption | (simp; omega) | (simp only [Bool.and_eq_true, Bool.or_eq_true, Bool.not_eq_true', Bool.and_eq_false_iff, Bool.or_eq_false_iff, Bool.not_eq_false', decide_eq_true_eq, decide_eq_false_iff_not, List.length_append, List.length_cons, List.length_nil, List.length_map, List.length_range, List.length_set, rng_len, enm_len, repL_len] at *; omega))) (er_ixT0 (0 : Int) (er_var rfl r19) er_iv (by first | omega | assumption | (simp; omega) | (simp only [Bool.and_eq_true, Bool.or_eq_true, Bool.not_eq_true', Bool.and_eq_false_iff, Bool.or_eq_false_iff, Bool.not_eq_false', decide_eq_true_eq, decide_eq_false_iff_not, List.length_append, List.length_cons, List.length_nil, List.length_map, List.length_range, List.length_set, rng_len, enm_len, repL_len] at *; omega)) (by first | omega | assumption | (simp; omega) | (simp only [Bool.and_eq_true, Bool.or_eq_true, Bool.not_eq_true', Bool.and_eq_false_iff, Bool.or_eq_false_iff, Bool.not_eq_false', decide_eq_true_eq, decide_eq_false_iff_not, List.length_append, List.length_cons, List.length_nil, List.length_map, List.length_range, List.length_set, rng_len, enm_len, repL_len] at *; omega)))) er_iv (by omega)) er_iv (by first | omega | assumption | (simp; omega) | (simp only [Bool.and_eq_true, Bool.or_eq_true, Bool.not_eq_true', Bool.and_eq_false_iff, Bool.or_eq_false_iff, Bool.not_eq_false', decide_eq_true_eq, decide_eq_false_iff_not, List.length_append, List.length_cons, List.length_nil, List.length_map, List.length_range, List.length_set, rng_len, enm_len, repL_len] at *; omega)) (by first | omega | assumption | (simp; omega) | (simp only [Bool.and_eq_true, Bool.or_eq_true, Bool.not_eq_true', Bool.and_eq_false_iff, Bool.or_eq_false_iff, Bool.not_eq_false', decide_eq_true_eq, decide_eq_false_iff_not, List.length_append, List.length_cons, List.length_nil, List.length_map, List.length_range, List.length_set, rng_len, enm_len, repL_len] at *; omega)) fun H58 c59 l60 => ?_
        have kt61 : Kt K _ _ := Lt.kt l24 c59
        replace k55 := k55.trans kt61
        replace k10 := k10.trans kt61
        replace f_l_equation_here := Mkt.kt kt61 f_l_equation_here
        replace f_l_numbers := Lt.keep f_l_numbers kt61 c59 (by first | assumption | exact Ne.symm (by assumption))
        replace l5 := Lt.keep l5 kt61 c59 (by first | assumption | exact Ne.symm (by assumption))
        replace r19 := Mkt.kt kt61 r19
        replace F0 := C1.ofNew F0 n0p22 c59
        exact ⟨st__law_value_4 l_p l_equation_here l_numbers l_many s1 x1 s4 x4, _, fold_snoc hs4 hx4, (set_ok (by omega) hp4_0), rfl, F0, k55, f_l_numbers, l5, l60⟩
      rintro _ H62 ⟨s4, j56, hs4, hp4_0, rfl, F0, k55, f_l_numbers, l5, l24⟩
      rw [take_all] at hs4; subst hs4
      replace f_l_equation_here := Mkt.kt k55 f_l_equation_here
      replace r19 := Mkt.kt k55 r19
      replace k10 := k10.trans k55
      refine s_asg0 ⟨_, rfl, ?_⟩
      exact ⟨st__law_value_1 l_p l_equation_here l_numbers l_many s1 x1, _, _, _, _, _, _, fold_snoc hs1 hx1, (by assumption), rfl, F0, k10, f_l_numbers, n0p22, l24⟩
    rintro _ H65 ⟨s1, j12, j13, j14, j15, j16, p11, hs1, hp1_0, rfl, F0, k10, f_l_numbers, n0p11, l5⟩
    rw [take_all] at hs1; subst hs1
    replace f_l_equation_here := Mkt.kt k10 f_l_equation_here
    exact s_retL (i := 4) rfl (q _ _ n0p11 F0 (by exact l5))

end
section
/-! ### a two with a series in the place of y; its slope -/
variable {p : Int}
def hv (p : Int) : List (List Int) → Ser (Zp p) → Ser (Zp p)
  | [], _ => 0
  | a :: t, f => ser p a + f * hv p t f
def dv (p : Int) : List (List Int) → Ser (Zp p) → Ser (Zp p)
  | [], _ => 0
  | _ :: t, f => hv p t f + f * dv p t f
theorem hv_snoc (t : List (List Int)) (a : List Int) (f : Ser (Zp p)) : ∃ g : Ser (Zp p), (∀ b : List Int, hv p (t ++ [b]) f = hv p t f + g * ser p b) ∧ hv p (t ++ [[]]) f = hv p t f := by
  induction t with
  | nil => exact ⟨1, fun b => by simp only [List.nil_append, hv]; grind, by simp only [List.nil_append, hv, ser_nil]; grind⟩
  | cons c t ih =>
    obtain ⟨g, h1, h2⟩ := ih
    exact ⟨f * g, fun b => by simp only [List.cons_append, hv, h1]; grind, by simp only [List.cons_append, hv, h2]⟩
theorem hv_trim (f : Ser (Zp p)) (t : List (List Int)) : hv p (trim2 t) f = hv p t f := by
  refine snoc_ind (P := fun t => hv p (trim2 t) f = hv p t f) rfl (fun t a ih => ?_) t
  show hv p (trimG [] (t ++ [a])) f = _
  rw [trim_snoc]
  split
  · rename_i h
    rw [h, (hv_snoc t a f).choose_spec.2]
    exact ih
  · rfl
theorem dv_app0 (f : Ser (Zp p)) (t : List (List Int)) : dv p (t ++ [[]]) f = dv p t f := by
  induction t with
  | nil => simp only [List.nil_append, dv, hv]; grind
  | cons c t ih => simp only [List.cons_append, dv, ih, (hv_snoc t [] f).choose_spec.2]
theorem dv_trim (f : Ser (Zp p)) (t : List (List Int)) : dv p (trim2 t) f = dv p t f := by
  refine snoc_ind (P := fun t => dv p (trim2 t) f = dv p t f) rfl (fun t a ih => ?_) t
  show dv p (trimG [] (t ++ [a])) f = _
  rw [trim_snoc]
  split
  · rename_i h
    rw [h, dv_app0]
    exact ih
  · rfl
theorem hv_pad (f : Ser (Zp p)) (t : List (List Int)) (n : Nat) : hv p (t ++ List.replicate n []) f = hv p t f := by
  induction n with
  | zero => simp
  | succ n ih => rw [List.replicate_succ', ← List.append_assoc, (hv_snoc _ [] f).choose_spec.2, ih]
theorem dv_pad (f : Ser (Zp p)) (t : List (List Int)) (n : Nat) : dv p (t ++ List.replicate n []) f = dv p t f := by
  induction n with
  | zero => simp
  | succ n ih => rw [List.replicate_succ', ← List.append_assoc, dv_app0, ih]
def Dk (f : Ser (Zp p)) : Nat → Ser (Zp p)
  | 0 => 0
  | k + 1 => f ^ k + f * Dk f k
/-- a two told by its polynomials' series, as far as it goes -/
theorem hv_set (f : Ser (Zp p)) : ∀ (t : List (List Int)) (k : Nat) (b : List Int) (g : Ser (Zp p)), k < t.length → ser p b = ser p (t.getD k []) + g → hv p (t.set k b) f = hv p t f + f ^ k * g ∧ dv p (t.set k b) f = dv p t f + Dk f k * g
  | [], k, b, g, h, _ => by simp at h
  | a :: t, 0, b, g, _, e => by
    have e : ser p b = ser p a + g := e
    simp only [List.set_cons_zero, hv, dv, e, Dk]
    constructor <;> grind
  | a :: t, k + 1, b, g, h, e => by
    obtain ⟨h1, h2⟩ := hv_set f t k b g (by simpa using h) e
    simp only [List.set_cons_succ, hv, dv, h1, h2, Dk]
    constructor <;> grind
/-- the fold of twos_added -/
theorem tadd_fold (hp : 0 < p) {one other : List (List Int)} {k : Int} (f : Ser (Zp p)) (h2 : ∀ x ∈ other, Nms p x) : ∀ (t : List (List Int)), (∀ x ∈ t, Nms p x) → ∀ (s : List (List Int)), t.length ≤ s.length → (∀ x ∈ s, Nms p x) →
    hv p (List.foldl (st_twos_added_1 p one other k) s (enm t)) f = hv p s f + Ser.c (zp p k) * hv p t f ∧ dv p (List.foldl (st_twos_added_1 p one other k) s (enm t)) f = dv p s f + Ser.c (zp p k) * dv p t f ∧
    (List.foldl (st_twos_added_1 p one other k) s (enm t)).length = s.length ∧ ∀ x ∈ List.foldl (st_twos_added_1 p one other k) s (enm t), Nms p x := by
  refine snoc_ind ?_ fun t a ih => ?_
  · intro _ s _ hs
    exact ⟨by show hv p s f = hv p s f + _ * hv p [] f; simp only [hv]; grind, by show dv p s f = dv p s f + _ * dv p [] f; simp only [dv]; grind, rfl, hs⟩
  · intro ht s hl hs
    rw [List.length_append, List.length_singleton] at hl
    obtain ⟨i1, i2, i3, i4⟩ := ih (fun x hx => ht x (List.mem_append_left _ hx)) s (by omega) hs
    rw [enm_snoc, List.foldl_append, List.foldl_cons, List.foldl_nil]
    generalize List.foldl (st_twos_added_1 p one other k) s (enm t) = u at i1 i2 i3 i4
    have hg : Nms p (gt0 [] u (t.length : Int)) := by
      rw [gt0_nat]
      cases e : u[t.length]? with
      | none => exact nms_nil
      | some z => exact i4 z (List.mem_of_getElem? e)
    have hadd := added_all (p := p) hp (one := gt0 [] u (t.length : Int)) (other := a) (k := k) hg
    have e : st_twos_added_1 p one other k u ((t.length : Int), a) = u.set t.length (m_added p (gt0 [] u (t.length : Int)) a k) := by
      unfold st_twos_added_1
      rw [ixs_nat]
    rw [e]
    obtain ⟨j1, j2⟩ := hv_set f u t.length (m_added p (gt0 [] u (t.length : Int)) a k) (Ser.c (zp p k) * ser p a) (by omega) (by rw [hadd.2.1, gt0_nat, List.getD_eq_getElem?_getD])
    have a0 : ∀ b : List Int, hv p (t ++ [b]) f = hv p t f + f ^ t.length * ser p b ∧ dv p (t ++ [b]) f = dv p t f + Dk f t.length * ser p b := by
      intro b
      obtain ⟨q1, q2⟩ := hv_set f (t ++ [[]]) t.length b (ser p b) (by simp) (by
        rw [List.getD_eq_getElem?_getD, List.getElem?_append_right (Nat.le_refl _)]
        simp only [Nat.sub_self, List.getElem?_cons_zero, Option.getD_some, ser_nil]
        grind)
      rw [List.set_append_right _ _ (Nat.le_refl _), Nat.sub_self, List.set_cons_zero] at q1 q2
      rw [q1, q2, (hv_snoc t [] f).choose_spec.2, dv_app0]
      exact ⟨rfl, rfl⟩
    refine ⟨?_, ?_, by rw [List.length_set, i3], fun x hx => ?_⟩
    · rw [j1, i1, (a0 a).1]; grind
    · rw [j2, i2, (a0 a).2]; grind
    · rcases List.mem_or_eq_of_mem_set hx with h | h
      · exact i4 x h
      · rw [h]; exact hadd.1.1
theorem tadd_hv (hp : 0 < p) {one other : List (List Int)} {k : Int} (f : Ser (Zp p)) (h1 : ∀ x ∈ one, Nms p x) (h2 : ∀ x ∈ other, Nms p x) : hv p (m_twos_added p one other k) f = hv p one f + Ser.c (zp p k) * hv p other f ∧ dv p (m_twos_added p one other k) f = dv p one f + Ser.c (zp p k) * dv p other f ∧ ∀ x ∈ m_twos_added p one other k, Nms p x := by
  have hl : (one ++ (repL ([([] : (List Int))] : List (List Int)) ((other.length : Int) - (one.length : Int)))).length = max one.length other.length := by
    rw [List.length_append, repL_len]; simp only [List.length_cons, List.length_nil]; omega
  obtain ⟨i1, i2, i3, i4⟩ := tadd_fold hp (k := k) (one := one) f h2 other h2 (one ++ (repL ([([] : (List Int))] : List (List Int)) ((other.length : Int) - (one.length : Int)))) (by rw [hl]; omega) (fun x hx => by
    rcases List.mem_append.mp hx with hx | hx
    · exact h1 x hx
    · rw [repL_one] at hx; rw [List.eq_of_mem_replicate hx]; exact nms_nil)
  have e0 : m_twos_added p one other k = trim2 (List.foldl (st_twos_added_1 p one other k) (one ++ (repL ([([] : (List Int))] : List (List Int)) ((other.length : Int) - (one.length : Int)))) (enm other)) := rfl
  rw [e0, hv_trim, dv_trim, i1, i2]
  refine ⟨by rw [repL_one, hv_pad], by rw [repL_one, dv_pad], fun x hx => i4 x (trim_mem hx)⟩
/-- y + c in the place of y -/
theorem shifted_hv (hp : 0 < p) {c : Int} (f : Ser (Zp p)) : ∀ (t : List (List Int)), (∀ x ∈ t, Nms p x) → hv p (List.foldl (st_shifted_by_1 p [] c) [] t) f = hv p t.reverse (f + Ser.c (zp p c)) ∧ dv p (List.foldl (st_shifted_by_1 p [] c) [] t) f = dv p t.reverse (f + Ser.c (zp p c)) ∧ ∀ x ∈ List.foldl (st_shifted_by_1 p [] c) [] t, Nms p x := by
  refine snoc_ind ?_ fun t a ih => ?_
  · exact fun _ => ⟨rfl, rfl, fun x h => by cases h⟩
  · intro ht
    obtain ⟨i1, i2, i3⟩ := ih fun x hx => ht x (List.mem_append_left _ hx)
    rw [List.foldl_append, List.foldl_cons, List.foldl_nil, List.reverse_append]
    generalize List.foldl (st_shifted_by_1 p [] c) [] t = s at i1 i2 i3
    have m0 : ∀ x ∈ [[]] ++ s, Nms p x := fun x hx => by
      rcases List.mem_append.mp hx with hx | hx
      · rw [List.mem_singleton.mp hx]; exact nms_nil
      · exact i3 x hx
    obtain ⟨a1, a2, a3⟩ := tadd_hv hp (k := c) f m0 i3
    obtain ⟨b1, b2, b3⟩ := tadd_hv hp (k := 1) (one := m_twos_added p ([[]] ++ s) s c) (other := [a]) f a3 (fun x hx => by rw [List.mem_singleton.mp hx]; exact ht a (by simp))
    show hv p (m_twos_added p (m_twos_added p ([[]] ++ s) s c) [a] 1) f = _ ∧ dv p (m_twos_added p (m_twos_added p ([[]] ++ s) s c) [a] 1) f = _ ∧ ∀ x ∈ m_twos_added p (m_twos_added p ([[]] ++ s) s c) [a] 1, Nms p x
    have e1 : hv p ([[]] ++ s) f = f * hv p s f := by simp only [List.cons_append, List.nil_append, hv, ser_nil]; grind
    have e2 : dv p ([[]] ++ s) f = hv p s f + f * dv p s f := by simp only [List.cons_append, List.nil_append, dv]
    have e3 : hv p [a] f = ser p a := by simp only [hv]; grind
    have e4 : dv p [a] f = 0 := by simp only [dv, hv]; grind
    have e5 : Ser.c (zp p 1) = 1 := by rw [zp_one, Ser.c_one]
    refine ⟨?_, ?_, b3⟩
    · rw [b1, a1, e1, e3, e5, i1]
      simp only [List.reverse_cons, List.reverse_nil, List.nil_append, List.cons_append, hv]
      grind
    · rw [b2, a2, e2, e4, i2, i1]
      simp only [List.reverse_cons, List.reverse_nil, List.nil_append, List.cons_append, dv]
      grind
theorem shift_hv (hp : 0 < p) {c : Int} (f : Ser (Zp p)) {t : List (List Int)} (h : ∀ x ∈ t, Nms p x) : hv p (m_shifted_by p t c) f = hv p t (f + Ser.c (zp p c)) ∧ dv p (m_shifted_by p t c) f = dv p t (f + Ser.c (zp p c)) := by
  have h2 := shifted_hv hp (c := c) f t.reverse fun x hx => h x (List.mem_reverse.mp hx)
  rw [List.reverse_reverse] at h2
  have e : m_shifted_by p t c = trim2 (List.foldl (st_shifted_by_1 p [] c) [] t.reverse) := rfl
  rw [e, hv_trim, dv_trim]
  exact ⟨h2.1, h2.2.1⟩
/-- the slope -/
theorem slope_hv (hp : 0 < p) (f : Ser (Zp p)) (t : List (List Int)) : hv p (m_slope_of p t) f = dv p t f := by
  unfold m_slope_of
  rw [hv_trim]
  have key : ∀ (u : List (List Int)) (k : Nat), hv p ((enm u).map fun x1 => m_added p [] x1.2 (x1.1 + ((k : Nat) : Int))) f = dv p u f * f + Ser.c (zp p (k : Int)) * hv p u f := by
    intro u
    induction u with
    | nil => intro k; show hv p [] f = dv p [] f * f + _ * hv p [] f; simp only [hv, dv]; grind
    | cons a u ih =>
      intro k
      rw [enm_cons, List.map_cons, List.map_map]
      have e1 : ((fun x1 : Int × List Int => m_added p [] x1.2 (x1.1 + ((k : Nat) : Int))) ∘ fun q : Int × List Int => (q.1 + 1, q.2)) = fun x1 => m_added p [] x1.2 (x1.1 + (((k + 1 : Nat)) : Int)) := by
        funext q
        show m_added p [] q.2 (q.1 + 1 + ((k : Nat) : Int)) = m_added p [] q.2 (q.1 + (((k + 1 : Nat)) : Int))
        congr 1; omega
      rw [e1]
      show ser p (m_added p [] a (0 + ((k : Nat) : Int))) + f * hv p _ f = dv p (a :: u) f * f + _
      rw [ih (k + 1), (added_all hp (one := []) (other := a) (k := 0 + ((k : Nat) : Int)) nms_nil).2.1, ser_nil]
      have e2 : Ser.c (zp p (((k + 1 : Nat)) : Int)) = Ser.c (zp p (k : Int)) + 1 := by rw [show ((k + 1 : Nat) : Int) = (k : Int) + 1 by omega, zp_add, Ser.c_add, zp_one, Ser.c_one]
      rw [e2, Int.zero_add]
      simp only [dv, hv]
      grind
  cases t with
  | nil => show hv p (List.map _ (enm (cutL [] _ _))) f = _; rfl
  | cons a u =>
    rw [cut_from (by decide)]
    show hv p (List.map (fun x1 => m_added p [] x1.2 (x1.1 + 1)) (enm u)) f = _
    have e3 : Ser.c (zp p ((1 : Nat) : Int)) = 1 := by show Ser.c (zp p 1) = 1; rw [zp_one, Ser.c_one]
    have k1 := key u 1
    rw [e3] at k1
    simp only [dv]
    refine Eq.trans k1 ?_
    grind
end
section
variable {p : Int}
theorem hv_taylor (f g : Ser (Zp p)) : ∀ l : List (List Int), ∃ r, hv p l (f + g) = hv p l f + g * dv p l f + g * g * r
  | [] => ⟨0, by simp only [hv, dv]; grind⟩
  | a :: t => by
    obtain ⟨r, h⟩ := hv_taylor f g t
    exact ⟨dv p t f + f * r + g * r, by simp only [hv, dv, h]; grind⟩
theorem hv_congr {n : Nat} {f g : Ser (Zp p)} (h : Ser.Eqb n f g) : ∀ l : List (List Int), Ser.Eqb n (hv p l f) (hv p l g)
  | [] => Ser.Eqb.refl _ _
  | a :: t => (Ser.Eqb.refl _ _).add (h.mul (hv_congr h t))
theorem dv_congr {n : Nat} {f g : Ser (Zp p)} (h : Ser.Eqb n f g) : ∀ l : List (List Int), Ser.Eqb n (dv p l f) (dv p l g)
  | [] => Ser.Eqb.refl _ _
  | a :: t => (hv_congr h t).add (h.mul (dv_congr h t))
theorem corner_hv (t : List (List Int)) : zp p (cornerL t) = hv p t 0 0 := by
  unfold cornerL
  cases t with
  | nil => rfl
  | cons a t =>
    have e : gt0 [] (a :: t) 0 = a := rfl
    rw [e]
    have e2 : hv p (a :: t) 0 = ser p a := by simp only [hv]; grind
    rw [e2, ser_at]
    have := gt0_getD a 0
    exact congrArg (zp p) this
/-- the first numbers of a value -/
theorem vcut_fold (hp : 0 < p) {poly : List Int} {many : Int} (hm : 0 ≤ many) : ∀ (t : List (List Int)), (∀ x ∈ t, Nms p x) →
    Pol p (List.foldl (st_value_cut_1 p [] poly many) [] t) ∧ (List.foldl (st_value_cut_1 p [] poly many) [] t).length ≤ many.toNat ∧ Ser.Eqb many.toNat (ser p (List.foldl (st_value_cut_1 p [] poly many) [] t)) (hv p t.reverse (ser p poly)) := by
  refine snoc_ind ?_ fun t a ih => ?_
  · exact fun _ => ⟨Pol.nil, Nat.zero_le _, fun i _ => rfl⟩
  · intro ht
    obtain ⟨i1, i2, i3⟩ := ih fun x hx => ht x (List.mem_append_left _ hx)
    rw [List.foldl_append, List.foldl_cons, List.foldl_nil, List.reverse_append]
    generalize List.foldl (st_value_cut_1 p [] poly many) [] t = s at i1 i2 i3
    have hmul := mul_all (p := p) hp (one := s) (other := poly)
    have hadd := added_all (p := p) hp (one := m_multiplied p s poly) (other := a) (k := 1) hmul.1.1
    have e : st_value_cut_1 p [] poly many s a = trimL ((m_added p (m_multiplied p s poly) a 1).take many.toNat) := by
      show trimL (cutL _ none (some many)) = _
      rw [cut_to hm]
    rw [e]
    refine ⟨Pol.trim (nms_take hadd.1.1 _), Nat.le_trans (trim_len _) (by rw [List.length_take]; omega), fun i hi => ?_⟩
    rw [trim_ser, ser_take, if_pos hi, hadd.2.1, hmul.2.1, zp_one, Ser.c_one]
    show (ser p s * ser p poly + 1 * ser p a) i = hv p (a :: t.reverse) (ser p poly) i
    have e2 : (ser p s * ser p poly + 1 * ser p a) = ser p a + ser p poly * ser p s := by grind
    rw [e2]
    exact (Ser.Eqb.refl _ _).add ((Ser.Eqb.refl _ _).mul i3) i hi
theorem vcut_all (hp : 0 < p) {two : List (List Int)} {poly : List Int} {many : Int} (hm : 0 ≤ many) (ht : ∀ x ∈ two, Nms p x) :
    Pol p (m_value_cut p two poly many) ∧ (m_value_cut p two poly many).length ≤ many.toNat ∧ Ser.Eqb many.toNat (ser p (m_value_cut p two poly many)) (hv p two (ser p poly)) := by
  have h := vcut_fold hp (poly := poly) hm two.reverse fun x hx => ht x (List.mem_reverse.mp hx)
  rw [List.reverse_reverse] at h
  exact h
theorem last_zp {v : List Int} {n : Nat} (hl : v.length ≤ n + 1) : zp p (if decide ((v.length : Int) = (n : Int) + 1) = true then gt0 (0 : Int) v (-1) else 0) = ser p v n := by
  by_cases h : (v.length : Int) = (n : Int) + 1
  · rw [if_pos (decide_eq_true h), ser_at]
    unfold gt0 ixs
    rw [if_neg (by omega), show (-1 + (v.length : Int)).toNat = n by omega, List.getD_eq_getElem?_getD]
  · rw [if_neg (by rw [decide_eq_false h]; exact Bool.false_ne_true), ser_high (by omega)]; rfl
/-- a root, entry by entry -/
theorem rootS_ok (hp : 0 < p) {mv : List (List Int)} {back : Int} (hm : ∀ x ∈ mv, Nms p x) (h0 : hv p mv 0 0 = 0) (hb : dv p mv 0 0 * zp p back = 1) : ∀ k, ser p (rootS p mv back k) 0 = 0 ∧ Ser.Eqb (k + 1) (hv p mv (ser p (rootS p mv back k))) 0
  | 0 => by
    have e : ser p (rootS p mv back 0) = 0 := by
      show ser p [0] = 0
      rw [ser_cons, ser_nil, zp_zero, Ser.c_zero]; grind
    rw [e]
    refine ⟨rfl, fun i hi => ?_⟩
    have : i = 0 := by omega
    subst this
    exact h0
  | k + 1 => by
    obtain ⟨i1, i2⟩ := rootS_ok hp hm h0 hb k
    have hl := rootS_len p mv back k
    have hN : ∀ e : Int, zp p e = zp p (rootN p mv back (rootS p mv back k)) → zp p e = -(hv p mv (ser p (rootS p mv back k)) (k + 1)) * zp p back := by
      intro e he
      rw [he]
      unfold rootN
      rw [zp_mod, zp_mul, zp_neg, hl]
      have hv0 := vcut_all hp (two := mv) (poly := trimL (rootS p mv back k)) (many := ((k + 1 : Nat) : Int) + 1) (by omega) hm
      have l1 := last_zp (p := p) (v := m_value_cut p mv (trimL (rootS p mv back k)) (((k + 1 : Nat) : Int) + 1)) (n := k + 1) (by have := hv0.2.1; omega)
      rw [l1, hv0.2.2 (k + 1) (by omega), trim_ser]
    generalize hF : rootS p mv back k = s at *
    have hs : rootS p mv back (k + 1) = s ++ [rootN p mv back s] := by rw [rootS, hF]
    have hr := hN _ rfl
    generalize rootN p mv back s = e at hs hr
    rw [hs, ser_app, hl]
    have e1 : ser p [e] = Ser.c (zp p e) := by rw [ser_cons, ser_nil]; grind
    rw [e1]
    refine ⟨?_, ?_⟩
    · rw [Ser.add_at, Ser.X_mul, if_neg (by omega), i1]; grind
    · obtain ⟨r, hr2⟩ := hv_taylor (ser p s) (Ser.X (k + 1) * Ser.c (zp p e)) mv
      rw [hr2]
      intro i hi
      have e2 : (Ser.X (k + 1) * Ser.c (zp p e) * dv p mv (ser p s) : Ser (Zp p)) = Ser.X (k + 1) * (Ser.c (zp p e) * dv p mv (ser p s)) := by grind
      have e3 : (Ser.X (k + 1) * Ser.c (zp p e) * (Ser.X (k + 1) * Ser.c (zp p e)) * r : Ser (Zp p)) = Ser.X (k + 1) * (Ser.X (k + 1) * (Ser.c (zp p e) * Ser.c (zp p e) * r)) := by grind
      rw [e2, e3, Ser.add_at, Ser.add_at, Ser.X_mul, Ser.X_mul, Ser.zero_at]
      by_cases h : i < k + 1
      · rw [if_neg (by omega), if_neg (by omega), i2 i h, Ser.zero_at]; grind
      · have hi2 : i = k + 1 := by omega
        subst hi2
        rw [if_pos (Nat.le_refl _), if_pos (Nat.le_refl _), Nat.sub_self, Ser.X_mul, if_neg (by omega), Ser.c_mul]
        have d1 : dv p mv (ser p s) 0 = dv p mv 0 0 := dv_congr (n := 1) (fun j hj => by
          have : j = 0 := by omega
          subst this; rw [i1]; rfl) mv 0 (by omega)
        rw [d1, hr]
        grind
/-! ### as the program tells it -/
theorem okR_iff (hp : 0 < p) {eq : List (List Int)} {b : Int} (hT : Tws p 100 eq) : okR p eq b = true ↔ hv p eq (Ser.c (zp p b)) 0 = 0 ∧ dv p eq (Ser.c (zp p b)) 0 ≠ 0 := by
  have hn : ∀ x ∈ eq, Nms p x := fun x hx => (hT.2 x hx).1
  have hM := shifted_tws (c := b) hp hT
  have c1 := corner_nm hp hM
  have c2 := corner_nm hp (slope_tws hp hM)
  have z1 : zp p (cornerL (m_shifted_by p eq b)) = hv p eq (Ser.c (zp p b)) 0 := by rw [corner_hv, (shift_hv hp 0 hn).1, show (0 : Ser (Zp p)) + Ser.c (zp p b) = Ser.c (zp p b) by grind]
  have z2 : zp p (cornerL (m_slope_of p (m_shifted_by p eq b))) = dv p eq (Ser.c (zp p b)) 0 := by rw [corner_hv, slope_hv hp, (shift_hv hp 0 hn).2, show (0 : Ser (Zp p)) + Ser.c (zp p b) = Ser.c (zp p b) by grind]
  have n0 : ∀ {a : Int}, 0 ≤ a ∧ a < p → (a = 0 ↔ zp p a = 0) := fun {a} ha => ⟨fun e => by rw [e]; rfl, fun e => Nm.eq ha ⟨Int.le_refl 0, hp⟩ e⟩
  unfold okR
  rw [Bool.and_eq_true, Bool.not_eq_true', decide_eq_true_eq, decide_eq_false_iff_not, n0 c1, n0 c2, z1, z2]
theorem set0_ser {s : List Int} {b : Int} (hl : 0 < s.length) (h0 : ser p s 0 = 0) : ser p (s.set 0 b) = ser p s + Ser.c (zp p b) := by
  funext i
  rw [Ser.add_at, ser_at, getD_set]
  unfold Ser.c
  by_cases h : i = 0
  · subst h
    rw [if_pos ⟨rfl, hl⟩, if_pos rfl, h0]; grind
  · rw [if_neg (fun z => h z.1), if_neg h, ← ser_at]; grind
theorem rootE_ok (hP : Pr p) {eq : List (List Int)} {b : Int} (hT : Tws p 100 eq) (hb : 0 ≤ b ∧ b < p) (hok : okR p eq b = true) (n : Nat) :
    (rootE p eq b n).length = n ∧ Nms p (rootE p eq b n) ∧ (0 < n → (rootE p eq b n).getD 0 0 = b) ∧ Ser.Eqb n (hv p eq (ser p (rootE p eq b n))) 0 := by
  have hp : 0 < p := by have := hP.le; omega
  have hn : ∀ x ∈ eq, Nms p x := fun x hx => (hT.2 x hx).1
  have hM := shifted_tws (c := b) hp hT
  have hc := okR_c hp hT hok
  have hz := bk_zp hP hc
  obtain ⟨o1, o2⟩ := (okR_iff hp hT).mp hok
  have sh := fun f => shift_hv (p := p) hp (c := b) f hn
  have z0 : (0 : Ser (Zp p)) + Ser.c (zp p b) = Ser.c (zp p b) := by grind
  have hR := rootS_ok hp (mv := m_shifted_by p eq b) (back := bk p (cornerL (m_slope_of p (m_shifted_by p eq b)))) (fun x hx => (hM.2 x hx).1) (by rw [(sh 0).1, z0]; exact o1) (by
    rw [← slope_hv hp, ← corner_hv]; exact hz) (n - 1)
  have hl := rootS_len p (m_shifted_by p eq b) (bk p (cornerL (m_slope_of p (m_shifted_by p eq b)))) (n - 1)
  have hN := rootS_nm hp (m_shifted_by p eq b) (bk p (cornerL (m_slope_of p (m_shifted_by p eq b)))) (n - 1)
  unfold rootE
  generalize rootS p (m_shifted_by p eq b) (bk p (cornerL (m_slope_of p (m_shifted_by p eq b)))) (n - 1) = s at hR hl hN
  refine ⟨by rw [List.length_take, List.length_set]; omega, nms_take (nms_set hN hb) _, fun h => ?_, ?_⟩
  · rw [List.getD_eq_getElem?_getD, List.getElem?_take_of_lt h, List.getElem?_set_self (by omega)]; rfl
  · by_cases h : n = 0
    · subst h; exact fun i hi => by omega
    · have e : (s.set 0 b).take n = s.set 0 b := List.take_of_length_le (by rw [List.length_set]; omega)
      rw [e, set0_ser (by omega) hR.1, ← (sh (ser p s)).1]
      exact hR.2.le (by omega)
theorem rootS_take (mv : List (List Int)) (back : Int) (j : Nat) : ∀ k, j ≤ k → (rootS p mv back k).take (j + 1) = rootS p mv back j
  | 0, h => by
    have : j = 0 := by omega
    subst this; rfl
  | k + 1, h => by
    by_cases e : j = k + 1
    · subst e
      rw [List.take_of_length_le (by rw [rootS_len]; omega)]
    · rw [rootS, List.take_append_of_le_length (by rw [rootS_len]; omega), rootS_take mv back j k (by omega)]
theorem rootE_take {eq : List (List Int)} {b : Int} {m n : Nat} (h : m ≤ n) : rootE p eq b m = (rootE p eq b n).take m := by
  unfold rootE
  rw [List.take_take, Nat.min_eq_left h]
  by_cases hm : m = 0
  · subst hm; rfl
  · have e := rootS_take (p := p) (m_shifted_by p eq b) (bk p (cornerL (m_slope_of p (m_shifted_by p eq b)))) (m - 1) (n - 1) (by omega)
    rw [← e, show m - 1 + 1 = m by omega, List.take_set, List.take_set, List.take_take, Nat.min_self]
end
section
variable {p : Int}
theorem rng_sn (n : Nat) : rng 0 ((n + 1 : Nat) : Int) = rng 0 (n : Int) ++ [(n : Int)] := by
  unfold rng
  rw [show (((n + 1 : Nat) : Int) - 0).toNat = n + 1 by omega, show ((n : Int) - 0).toNat = n by omega, List.range_succ, List.map_append]
  simp
/-- some numbers added, from a place on, so often; by a range -/
theorem rng_fold {st : List Int → Int → List Int} {k : Nat} {c : Int} {other : List Int} (hp : 0 < p) (hst : ∀ s x, st s x = s.set (ixs s.length ((k : Int) + x)) ((gt0 (0 : Int) s ((k : Int) + x) + c * gt0 (0 : Int) other x) % p)) {s : List Int} (hs : Nms p s) : ∀ n : Nat, k + n ≤ s.length →
    (List.foldl st s (rng 0 (n : Int))).length = s.length ∧ Nms p (List.foldl st s (rng 0 (n : Int))) ∧ ∀ i, ser p (List.foldl st s (rng 0 (n : Int))) i = ser p s i + zp p c * (if k ≤ i ∧ i < k + n then ser p other (i - k) else 0)
  | 0, _ => by
    have e : rng 0 ((0 : Nat) : Int) = [] := rfl
    rw [e]
    exact ⟨rfl, hs, fun i => by rw [if_neg (by omega)]; show ser p s i = _; grind⟩
  | n + 1, h => by
    obtain ⟨i1, i2, i3⟩ := rng_fold hp hst hs n (by omega)
    rw [rng_sn, List.foldl_append, List.foldl_cons, List.foldl_nil]
    generalize List.foldl st s (rng 0 (n : Int)) = u at i1 i2 i3
    rw [hst, show (k : Int) + (n : Int) = ((k + n : Nat) : Int) by omega, ixs_nat, gt0_getD, gt0_getD]
    refine ⟨by rw [List.length_set, i1], nms_set i2 (Nm.mod hp), fun i => ?_⟩
    rw [ser_at, getD_set]
    have e3 := i3 i
    by_cases hi : i = k + n
    · subst hi
      rw [if_pos ⟨rfl, by omega⟩, zp_mod, zp_add, zp_mul]
      rw [if_neg (by omega), ser_at] at e3
      rw [e3, if_pos (by omega), show k + n - k = n by omega, ser_at other]
      grind
    · rw [if_neg (by omega), ← ser_at, e3]
      congr 2
      by_cases h1 : k ≤ i ∧ i < k + n
      · rw [if_pos h1, if_pos (by omega)]
      · rw [if_neg h1, if_neg (by omega)]
theorem value_2 (hp : 0 < p) {eq : List (List Int)} {numbers found x1 : List Int} {many : Nat} (hf : Nms p found) : ∀ n : Nat, n ≤ many →
    (List.foldl (st__law_value_2 p eq numbers (many : Int) found x1) (repL [(0 : Int)] (many : Int)) (rng 0 (n : Int))).length = many ∧ Nms p (List.foldl (st__law_value_2 p eq numbers (many : Int) found x1) (repL [(0 : Int)] (many : Int)) (rng 0 (n : Int))) ∧
    ∀ i, i < many → ser p (List.foldl (st__law_value_2 p eq numbers (many : Int) found x1) (repL [(0 : Int)] (many : Int)) (rng 0 (n : Int))) i = sumTo (fun j => ser p found j * (if j ≤ i then ser p numbers (i - j) else 0)) n
  | 0, _ => by
    have h0 := rep0_ok (p := p) hp (m := (many : Int)) (by omega)
    have e : rng 0 ((0 : Nat) : Int) = [] := rfl
    rw [e]
    refine ⟨by have := h0.2; show (repL [(0 : Int)] (many : Int)).length = many; omega, h0.1, fun i _ => ?_⟩
    show ser p (repL [(0 : Int)] (many : Int)) i = 0
    rw [repL_one, ser_rep0]; rfl
  | n + 1, h => by
    obtain ⟨i1, i2, i3⟩ := value_2 hp (eq := eq) (numbers := numbers) (x1 := x1) (many := many) hf n (by omega)
    rw [rng_sn, List.foldl_append, List.foldl_cons, List.foldl_nil]
    generalize List.foldl (st__law_value_2 p eq numbers (many : Int) found x1) (repL [(0 : Int)] (many : Int)) (rng 0 (n : Int)) = u at i1 i2 i3
    unfold st__law_value_2
    rw [gt0_getD]
    have nz : found.getD n 0 = 0 → ser p found n = 0 := fun e => by rw [ser_at, e]; rfl
    by_cases hz : found.getD n 0 = 0
    · rw [if_neg (by rw [decide_eq_true hz]; exact Bool.false_ne_true)]
      refine ⟨i1, i2, fun i hi => ?_⟩
      rw [i3 i hi, sumTo, nz hz]; grind
    · rw [if_pos (by rw [decide_eq_false hz]; rfl)]
      rw [show (many : Int) - (n : Int) = ((many - n : Nat) : Int) by omega]
      obtain ⟨j1, j2, j3⟩ := rng_fold (p := p) (k := n) (c := found.getD n 0) (other := numbers) (st := st__law_value_3 p eq numbers (many : Int) found x1 u (n : Int)) hp (fun s x => by unfold st__law_value_3; rw [gt0_getD]) i2 (many - n) (by omega)
      refine ⟨by rw [j1, i1], j2, fun i hi => ?_⟩
      rw [j3 i, i3 i hi, sumTo, ← ser_at]
      congr 2
      by_cases h1 : n ≤ i
      · rw [if_pos ⟨h1, by omega⟩, if_pos h1]
      · rw [if_neg (fun z => h1 z.1), if_neg h1]
theorem value_fold (hp : 0 < p) {eq : List (List Int)} {numbers : List Int} {many : Nat} : ∀ (t : List (List Int)),
    (List.foldl (st__law_value_1 p eq numbers (many : Int)) (repL [(0 : Int)] (many : Int)) t).length = many ∧ Nms p (List.foldl (st__law_value_1 p eq numbers (many : Int)) (repL [(0 : Int)] (many : Int)) t) ∧
    Ser.Eqb many (ser p (List.foldl (st__law_value_1 p eq numbers (many : Int)) (repL [(0 : Int)] (many : Int)) t)) (hv p t.reverse (ser p numbers)) := by
  refine snoc_ind ?_ fun t a ih => ?_
  · have h0 := rep0_ok (p := p) hp (m := (many : Int)) (by omega)
    refine ⟨by have := h0.2; show (repL [(0 : Int)] (many : Int)).length = many; omega, h0.1, fun i _ => ?_⟩
    show ser p (repL [(0 : Int)] (many : Int)) i = 0
    rw [repL_one, ser_rep0]; rfl
  · obtain ⟨i1, i2, i3⟩ := ih
    rw [List.foldl_append, List.foldl_cons, List.foldl_nil, List.reverse_append]
    generalize List.foldl (st__law_value_1 p eq numbers (many : Int)) (repL [(0 : Int)] (many : Int)) t = s at i1 i2 i3
    obtain ⟨j1, j2, j3⟩ := value_2 hp (eq := eq) (numbers := numbers) (x1 := a) (many := many) i2 many (Nat.le_refl _)
    show (List.foldl (st__law_value_4 p eq numbers (many : Int) s a) (List.foldl (st__law_value_2 p eq numbers (many : Int) s a) (repL [(0 : Int)] (many : Int)) (rng 0 (many : Int))) (rng 0 (mn2 (many : Int) (a.length : Int)))).length = many ∧
      Nms p (List.foldl (st__law_value_4 p eq numbers (many : Int) s a) (List.foldl (st__law_value_2 p eq numbers (many : Int) s a) (repL [(0 : Int)] (many : Int)) (rng 0 (many : Int))) (rng 0 (mn2 (many : Int) (a.length : Int)))) ∧
      Ser.Eqb many (ser p (List.foldl (st__law_value_4 p eq numbers (many : Int) s a) (List.foldl (st__law_value_2 p eq numbers (many : Int) s a) (repL [(0 : Int)] (many : Int)) (rng 0 (many : Int))) (rng 0 (mn2 (many : Int) (a.length : Int))))) _
    generalize List.foldl (st__law_value_2 p eq numbers (many : Int) s a) (repL [(0 : Int)] (many : Int)) (rng 0 (many : Int)) = u at j1 j2 j3
    have em : mn2 (many : Int) (a.length : Int) = ((min many a.length : Nat) : Int) := by unfold mn2; split <;> omega
    rw [em]
    obtain ⟨k1, k2, k3⟩ := rng_fold (p := p) (k := 0) (c := 1) (other := a) (st := st__law_value_4 p eq numbers (many : Int) s a) hp (fun s x => by unfold st__law_value_4; rw [show ((0 : Nat) : Int) + x = x by omega, Int.one_mul]) j2 (min many a.length) (by omega)
    refine ⟨by rw [k1, j1], k2, fun i hi => ?_⟩
    rw [k3 i, j3 i hi, zp_one]
    show _ = (ser p a + ser p numbers * hv p t.reverse (ser p numbers)) i
    have e1 : sumTo (fun j => ser p s j * (if j ≤ i then ser p numbers (i - j) else 0)) many = (ser p numbers * hv p t.reverse (ser p numbers)) i := by
      have e2 : (ser p numbers * hv p t.reverse (ser p numbers) : Ser (Zp p)) = hv p t.reverse (ser p numbers) * ser p numbers := by grind
      rw [e2, Ser.mul_at, sumTo_more (m := i + 1) (n := many) (by omega) fun j h1 h2 => by rw [if_neg (by omega)]; grind]
      exact sumTo_congr fun j hj => by rw [if_pos (by omega), i3 j (by omega)]
    rw [e1, Ser.add_at]
    by_cases h : i < a.length
    · rw [if_pos (by omega), Nat.sub_zero]; grind
    · rw [if_neg (by omega), ser_high (xs := a) (by omega)]; grind
theorem value_all (hp : 0 < p) {eq : List (List Int)} {numbers : List Int} {many : Int} (hm : 0 ≤ many) : Nms p (m__law_value p eq numbers many) ∧ (m__law_value p eq numbers many).length = many.toNat ∧ Ser.Eqb many.toNat (ser p (m__law_value p eq numbers many)) (hv p eq (ser p numbers)) := by
  obtain ⟨n, rfl⟩ : ∃ n : Nat, many = (n : Int) := ⟨many.toNat, by omega⟩
  have h := value_fold hp (eq := eq) (numbers := numbers) (many := n) eq.reverse
  rw [List.reverse_reverse] at h
  exact ⟨h.2.1, h.1, h.2.2⟩
/-- the value that is nought -/
theorem value_none (hp : 0 < p) {eq : List (List Int)} {numbers : List Int} {many : Int} (hm : 0 ≤ many) (h : Ser.Eqb many.toNat (hv p eq (ser p numbers)) 0) : ((m__law_value p eq numbers many).any fun x => !decide (x = 0)) = false := by
  obtain ⟨h1, h2, h3⟩ := value_all hp (eq := eq) (numbers := numbers) hm
  rw [List.any_eq_false]
  intro x hx
  obtain ⟨i, hi⟩ := List.getElem?_of_mem hx
  have hl := (List.getElem?_eq_some_iff.mp hi).1
  have e := (h3 i (by omega)).trans (h i (by omega))
  rw [ser_at, List.getD_eq_getElem?_getD, hi] at e
  have : x = 0 := Nm.eq (h1 x hx) ⟨Int.le_refl 0, hp⟩ e
  rw [this]; simp
/-- at 0 and b -/
theorem nought_fold (hp : 0 < p) {eq : List (List Int)} {b : Int} : ∀ (t : List (List Int)), Nm p (List.foldl (st__law_at_nought_1 p eq b) (0, 0) t).1 ∧ Nm p (List.foldl (st__law_at_nought_1 p eq b) (0, 0) t).2 ∧
    zp p (List.foldl (st__law_at_nought_1 p eq b) (0, 0) t).1 = hv p t.reverse (Ser.c (zp p b)) 0 ∧ zp p (List.foldl (st__law_at_nought_1 p eq b) (0, 0) t).2 = dv p t.reverse (Ser.c (zp p b)) 0 := by
  refine snoc_ind ?_ fun t a ih => ?_
  · exact ⟨⟨Int.le_refl 0, hp⟩, ⟨Int.le_refl 0, hp⟩, rfl, rfl⟩
  · obtain ⟨i1, i2, i3, i4⟩ := ih
    rw [List.foldl_append, List.foldl_cons, List.foldl_nil, List.reverse_append]
    generalize List.foldl (st__law_at_nought_1 p eq b) (0, 0) t = s at i1 i2 i3 i4
    refine ⟨Nm.mod hp, Nm.mod hp, ?_, ?_⟩
    · show zp p ((s.1 * b + (cutL a none (some 1)).sum) % p) = (ser p a + Ser.c (zp p b) * hv p t.reverse (Ser.c (zp p b))) 0
      have e : (cutL a none (some 1)).sum = a.getD 0 0 := by
        rw [cut_to (by decide)]
        cases a with
        | nil => rfl
        | cons x r => simp
      rw [zp_mod, zp_add, zp_mul, e, i3, Ser.add_at, Ser.c_mul, ← ser_at]; grind
    · show zp p ((s.2 * b + s.1) % p) = (hv p t.reverse (Ser.c (zp p b)) + Ser.c (zp p b) * dv p t.reverse (Ser.c (zp p b))) 0
      rw [zp_mod, zp_add, zp_mul, i3, i4, Ser.add_at, Ser.c_mul]; grind
theorem nought_slope (hp : 0 < p) {eq : List (List Int)} {b : Int} (hE : Tws p 100 eq ∧ cornerL (m_shifted_by p eq b) = 0) : decide (gt0 (0 : Int) (m__law_at_nought p eq b) 1 = 0) = !okR p eq b := by
  have h := nought_fold hp (eq := eq) (b := b) eq.reverse
  rw [List.reverse_reverse] at h
  have e : gt0 (0 : Int) (m__law_at_nought p eq b) 1 = (List.foldl (st__law_at_nought_1 p eq b) (0, 0) eq.reverse).2 := rfl
  rw [e]
  have n0 : (List.foldl (st__law_at_nought_1 p eq b) (0, 0) eq.reverse).2 = 0 ↔ dv p eq (Ser.c (zp p b)) 0 = 0 := by
    rw [← h.2.2.2]
    exact ⟨fun e => by rw [e]; rfl, fun e => Nm.eq h.2.1 ⟨Int.le_refl 0, hp⟩ e⟩
  have hn : ∀ x ∈ eq, Nms p x := fun x hx => (hE.1.2 x hx).1
  have v0 : hv p eq (Ser.c (zp p b)) 0 = 0 := by
    have : zp p (cornerL (m_shifted_by p eq b)) = hv p eq (Ser.c (zp p b)) 0 := by rw [corner_hv, (shift_hv hp 0 hn).1, show (0 : Ser (Zp p)) + Ser.c (zp p b) = Ser.c (zp p b) by grind]
    rw [← this, hE.2]; rfl
  have ho := okR_iff hp (b := b) hE.1
  by_cases hd : dv p eq (Ser.c (zp p b)) 0 = 0
  · rw [decide_eq_true (n0.mpr hd)]
    cases hk : okR p eq b with
    | false => rfl
    | true => exact absurd hd (ho.mp hk).2
  · rw [decide_eq_false (fun z => hd (n0.mp z)), ho.mpr ⟨v0, hd⟩]; rfl
end
def st__law_equation_1 (l_p : Int) (l_high : Int) (l_wide : Int) (l_b : Int) : Int → (List Int) → Int := fun s1 x1 => ((((s1 * l_b) + (gt0 (0 : Int) x1 (0 : Int))) % l_p))
section
variable {p : Int}
def Row (p : Int) (n : Nat) (y : List Int) : Prop := y.length = n ∧ ∀ x ∈ y, 0 ≤ x ∧ x < p
theorem row_mk {n : Nat} {y : List Int} (h : y.length = n) (h2 : ∀ x ∈ y, 0 ≤ x ∧ x < p) : Row p n y := ⟨h, h2⟩
/-- an equation that is nought at 0 and b -/
def EqOk (p : Int) (eq : List (List Int)) (b : Int) : Prop := Tws p 100 eq ∧ cornerL (m_shifted_by p eq b) = 0
theorem pop_lt {α : Type} [DecidableEq α] {d z : α} {s : List α} (h : ¬ s = [] ∧ gt0 d s (-1) = z) : s.dropLast.length < s.length := by
  have := List.length_pos_iff.mpr h.1
  rw [List.length_dropLast]; omega
theorem pop_step {α : Type} [DecidableEq α] {d z : α} {s t : List α} (h : ¬ s = [] ∧ gt0 d s (-1) = z) (e : trimG z s = trimG z t) : trimG z s.dropLast = trimG z t := by
  rw [← e]
  obtain ⟨hn, h⟩ := h
  have hl := List.length_pos_iff.mpr hn
  have h2 : s.getLast hn = z := by
    refine Eq.trans ?_ h
    have e : gt0 d s (-1) = (s[s.length - 1]?).getD d := by
      unfold gt0 ixs
      rw [if_neg (by omega), show (-1 + (s.length : Int)).toNat = s.length - 1 by omega]
    rw [e, ← List.getLast?_eq_getElem?, List.getLast?_eq_some_getLast hn]
    rfl
  have h3 : s = s.dropLast ++ [z] := by rw [← h2]; exact (List.dropLast_concat_getLast hn).symm
  conv => rhs; rw [h3]
  rw [trim_snoc, if_pos rfl]
theorem nel {α : Type} [DecidableEq α] {s : List α} (h : (!decide (s = [])) = true) : 0 < s.length := by
  rw [Bool.not_eq_true', decide_eq_false_iff_not] at h
  exact List.length_pos_iff.mpr h
end
section
variable {p : Int}
theorem hv_map_trim (f : Ser (Zp p)) : ∀ t : List (List Int), hv p (t.map trimL) f = hv p t f
  | [] => rfl
  | a :: t => by
    rw [List.map_cons]
    simp only [hv, hv_map_trim f t, trim_ser]
structure RowsOk (p : Int) (w : Nat) (z : List (List Int)) : Prop where
  row : ∀ y ∈ z, Row p w y
  len : 0 < z.length ∧ z.length ≤ 20
  wid : 0 < w ∧ w ≤ 20
theorem RowsOk.row0 {w : Nat} {z : List (List Int)} (h : RowsOk p w z) : Row p w (gt0 [] z 0) := h.row _ (gt0_mem (by omega) (by have := h.len; omega))
theorem RowsOk.set0 {w : Nat} {z : List (List Int)} {v : Int} (h : RowsOk p w z) (hv : 0 ≤ v ∧ v < p) : RowsOk p w (z.set (ixs z.length 0) ((gt0 [] z 0).set (ixs (gt0 [] z 0).length 0) v)) :=
  ⟨set_all h.row ⟨by rw [List.length_set]; exact h.row0.1, nms_set h.row0.2 hv⟩, by rw [List.length_set]; exact h.len, h.wid⟩
theorem RowsOk.at0 {w : Nat} {z : List (List Int)} {v : Int} (h : RowsOk p w z) : gt0 (0 : Int) (gt0 [] (z.set (ixs z.length 0) ((gt0 [] z 0).set (ixs (gt0 [] z 0).length 0) v)) 0) 0 = v := by
  have h1 := h.len
  have h2 := h.row0.1
  have h3 := h.wid
  have e1 : ∀ (z : List (List Int)) (y : List Int), 0 < z.length → gt0 [] (z.set (ixs z.length 0) y) 0 = y := by
    intro z y hz
    have := gt0_nat [] (z.set (ixs z.length 0) y) 0
    refine this.trans ?_
    rw [show ixs z.length 0 = 0 from rfl, List.getElem?_set_self hz]; rfl
  have e2 : ∀ (z : List Int) (y : Int), 0 < z.length → gt0 0 (z.set (ixs z.length 0) y) 0 = y := by
    intro z y hz
    have := gt0_nat 0 (z.set (ixs z.length 0) y) 0
    refine this.trans ?_
    rw [show ixs z.length 0 = 0 from rfl, List.getElem?_set_self hz]; rfl
  rw [e1 _ _ h1.1, e2 _ _ (by omega)]
theorem hv_cons0 (a : List Int) (t : List (List Int)) (b : Int) : hv p (a :: t) (Ser.c (zp p b)) 0 = zp p (gt0 (0 : Int) a 0) + zp p b * hv p t (Ser.c (zp p b)) 0 := by
  show (ser p a + Ser.c (zp p b) * hv p t (Ser.c (zp p b))) 0 = _
  rw [Ser.add_at, Ser.c_mul, ser_at]
  have := gt0_getD a 0
  rw [show gt0 (0 : Int) a 0 = a.getD 0 0 from this]
theorem eqv_fold {hi w : Int} {b : Int} : ∀ (t : List (List Int)), zp p (List.foldl (st__law_equation_1 p hi w b) 0 t) = hv p t.reverse (Ser.c (zp p b)) 0 := by
  refine snoc_ind ?_ fun t a ih => ?_
  · rfl
  · rw [List.foldl_append, List.foldl_cons, List.foldl_nil, List.reverse_append]
    show zp p ((List.foldl (st__law_equation_1 p hi w b) 0 t * b + gt0 (0 : Int) a 0) % p) = hv p (a :: t.reverse) (Ser.c (zp p b)) 0
    rw [zp_mod, zp_add, zp_mul, ih, hv_cons0]; grind
theorem eq_fix (hp : 2 ≤ p ∧ p ≤ 5) {hi wi : Int} {w : Nat} {z : List (List Int)} {b : Int} (h : RowsOk p w z) (h0 : gt0 (0 : Int) (gt0 [] z 0) 0 = 0) :
    EqOk p (trim2 ((z.set (ixs z.length 0) ((gt0 [] z 0).set (ixs (gt0 [] z 0).length 0) (-List.foldl (st__law_equation_1 p hi wi b) 0 z.reverse % p))).map trimL)) b := by
  have hv0 : Nm p (-List.foldl (st__law_equation_1 p hi wi b) 0 z.reverse % p) := Nm.mod (by omega)
  have hz : zp p (-List.foldl (st__law_equation_1 p hi wi b) 0 z.reverse % p) = -hv p z (Ser.c (zp p b)) 0 := by rw [zp_mod, zp_neg, eqv_fold, List.reverse_reverse]
  generalize -List.foldl (st__law_equation_1 p hi wi b) 0 z.reverse % p = v at hv0 hz
  have h2 := h.set0 hv0
  have hE : hv p (z.set (ixs z.length 0) ((gt0 [] z 0).set (ixs (gt0 [] z 0).length 0) v)) (Ser.c (zp p b)) 0 = 0 := by
    have hl := h.len
    have hr := h.row0.1
    have hw := h.wid
    cases z with
    | nil => simp at hl
    | cons a t =>
      have e : gt0 [] (a :: t) 0 = a := rfl
      rw [e] at h0 hr ⊢
      rw [show ixs (a :: t).length 0 = 0 from rfl, show ixs a.length 0 = 0 from rfl, List.set_cons_zero, hv_cons0]
      rw [hv_cons0, h0] at hz
      have e3 : gt0 (0 : Int) (a.set 0 v) 0 = v := by
        have := gt0_nat 0 (a.set 0 v) 0
        refine this.trans ?_
        rw [List.getElem?_set_self (by omega)]; rfl
      rw [e3, hz, zp_zero]
      grind
  generalize z.set (ixs z.length 0) ((gt0 [] z 0).set (ixs (gt0 [] z 0).length 0) v) = u at h2 hE
  have hT : Tws p 100 (trim2 (u.map trimL)) := by
    refine trim2_tws ⟨by rw [List.length_map]; have := h2.len; omega, fun x hx => ?_⟩
    obtain ⟨y, hy, rfl⟩ := List.mem_map.mp hx
    have := h2.row y hy
    exact ⟨fun a ha => this.2 a (trim_mem ha), Nat.le_trans (trim_len _) (by have := this.1; have := h2.wid; omega)⟩
  refine ⟨hT, ?_⟩
  have hn : ∀ x ∈ trim2 (u.map trimL), Nms p x := fun x hx => (hT.2 x hx).1
  have c1 := corner_nm (by omega) (shifted_tws (c := b) (by omega) hT)
  have z1 : zp p (cornerL (m_shifted_by p (trim2 (u.map trimL)) b)) = 0 := by
    rw [corner_hv, (shift_hv (by omega) 0 hn).1, show (0 : Ser (Zp p)) + Ser.c (zp p b) = Ser.c (zp p b) by grind, hv_trim, hv_map_trim, hE]
  exact Nm.eq c1 ⟨Int.le_refl 0, by omega⟩ z1
theorem pop_end {α : Type} [DecidableEq α] {d z : α} {s : List α} (h : s = [] ∨ ¬ gt0 d s (-1) = z) : trimG z s = s := by
  rcases h with h | h
  · rw [h]; rfl
  · by_cases hs : s = []
    · rw [hs]; rfl
    · have h2 : s.getLast hs ≠ z := by
        intro e
        refine h (Eq.trans ?_ e)
        have e : gt0 d s (-1) = (s[s.length - 1]?).getD d := by
          unfold gt0 ixs
          have := List.length_pos_iff.mpr hs
          rw [if_neg (by omega), show (-1 + (s.length : Int)).toNat = s.length - 1 by omega]
        rw [e, ← List.getLast?_eq_getElem?, List.getLast?_eq_some_getLast hs]
        rfl
      have h3 := List.dropLast_concat_getLast hs
      rw [← h3, trim_snoc, if_neg h2]
theorem rows_mk {n w : Int} {z : List (List Int)} (hl : z.length = n.toNat) (hz : ∀ y ∈ z, Row p w.toNat y) (hn : 0 < n ∧ n ≤ 20) (hw : 0 < w ∧ w ≤ 20) : RowsOk p w.toNat z := ⟨hz, by omega, by omega⟩
end
section
variable {P : Program} {w : World} {K : PySem.W.Frag} {mg : Str → Option Value} {base : Heap}
def sp__law_equation (K : PySem.W.Frag) : Sp := fun vs H Q _ => ∃ (l_p : Int) (l_high : Int) (l_wide : Int) (l_b : Int) (b : Addr), (vs = [.ref b, .int l_p, .int l_high, .int l_wide, .int l_b]) ∧ (Bag H b) ∧ (Pr l_p) ∧ (0 < l_high ∧ l_high ≤ 10) ∧ (0 < l_wide ∧ l_wide ≤ 10) ∧ (0 ≤ l_b ∧ l_b < l_p) ∧ (∀ (r : (List (List Int))) (v : V) H', C1 b H H' → Bag H' b → (rT K (rT K rI)) H' r v → (EqOk l_p r l_b) → Q v H')
theorem ok__law_equation {f : Addr} {fd : FuncData} (F : Fun K "_law_equation" "_law_equation" s__law_equation f fd) (n_tuple : mg "tuple" = none) (D__law_trimmed : Df P w K mg base CX0 1 "_law_trimmed" ["_law_numbers"] (sp__law_trimmed K)) (D__law_draw : Df P w K mg base CX0 1 "_law_draw" ["_law_bag_here", "_law_many"] (sp__law_draw K)) (n_range : mg "range" = none) : FnOk P w K mg base CX0 2 f fd ["_law_bag_here", "_law_p", "_law_high", "_law_wide", "_law_b"] (sp__law_equation K) := by
  refine F.ok sc__law_equation (fun vs H Q E h => ?_) (fun cdv A outer s H vs Q E hr h => ?_)
  · obtain ⟨l_p, l_high, l_wide, l_b, b, rfl, _⟩ := h; rfl
  · obtain ⟨l_p, l_high, l_wide, l_b, b, rfl, B0, hpre0, hpre1, hpre2, hpre3, q⟩ := h
    refine ⟨_, (pss_cons (ps_setLc (i := 5) (own := [("_law_j", 9)]) (by rfl) sc__law_equation.nd rfl rfl (sw_true rfl rfl rfl (by decide +kernel)) (pi_range1 (by rfl) n_range (pa_cons (pe_op op_add pe_int (pe_call D__law_draw.ok (hr.mono (by omega)) (by rfl) D__law_draw.g D__law_draw.kp D__law_draw.b .nil pass0 (pa_cons (pv 0) (pa_cons (pv 2) pa_nil)))) pa_nil)) (blkOk_by (own := [("_law_j", 9)]) (N := ["_law_bag_here", "_law_p", "_law_high", "_law_wide", "_law_b", "_law_polys", "_law_value_here", "_law_poly_here", "_law_found", "_law_j", "_law_i"]) (sc := defScope s__law_equation) (by decide +kernel)) (fun _ _ _ _ _ => (pg_name (i := 9) sc__law_equation.nd rfl (Or.inl rfl))) (fun _ _ _ _ _ => pts_nil) (fun _ _ _ _ _ => (pe_lc (own := [("_law_i", 10)]) (by rfl) sc__law_equation.nd (pi_range1 (by rfl) n_range (pa_cons (pv 3) pa_nil)) (blkOk_by (own := [("_law_i", 10)]) (N := ["_law_bag_here", "_law_p", "_law_high", "_law_wide", "_law_b", "_law_polys", "_law_value_here", "_law_poly_here", "_law_found", "_law_j", "_law_i"]) (by kernel_rfl)) (fun _ _ _ _ _ => (pg_name (i := 10) sc__law_equation.nd rfl (Or.inl rfl))) (fun _ _ _ _ _ => pts_nil) (fun _ _ _ _ _ => (pe_call D__law_draw.ok (hr.mono (by omega)) (by rfl) D__law_draw.g D__law_draw.kp D__law_draw.b .nil pass0 (pa_cons (pv 0) (pa_cons (pv 1) pa_nil)))))))
 (pss_cons (ps_asg pe_int (pg_sub (pe_ix (ix_listK K) (pv 5) pe_int (fun _ _ => rfl)) pe_int set_list))
 (pss_cons (ps_set (i := 6) sc__law_equation.nd rfl (Or.inl rfl) pe_int)
 (pss_cons (ps_for PassesOwn.never rfl (pi_listK K (pe_revLK K (pv 5))) (pg_name (i := 7) sc__law_equation.nd rfl (Or.inl rfl))
 (pss_one (ps_set (i := 6) sc__law_equation.nd rfl (Or.inl rfl) (pe_op op_mod (pe_op op_add (pe_op op_mul (pv 6) (pv 4)) (pe_ix (ix_listK K) (pv 7) pe_int (fun _ _ => rfl))) (pv 1)))))
 (pss_cons (ps_asg (pe_op op_mod (pe_un un_neg (pv 6)) (pv 1)) (pg_sub (pe_ix (ix_listK K) (pv 5) pe_int (fun _ _ => rfl)) pe_int set_list))
 (pss_cons (ps_setLc (i := 8) (own := [("_law_poly_here", 7)]) (by rfl) sc__law_equation.nd rfl rfl (sw_true rfl rfl rfl (by decide +kernel)) (pi_listK K (pv 5)) (blkOk_by (own := [("_law_poly_here", 7)]) (N := ["_law_bag_here", "_law_p", "_law_high", "_law_wide", "_law_b", "_law_polys", "_law_value_here", "_law_poly_here", "_law_found", "_law_j", "_law_i"]) (sc := defScope s__law_equation) (by decide +kernel)) (fun _ _ _ _ _ => (pg_name (i := 7) sc__law_equation.nd rfl (Or.inl rfl))) (fun _ _ _ _ _ => pts_nil) (fun _ _ _ _ _ => (pe_call D__law_trimmed.ok (hr.mono (by omega)) (by rfl) D__law_trimmed.g D__law_trimmed.kp D__law_trimmed.b .nil pass0 (pa_cons (pv 7) pa_nil))))
 (pss_cons (ps_while PassesOwn.never (PW.pt (pw_and (pt_cmpR (op_neDK K hr.units) (pv 8) (pe_lst pa_nil) (nomark _)) (pw_and1 (pt_cmpR (op_eqDK K hr.units) (pe_ix (ix_listK K) (pv 8) (pe_un un_neg pe_int) (fun _ _ => rfl)) (pe_tup pa_nil) (nomark _))))) (pss_one (ps_expr (pe_bm0 PySem.F.plainAttrs_list PySem.F.slot_list_pop PySem.F.type_list_pop mt_pop (pv 8)))))
 (pss_one (ps_ret (pe_callTy (call_tuple_ofK K) (by rfl) n_tuple (by decide +kernel) (pa_cons (pv 8) pa_nil))))))))))), ?_⟩
    have F0 : C1 b H H := C1.refl b H
    have hp := hpre0.le
    refine q_asg0 ?_
    refine lc_open ?_
    refine go_opK ?_
    refine go_I er_int fun H19 e20 => ?_
    replace B0 := Bag.ex B0 e20
    replace F0 := F0.trans (C1.ex e20)
    refine go_callA ?_
    refine go_cons ?_
    refine ⟨_, rfl, ?_⟩
    refine go_cons ?_
    refine ⟨_, rfl, ?_⟩
    refine go_nil ?_
    refine ⟨b, _, rfl, B0, (by first | assumption | omega | (simp only [Bool.and_eq_true, Bool.or_eq_true, Bool.not_eq_true', Bool.and_eq_false_iff, Bool.or_eq_false_iff, Bool.not_eq_false', decide_eq_true_eq, decide_eq_false_iff_not, List.length_append, List.length_cons, List.length_nil, List.length_map, List.length_range, List.length_set, rng_len, enm_len, repL_len] at *; omega)), (by first | assumption | omega | (simp only [Bool.and_eq_true, Bool.or_eq_true, Bool.not_eq_true', Bool.and_eq_false_iff, Bool.or_eq_false_iff, Bool.not_eq_false', decide_eq_true_eq, decide_eq_false_iff_not, List.length_append, List.length_cons, List.length_nil, List.length_map, List.length_range, List.length_set, rng_len, enm_len, repL_len] at *; omega)), fun y25 H24 c26 B27 hqy25_0 => ?_⟩
    have kt28 : Kt K _ _ := Bag.kt B0 c26
    replace F0 := F0.trans c26
    replace B0 := B27
    refine go_I (er_op0 er_iK er_iK) fun H30 e31 => ?_
    replace B0 := Bag.ex B0 e31
    replace F0 := F0.trans (C1.ex e31)
    refine ⟨_, rfl, by omega, by omega, lcR1M (K := K) (R := rI) (hi := ((1 : Int) + y25)) ((fun y => Row l_p l_wide.toNat y)) B0 (by omega) (fun _ => rfl) (fun x1 H4 C5 c6 B7 hx8 k9 => ?_) fun p10 as2 H11 ys15 n12 na3 c13 B14 hl16 hy17 l18 => ?_⟩
    ·
      have kt32 : Kt K _ _ := Bag.kt B0 c6
      replace F0 := F0.trans c6
      replace B0 := B7
      have G0 : C1 b _ _ := C1.refl b H4
      refine go_lcR1B (K := K) (R := rI) ((fun y => 0 ≤ y ∧ y < l_p)) B0 er_iv ⟨by omega, by omega⟩ (fun _ => rfl) (fun x33 H36 C37 c38 B39 hx40 k41 => ?_) fun p42 H43 ys47 n44 c45 B46 hl48 hy49 l50 => ?_
      ·
        have kt51 : Kt K _ _ := Bag.kt B0 c38
        replace F0 := F0.trans c38
        replace B0 := B39
        replace G0 := G0.trans c38
        have G0 : C1 b _ _ := C1.refl b H36
        refine go_callA ?_
        refine go_cons ?_
        refine ⟨_, rfl, ?_⟩
        refine go_cons ?_
        refine ⟨_, rfl, ?_⟩
        refine go_nil ?_
        refine ⟨b, _, rfl, B0, (by first | assumption | omega | (simp only [Bool.and_eq_true, Bool.or_eq_true, Bool.not_eq_true', Bool.and_eq_false_iff, Bool.or_eq_false_iff, Bool.not_eq_false', decide_eq_true_eq, decide_eq_false_iff_not, List.length_append, List.length_cons, List.length_nil, List.length_map, List.length_range, List.length_set, rng_len, enm_len, repL_len] at *; omega)), (by first | assumption | omega | (simp only [Bool.and_eq_true, Bool.or_eq_true, Bool.not_eq_true', Bool.and_eq_false_iff, Bool.or_eq_false_iff, Bool.not_eq_false', decide_eq_true_eq, decide_eq_false_iff_not, List.length_append, List.length_cons, List.length_nil, List.length_map, List.length_range, List.length_set, rng_len, enm_len, repL_len] at *; omega)), fun y55 H54 c56 B57 hqy55_0 => ?_⟩
        have kt58 : Kt K _ _ := Bag.kt B0 c56
        replace F0 := F0.trans c56
        replace B0 := B57
        replace G0 := G0.trans c56
        exact k41 _ _ y55 G0 B0 rfl (by first | assumption | omega | (simp only [Bool.and_eq_true, Bool.or_eq_true, Bool.not_eq_true', Bool.and_eq_false_iff, Bool.or_eq_false_iff, Bool.not_eq_false', decide_eq_true_eq, decide_eq_false_iff_not, List.length_append, List.length_cons, List.length_nil, List.length_map, List.length_range, List.length_set, rng_len, enm_len, repL_len] at *; omega))
      have nebp42 : b ≠ p42 := B0.ne n44
      have n0p42 : _ = none := fb F0 B0 n44
      have kt59 : Kt K _ _ := Bag.kt B0 c45
      replace F0 := F0.trans c45
      replace B0 := B46
      replace G0 := G0.trans c45
      exact k9 _ _ _ n44 G0 B0 l50 (row_mk (by assumption) (by assumption))
    have nebp10 : b ≠ p10 := B0.ne n12
    have n0p10 : _ = none := fb F0 B0 n12
    have nip10b : b ∉ as2 := B0.nin na3
    have nap10 := all_fb F0 B0 na3
    have kt60 : Kt K _ _ := Bag.kt B0 c13
    replace F0 := F0.trans c13
    replace B0 := B14
    have hR : RowsOk l_p l_wide.toNat ys15 := rows_mk (by assumption) (by assumption) (by omega) (by omega)
    have hRl := hR.len
    have hR0 := hR.row0.1
    refine q_set2 (K := K) (j := 5) l18 rfl er_int er_int er_int (by first | omega | assumption | (simp; omega) | (simp only [Bool.and_eq_true, Bool.or_eq_true, Bool.not_eq_true', Bool.and_eq_false_iff, Bool.or_eq_false_iff, Bool.not_eq_false', decide_eq_true_eq, decide_eq_false_iff_not, List.length_append, List.length_cons, List.length_nil, List.length_map, List.length_range, List.length_set, rng_len, enm_len, repL_len] at *; omega)) (by first | omega | assumption | (simp; omega) | (simp only [Bool.and_eq_true, Bool.or_eq_true, Bool.not_eq_true', Bool.and_eq_false_iff, Bool.or_eq_false_iff, Bool.not_eq_false', decide_eq_true_eq, decide_eq_false_iff_not, List.length_append, List.length_cons, List.length_nil, List.length_map, List.length_range, List.length_set, rng_len, enm_len, repL_len] at *; omega)) (by first | omega | assumption | (simp; omega) | (simp only [Bool.and_eq_true, Bool.or_eq_true, Bool.not_eq_true', Bool.and_eq_false_iff, Bool.or_eq_false_iff, Bool.not_eq_false', decide_eq_true_eq, decide_eq_false_iff_not, List.length_append, List.length_cons, List.length_nil, List.length_map, List.length_range, List.length_set, rng_len, enm_len, repL_len] at *; omega)) (by first | omega | assumption | (simp; omega) | (simp only [Bool.and_eq_true, Bool.or_eq_true, Bool.not_eq_true', Bool.and_eq_false_iff, Bool.or_eq_false_iff, Bool.not_eq_false', decide_eq_true_eq, decide_eq_false_iff_not, List.length_append, List.length_cons, List.length_nil, List.length_map, List.length_range, List.length_set, rng_len, enm_len, repL_len] at *; omega)) fun a61 H62 ha63 c64 kt65 l66 => ?_
    have nqba61 : b ≠ a61 := ne_in (by assumption) ha63
    replace B0 := Bag.keep B0 c64 nqba61
    replace F0 := C1.ofNew2 F0 (nap10 a61 ha63) c64
    have h00 := hR.at0 (v := 0)
    have hS := hR.set0 (v := 0) (by omega)
    generalize ((ys15.set (ixs ys15.length (0 : Int)) ((gt0 [] ys15 (0 : Int)).set (ixs (gt0 [] ys15 (0 : Int)).length (0 : Int)) (0 : Int)))) = z1 at *
    have hSl := hS.len
    have hS0 := hS.row0.1
    refine q_asgI er_int fun H67 e68 => ?_
    replace B0 := Bag.ex B0 e68
    replace l66 := MtA.ex l66 e68
    replace F0 := F0.trans (C1.ex e68)
    refine q_forLn (el_revL (er_var rfl (Lt.rl (MtA.lt (K := K) l66)))) fun p71 H69 n73 e70 l72 => ?_
    have nebp71 : b ≠ p71 := B0.ne n73
    have nep10p71 : p10 ≠ p71 := l66.ne n73
    have nip10p71 : p71 ∉ as2 := l66.nin n73
    have n0p71 : _ = none := fb F0 B0 n73
    replace B0 := Bag.ex B0 e70
    replace l66 := MtA.ex l66 e70
    replace F0 := F0.trans (C1.ex e70)
    have k74 : Kt K _ _ := Kt.refl H69
    refine fq_L (v := .ref p71) (Lt.rl l72) (fun i σ' H' => ∃ (s1 : Int) (j75 : Option V), s1 = List.foldl (st__law_equation_1 l_p l_high l_wide l_b) ((0 : Int)) (List.take i z1.reverse) ∧ σ' = [some (.ref b), some (.int l_p), some (.int l_high), some (.int l_wide), some (.int l_b), some (.ref p10), some (.int s1), j75, none, none, none] ∧ C1 b H H' ∧ Kt K H69 H' ∧ MtA rI H' p10 as2 z1 ∧ Lt (rL K rI) H' p71 z1.reverse ∧ Bag H' b) ?_ ?_ ?_ ?_ _ rfl
    · exact ⟨((0 : Int)), _, rfl, rfl, F0, k74, l66, l72, B0⟩
    · intro i σ' H' hi h; obtain ⟨s1, j75, hs1, rfl, F0, k74, l66, l72, B0⟩ := h; exact Lt.rl l72
    ·
      rintro i x1 v77 _ H76 hi hx1 ⟨s1, j75, hs1, rfl, F0, k74, l66, l72, B0⟩ r78
      refine s_asgI (er_op (er_op0 (er_op er_iv er_iv (cmul_r (by omega))) (er_ixL0 (0 : Int) (er_var rfl r78) er_int (by omega) (by have := (hS.row x1 (List.mem_reverse.mp (List.mem_of_getElem? hx1))).1; have := hS.wid; omega))) er_iv (by omega)) fun H79 e80 => ?_
      replace B0 := Bag.ex B0 e80
      replace l66 := MtA.ex l66 e80
      replace r78 := Me.ex e80 r78
      replace l72 := Lt.ex l72 e80
      replace F0 := F0.trans (C1.ex e80)
      replace k74 := k74.trans (Kt.ex e80)
      exact ⟨st__law_equation_1 l_p l_high l_wide l_b s1 x1, _, fold_snoc hs1 hx1, rfl, F0, k74, l66, l72, B0⟩
    rintro _ H81 ⟨s1, j75, hs1, rfl, F0, k74, l66, l72, B0⟩
    rw [take_all] at hs1; subst hs1
    refine q_set2 (K := K) (j := 5) l66 rfl (er_op (er_neg er_iv) er_iv (by omega)) er_int er_int (by first | omega | assumption | (simp; omega) | (simp only [Bool.and_eq_true, Bool.or_eq_true, Bool.not_eq_true', Bool.and_eq_false_iff, Bool.or_eq_false_iff, Bool.not_eq_false', decide_eq_true_eq, decide_eq_false_iff_not, List.length_append, List.length_cons, List.length_nil, List.length_map, List.length_range, List.length_set, rng_len, enm_len, repL_len] at *; omega)) (by first | omega | assumption | (simp; omega) | (simp only [Bool.and_eq_true, Bool.or_eq_true, Bool.not_eq_true', Bool.and_eq_false_iff, Bool.or_eq_false_iff, Bool.not_eq_false', decide_eq_true_eq, decide_eq_false_iff_not, List.length_append, List.length_cons, List.length_nil, List.length_map, List.length_range, List.length_set, rng_len, enm_len, repL_len] at *; omega)) (by first | omega | assumption | (simp; omega) | (simp only [Bool.and_eq_true, Bool.or_eq_true, Bool.not_eq_true', Bool.and_eq_false_iff, Bool.or_eq_false_iff, Bool.not_eq_false', decide_eq_true_eq, decide_eq_false_iff_not, List.length_append, List.length_cons, List.length_nil, List.length_map, List.length_range, List.length_set, rng_len, enm_len, repL_len] at *; omega)) (by first | omega | assumption | (simp; omega) | (simp only [Bool.and_eq_true, Bool.or_eq_true, Bool.not_eq_true', Bool.and_eq_false_iff, Bool.or_eq_false_iff, Bool.not_eq_false', decide_eq_true_eq, decide_eq_false_iff_not, List.length_append, List.length_cons, List.length_nil, List.length_map, List.length_range, List.length_set, rng_len, enm_len, repL_len] at *; omega)) fun a82 H83 ha84 c85 kt86 l87 => ?_
    have nqba82 : b ≠ a82 := ne_in (by assumption) ha84
    replace B0 := Bag.keep B0 c85 nqba82
    replace F0 := C1.ofNew2 F0 (nap10 a82 ha84) c85
    have hE := eq_fix (hi := l_high) (wi := l_wide) (b := l_b) hp hS h00
    have hU := hS.set0 (v := -List.foldl (st__law_equation_1 l_p l_high l_wide l_b) 0 z1.reverse % l_p) (Nm.mod (by omega))
    generalize ((z1.set (ixs z1.length (0 : Int)) ((gt0 [] z1 (0 : Int)).set (ixs (gt0 [] z1 (0 : Int)).length (0 : Int)) ((-(List.foldl (st__law_equation_1 l_p l_high l_wide l_b) ((0 : Int)) z1.reverse)) % l_p)))) = z2 at *
    have hUl := hU.len
    refine q_asgL (el_lcL (K := K) (er_var rfl (Lt.rl (MtA.lt (K := K) l87))) (by first | omega | assumption | (simp only [Bool.and_eq_true, Bool.or_eq_true, Bool.not_eq_true', Bool.and_eq_false_iff, Bool.or_eq_false_iff, Bool.not_eq_false', decide_eq_true_eq, decide_eq_false_iff_not, List.length_append, List.length_cons, List.length_nil, List.length_map, List.length_range, List.length_set, rng_len, enm_len, repL_len] at *; omega)) (fun _ => rfl) (fun x90 v93 H1 e91 hx92 r94 => (er_call (eac (er_var rfl r94) ea0) (gv__law_trimmed_r )))) fun p96 H88 n97 e89 l98 => ?_
    have nebp96 : b ≠ p96 := B0.ne n97
    have nep10p96 : p10 ≠ p96 := l87.ne n97
    have nip10p96 : p96 ∉ as2 := l87.nin n97
    have n0p96 : _ = none := fb F0 B0 n97
    replace B0 := Bag.ex B0 e89
    replace l87 := MtA.ex l87 e89
    replace F0 := F0.trans (C1.ex e89)
    have k99 : Kt K _ _ := Kt.refl H88
    refine q_while (fun m σ' H' => ∃ (k2_ : Nat) (s2 : (List (List Int))), m = s2.length ∧ (trim2 s2 = trim2 ((z2.map fun x90 => ((trimL x90))))) ∧ σ' = [some (.ref b), some (.int l_p), some (.int l_high), some (.int l_wide), some (.int l_b), some (.ref p10), some (.int ((List.foldl (st__law_equation_1 l_p l_high l_wide l_b) ((0 : Int)) z1.reverse))), j75, some (.ref p96), none, none] ∧ C1 b H H' ∧ Kt K H88 H' ∧ MtA rI H' p10 as2 z2 ∧ Lt (rT K rI) H' p96 s2 ∧ Bag H' b) _ ⟨0, ((z2.map fun x90 => ((trimL x90)))), rfl, rfl, rfl, F0, k99, l87, l98, B0⟩ ?_
    rintro _ _ H100 ⟨k2_, s2, rfl, hw2_0, rfl, F0, k99, l87, l98, B0⟩
    refine ⟨_, (et_and (et_t (er_neD (K := K) (er_var rfl (Lt.rl l98)) (El.er (K := K) (el_lst (R := (rT K rI)) (xs := []) eas0 (by decide))))) fun hc101 => (et_t (er_eqD (K := K) (er_ixL0 [] (er_var rfl (Lt.rl l98)) (er_neg er_int) (by have := nel (by assumption); omega) (by omega)) (er_tup (R := rI) eas0 (by decide))))), fun hb_1 H103 e102 => ?_, fun hb_1 H103 e102 => ?_⟩
    ·
      have hb_1' := hb_1
      try simp only [Bool.and_eq_true, Bool.or_eq_true, Bool.not_eq_true', Bool.and_eq_false_iff, Bool.or_eq_false_iff, Bool.not_eq_false', decide_eq_true_eq, decide_eq_false_iff_not] at hb_1'
      replace B0 := Bag.ex B0 e102
      replace l87 := MtA.ex l87 e102
      replace l98 := Lt.ex l98 e102
      replace F0 := F0.trans (C1.ex e102)
      replace k99 := k99.trans (Kt.ex e102)
      refine ⟨fun σ2 H2 => ∃ m', m' < s2.length ∧ (fun m σ' H' => ∃ (k2_ : Nat) (s2 : (List (List Int))), m = s2.length ∧ (trim2 s2 = trim2 ((z2.map fun x90 => ((trimL x90))))) ∧ σ' = [some (.ref b), some (.int l_p), some (.int l_high), some (.int l_wide), some (.int l_b), some (.ref p10), some (.int ((List.foldl (st__law_equation_1 l_p l_high l_wide l_b) ((0 : Int)) z1.reverse))), j75, some (.ref p96), none, none] ∧ C1 b H H' ∧ Kt K H88 H' ∧ MtA rI H' p10 as2 z2 ∧ Lt (rT K rI) H' p96 s2 ∧ Bag H' b) m' σ2 H2, fun _ _ h => h, ?_⟩
      refine s_pop (K := K) (j := 8) l98 rfl hb_1'.1 fun H104 c105 l106 => ?_
      have kt107 : Kt K _ _ := Lt.kt l98 c105
      replace k99 := k99.trans kt107
      replace B0 := Bag.keep B0 c105 (by first | assumption | exact Ne.symm (by assumption))
      replace l87 := MtA.keep l87 kt107 c105 (by first | assumption | exact Ne.symm (by assumption)) (by assumption)
      replace F0 := C1.ofNew2 F0 n0p96 c105
      exact ⟨((s2.dropLast)).length, (pop_lt hb_1'), ⟨k2_ + 1, (s2.dropLast), rfl, (pop_step hb_1' hw2_0), rfl, F0, k99, l87, l106, B0⟩⟩
    have hb_1' := hb_1
    try simp only [Bool.and_eq_true, Bool.or_eq_true, Bool.not_eq_true', Bool.and_eq_false_iff, Bool.or_eq_false_iff, Bool.not_eq_false', decide_eq_true_eq, decide_eq_false_iff_not] at hb_1'
    replace B0 := Bag.ex B0 e102
    replace l87 := MtA.ex l87 e102
    replace l98 := Lt.ex l98 e102
    replace F0 := F0.trans (C1.ex e102)
    replace k99 := k99.trans (Kt.ex e102)
    refine s_ret0 ?_
    refine go_R (R := (rT K (rT K rI))) (er_tupL (er_var rfl (Lt.rl l98))) fun v110 H108 e109 f111 => ?_
    replace B0 := Bag.ex B0 e109
    replace l87 := MtA.ex l87 e109
    replace l98 := Lt.ex l98 e109
    replace F0 := F0.trans (C1.ex e109)
    exact q _ v110 _ F0 B0 f111 (by rw [← pop_end hb_1', show trimG ([] : List Int) s2 = _ from hw2_0]; exact hE)

end
section
variable {K : PySem.W.Frag}
theorem gv__law_told_A {p b' many : Int} {eq : List (List Int)} (h0 : Pr p) (h1 : Tws p 100 eq) (h2 : 0 ≤ many ∧ many ≤ 100) (h3 : okR p eq b' = true) : Gnl (sp__law_told K) (Ac rI p (Ac (rT K (rT K rI)) eq (Ac rI b' (Ac rI many A0)))) rI (rootE p eq b' many.toNat) := by
  intro vs H1 hp Q E k
  obtain ⟨v0, w0, rfl, f0, hp⟩ := hp
  cases f0
  obtain ⟨v1, w1, rfl, f1, hp⟩ := hp
  obtain ⟨v2, w2, rfl, f2, hp⟩ := hp
  cases f2
  obtain ⟨v3, w3, rfl, f3, hp⟩ := hp
  cases f3
  cases hp
  exact ⟨p, b', many, eq, v1, rfl, f1, h0, h1, h2, fun _ l H2 n e lt => k l H2 n e lt, fun z => by rw [h3] at z; cases z⟩
theorem gv__law_told_B {p b' many : Int} {eq : List (List Int)} (h0 : Pr p) (h1 : Tws p 100 eq) (h2 : 0 ≤ many ∧ many ≤ 100) (h3 : okR p eq b' = false) : Gv (sp__law_told K) (Ac rI p (Ac (rT K (rT K rI)) eq (Ac rI b' (Ac rI many A0)))) rN () := by
  intro vs H1 hp Q E k
  obtain ⟨v0, w0, rfl, f0, hp⟩ := hp
  cases f0
  obtain ⟨v1, w1, rfl, f1, hp⟩ := hp
  obtain ⟨v2, w2, rfl, f2, hp⟩ := hp
  cases f2
  obtain ⟨v3, w3, rfl, f3, hp⟩ := hp
  cases f3
  cases hp
  exact ⟨p, b', many, eq, v1, rfl, f1, h0, h1, h2, fun z => (by rw [h3] at z; cases z), fun _ H2 e => k _ H2 e rfl⟩
theorem gv_root_entries {C0 C : Addr} {p b' many : Int} {eq : List (List Int)} (h0 : Pr p) (h1 : Tws p 100 eq) (h2 : 0 ≤ many ∧ many ≤ 100) (h3 : okR p eq b' = true) : Gnl (sp_root_entries K C0 C) (Ac rI p (Ac (rT K (rT K rI)) eq (Ac rI b' (Ac rI many A0)))) rI (rootE p eq b' many.toNat) := by
  intro vs H1 hp Q E k
  obtain ⟨v0, w0, rfl, f0, hp⟩ := hp
  cases f0
  obtain ⟨v1, w1, rfl, f1, hp⟩ := hp
  obtain ⟨v2, w2, rfl, f2, hp⟩ := hp
  cases f2
  obtain ⟨v3, w3, rfl, f3, hp⟩ := hp
  cases f3
  cases hp
  refine ⟨.int p, v1, b', many, rfl, .int _, fun z => ?_, fun p' e hp' => ?_⟩
  · rw [h0.is] at z; cases z
  · cases e
    exact ⟨eq, f1, h1, h2, fun _ l H2 n e lt => k l H2 n e lt, fun z => by rw [h3] at z; cases z⟩
theorem right_2 {found : List Int} {many b : Int} (hl : found.length = many.toNat) (hm : 0 ≤ many) (h0 : 0 < many.toNat → found.getD 0 0 = b) :
    ((!true) || ((!(decide ((found.length : Int) = many))) || ((decide ((0 : Int) < many)) && (!(decide (gt0 (0 : Int) found (0 : Int) = b)))))) = false := by
  have e : gt0 (0 : Int) found 0 = found.getD 0 0 := gt0_getD found 0
  rw [e, decide_eq_true (show (found.length : Int) = many by omega)]
  by_cases h : 0 < many
  · rw [h0 (by omega), decide_eq_true h, decide_eq_true rfl]; rfl
  · rw [decide_eq_false h]; rfl
theorem right_3 {p : Int} {found : List Int} (h : Nms p found) : (!((found.map fun x => (true && ((!false) && ((decide ((0 : Int) ≤ x)) && (decide (x < p)))))).all id)) = false := by
  have : ((found.map fun x => (true && ((!false) && ((decide ((0 : Int) ≤ x)) && (decide (x < p)))))).all id) = true := by
    rw [List.all_eq_true]
    intro b hb
    obtain ⟨x, hx, rfl⟩ := List.mem_map.mp hb
    have := h x hx
    rw [decide_eq_true this.1, decide_eq_true this.2]; rfl
  rw [this]; rfl
theorem right_4 {p b many : Int} {eq : List (List Int)} (hm : 0 ≤ many) : (decide (rootE p eq b (many / 2).toNat = cutL (rootE p eq b many.toNat) none (some (many / 2))) && decide (rootE p eq b many.toNat = rootE p eq b many.toNat)) = true := by
  rw [cut_to (by omega), ← rootE_take (by omega), decide_eq_true rfl, decide_eq_true rfl]; rfl
theorem many_ok {a b i : Int} (ha : 0 ≤ a ∧ a < 31) (hb : 0 ≤ b ∧ b < 31) (hi : 0 ≤ i ∧ i < 4) : 0 ≤ gt0 (0 : Int) [a, 20, b, 60] i ∧ gt0 (0 : Int) [a, 20, b, 60] i ≤ 100 := by
  have : i = 0 ∨ i = 1 ∨ i = 2 ∨ i = 3 := by omega
  rcases this with rfl | rfl | rfl | rfl
  · show 0 ≤ a ∧ a ≤ 100; omega
  · show (0 : Int) ≤ 20 ∧ (20 : Int) ≤ 100; omega
  · show 0 ≤ b ∧ b ≤ 100; omega
  · show (0 : Int) ≤ 60 ∧ (60 : Int) ≤ 100; omega
end
section
variable {P : Program} {w : World} {K : PySem.W.Frag} {mg : Str → Option Value} {base : Heap}
def sp__law_right (K : PySem.W.Frag) : Sp := fun vs H Q _ => ∃ (l_p : Int) (l_equation_here : (List (List Int))) (l_b : Int) (l_many : Int) (v_l_equation_here : V), (vs = [.int l_p, v_l_equation_here, .int l_b, .int l_many]) ∧ ((rT K (rT K rI)) H l_equation_here v_l_equation_here) ∧ (Pr l_p) ∧ (EqOk l_p l_equation_here l_b) ∧ (0 ≤ l_b ∧ l_b < l_p) ∧ (0 ≤ l_many ∧ l_many ≤ 100) ∧ (∀ H', Ex H H' → Q (.bl true) H')
section
variable {K : PySem.W.Frag}
theorem gv__law_right {l_p : Int} {l_equation_here : (List (List Int))} {l_b : Int} {l_many : Int} (h0 : Pr l_p) (h1 : EqOk l_p l_equation_here l_b) (h2 : 0 ≤ l_b ∧ l_b < l_p) (h3 : 0 ≤ l_many ∧ l_many ≤ 100) : Gv (sp__law_right K) (Ac rI l_p (Ac (rT K (rT K rI)) l_equation_here (Ac rI l_b (Ac rI l_many A0)))) rB true := by
  intro vs H1 hp Q E k
  obtain ⟨v0, w0, rfl, f0, hp⟩ := hp
  cases f0
  obtain ⟨v1, w1, rfl, f1, hp⟩ := hp
  obtain ⟨v2, w2, rfl, f2, hp⟩ := hp
  cases f2
  obtain ⟨v3, w3, rfl, f3, hp⟩ := hp
  cases f3
  cases hp
  exact ⟨_, _, _, _, v1, rfl, f1, h0, h1, h2, h3, fun H2 e => k _ H2 e rfl⟩
end
theorem ok__law_right {f : Addr} {fd : FuncData} (F : Fun K "_law_right" "_law_right" s__law_right f fd) (D__law_told : Df P w K mg base CX0 7 "_law_told" ["_law_p", "_law_equation_here", "_law_b", "_law_many"] (sp__law_told K)) (n_any : mg "any" = none) (n_list : mg "list" = none) (n_all : mg "all" = none) (D__law_value : Df P w K mg base CX0 1 "_law_value" ["_law_p", "_law_equation_here", "_law_numbers", "_law_many"] (sp__law_value K)) (D__law_at_nought : Df P w K mg base CX0 1 "_law_at_nought" ["_law_p", "_law_equation_here", "_law_b"] (sp__law_at_nought K)) (n_isinstance : mg "isinstance" = none) (n_len : mg "len" = none) (D_root_entries : Df P w K mg base (L2N.CX P w) 6 "root_entries" ["p", "equation", "b", "many"] (sp_root_entries K C_NoPrime C_NoRoot)) (n_int : mg "int" = none) (n_bool : mg "bool" = none) : FnOk P w K mg base CX0 8 f fd ["_law_p", "_law_equation_here", "_law_b", "_law_many"] (sp__law_right K) := by
  refine F.ok sc__law_right (fun vs H Q E h => ?_) (fun cdv A outer s H vs Q E hr h => ?_)
  · obtain ⟨l_p, l_equation_here, l_b, l_many, v_l_equation_here, rfl, _⟩ := h; rfl
  · obtain ⟨l_p, l_equation_here, l_b, l_many, v_l_equation_here, rfl, f_l_equation_here, hpre0, hpre1, hpre2, hpre3, q⟩ := h
    rcases (Bool.eq_false_or_eq_true (okR l_p l_equation_here l_b)) with hok | hok
    · refine ⟨_, (pss_cons (ps_set (i := 4) sc__law_right.nd rfl (Or.inl rfl) (pe_call D__law_told.ok (hr.mono (by omega)) (by rfl) D__law_told.g D__law_told.kp D__law_told.b .nil pass0 (pa_cons (pv 0) (pa_cons (pv 1) (pa_cons (pv 2) (pa_cons (pv 3) pa_nil))))))
 (pss_cons (ps_if (pt_cmpR op_eq (pe_ix (ix_tupK K) (pe_call D__law_at_nought.ok (hr.mono (by omega)) (by rfl) D__law_at_nought.g D__law_at_nought.kp D__law_at_nought.b .nil pass0 (pa_cons (pv 0) (pa_cons (pv 1) (pa_cons (pv 2) pa_nil)))) pe_int (fun _ _ => rfl)) pe_int (nomark _)) (pss_one (ps_ret (pe_cmpR op_isN (pv 4) pe_non (nomark _)))) pss_nil)
 (pss_cons (ps_if (PW.pt (pw_or (pt_not (pt_val (pe_callB (call_isiK' K) (by rfl) n_isinstance (by decide +kernel) (pa_cons (pv 4) (pa_cons (pe_bltn (v := .ty "list") (by rfl) n_list (by decide +kernel) rfl) pa_nil))))) (pw_or (pt_cmpR op_ne (pe_callB (call_len_seqK K) (by rfl) n_len (by decide +kernel) (pa_cons (pv 4) pa_nil)) (pv 3) (nomark _)) (pw_or1 (PW.pt (pw_and (pt_cmpR op_gt (pv 3) pe_int (nomark _)) (pw_and1 (pt_cmpR op_ne (pe_ix (ix_listK K) (pv 4) pe_int (fun _ _ => rfl)) (pv 2) (nomark _))))))))) (pss_one (ps_ret pe_bl)) pss_nil)
 (pss_cons (ps_if (pt_not (pt_val (pe_callB (cr_allK K rfl) (by rfl) n_all (by decide +kernel) (pa_cons (pe_lc (own := [("_law_a", 6)]) (by rfl) sc__law_right.nd (pi_listK K (pv 4)) (blkOk_by (own := [("_law_a", 6)]) (N := ["_law_p", "_law_equation_here", "_law_b", "_law_many", "_law_found", "_law_again", "_law_a"]) (sc := defScope s__law_right) (by decide +kernel)) (fun _ _ _ _ _ => (pg_name (i := 6) sc__law_right.nd rfl (Or.inl rfl))) (fun _ _ _ _ _ => pts_nil) (fun _ _ _ _ _ => (pe_and (pe_callB (call_isiK' K) (by rfl) n_isinstance (by decide +kernel) (pa_cons (pv 6) (pa_cons (pe_bltn (v := .ty "int") (by rfl) n_int (by decide +kernel) rfl) pa_nil))) (pe_and (pe_not (pe_callB (call_isiK' K) (by rfl) n_isinstance (by decide +kernel) (pa_cons (pv 6) (pa_cons (pe_bltn (v := .ty "bool") (by rfl) n_bool (by decide +kernel) rfl) pa_nil)))) (pe_one (pe_chain op_le op_lt pe_int (pv 6) (pv 0))))))) pa_nil)))) (pss_one (ps_ret pe_bl)) pss_nil)
 (pss_cons (ps_if (pt_val (pe_callB (cr_anyIK K rfl) (by rfl) n_any (by decide +kernel) (pa_cons (pe_call D__law_value.ok (hr.mono (by omega)) (by rfl) D__law_value.g D__law_value.kp D__law_value.b .nil pass0 (pa_cons (pv 0) (pa_cons (pv 1) (pa_cons (pv 4) (pa_cons (pv 3) pa_nil))))) pa_nil))) (pss_one (ps_ret pe_bl)) pss_nil)
 (pss_cons (ps_set (i := 5) sc__law_right.nd rfl (Or.inl rfl) (pe_callTy (call_list_ofK K) (by rfl) n_list (by decide +kernel) (pa_cons (pv 4) pa_nil)))
 (pss_cons (ps_expr (pe_bm PySem.F.plainAttrs_list PySem.F.slot_list_append PySem.F.type_list_append mt_append (pv 4) (pa_cons pe_int pa_nil)))
 (pss_one (ps_ret (pe_and (pe_cmpR (op_eqDK K hr.units) (pe_call D_root_entries.ok (hr.mono (by omega)) (by rfl) D_root_entries.g D_root_entries.kp D_root_entries.b .nil passN (pa_cons (pv 0) (pa_cons (pv 1) (pa_cons (pv 2) (pa_cons (pe_op op_fdiv (pv 3) pe_int) pa_nil))))) (pe_slice (sl_listK K) (pv 5) po_none (po_some (pe_op op_fdiv (pv 3) pe_int))) (nomark _)) (pe_one (pe_cmpR (op_eqDK K hr.units) (pe_call D_root_entries.ok (hr.mono (by omega)) (by rfl) D_root_entries.g D_root_entries.kp D_root_entries.b .nil passN (pa_cons (pv 0) (pa_cons (pv 1) (pa_cons (pv 2) (pa_cons (pv 3) pa_nil))))) (pv 5) (nomark _))))))))))))), ?_⟩
      have F0 : Ex H H := Ex.refl H
      have hp := hpre0.le
      have hT := hpre1.1
      obtain ⟨r1, r2, r3, r4⟩ := rootE_ok hpre0 hT hpre2 hok l_many.toNat
      refine q_asgL (el_call (eac er_iv (eac (er_var rfl f_l_equation_here) (eac er_iv (eac er_iv ea0)))) (gv__law_told_A (by first | assumption | omega | (simp only [Bool.and_eq_true, Bool.or_eq_true, Bool.not_eq_true', Bool.and_eq_false_iff, Bool.or_eq_false_iff, Bool.not_eq_false', decide_eq_true_eq, decide_eq_false_iff_not, List.length_append, List.length_cons, List.length_nil, List.length_map, List.length_range, List.length_set, rng_len, enm_len, repL_len] at *; omega)) (by first | assumption | omega | (simp only [Bool.and_eq_true, Bool.or_eq_true, Bool.not_eq_true', Bool.and_eq_false_iff, Bool.or_eq_false_iff, Bool.not_eq_false', decide_eq_true_eq, decide_eq_false_iff_not, List.length_append, List.length_cons, List.length_nil, List.length_map, List.length_range, List.length_set, rng_len, enm_len, repL_len] at *; omega)) (by first | assumption | omega | (simp only [Bool.and_eq_true, Bool.or_eq_true, Bool.not_eq_true', Bool.and_eq_false_iff, Bool.or_eq_false_iff, Bool.not_eq_false', decide_eq_true_eq, decide_eq_false_iff_not, List.length_append, List.length_cons, List.length_nil, List.length_map, List.length_range, List.length_set, rng_len, enm_len, repL_len] at *; omega)) (by first | assumption | omega | (simp only [Bool.and_eq_true, Bool.or_eq_true, Bool.not_eq_true', Bool.and_eq_false_iff, Bool.or_eq_false_iff, Bool.not_eq_false', decide_eq_true_eq, decide_eq_false_iff_not, List.length_append, List.length_cons, List.length_nil, List.length_map, List.length_range, List.length_set, rng_len, enm_len, repL_len] at *; omega)))) fun p3 H1 n4 e2 l5 => ?_
      have n0p3 : _ = none := fresh_back F0 n4
      replace f_l_equation_here := Me.ex e2 f_l_equation_here
      replace F0 := F0.trans e2
      refine q_not (et_t (er_eqI (er_ixT0 (0 : Int) (er_call (eac er_iv (eac (er_var rfl f_l_equation_here) (eac er_iv ea0))) (gv__law_at_nought (by first | assumption | omega) (by first | assumption | omega) (by first | assumption | omega))) er_int (by show -(2 : Int) ≤ 1; decide) (by show (1 : Int) < 2; decide)) er_int)) ((nought_slope (by omega) hpre1).trans (by rw [hok]; first | done | rfl)) fun H6 e7 => ?_
      replace f_l_equation_here := Me.ex e7 f_l_equation_here
      replace l5 := Lt.ex l5 e7
      replace F0 := F0.trans e7
      refine q_not (et_or (et_not (et_b (er_isLst rfl l5))) fun hc10 => (et_or (et_t (er_neI (er_lenL (er_var rfl (Lt.rl l5))) er_iv)) fun hc9 => (et_and (et_t (er_cmp er_iv er_int)) fun hc8 => (et_t (er_neI (er_ixL0 (0 : Int) (er_var rfl (Lt.rl l5)) er_int (by first | omega | assumption | (simp; omega) | (simp only [Bool.and_eq_true, Bool.or_eq_true, Bool.not_eq_true', Bool.and_eq_false_iff, Bool.or_eq_false_iff, Bool.not_eq_false', decide_eq_true_eq, decide_eq_false_iff_not, List.length_append, List.length_cons, List.length_nil, List.length_map, List.length_range, List.length_set, rng_len, enm_len, repL_len] at *; omega)) (by first | omega | assumption | (simp; omega) | (simp only [Bool.and_eq_true, Bool.or_eq_true, Bool.not_eq_true', Bool.and_eq_false_iff, Bool.or_eq_false_iff, Bool.not_eq_false', decide_eq_true_eq, decide_eq_false_iff_not, List.length_append, List.length_cons, List.length_nil, List.length_map, List.length_range, List.length_set, rng_len, enm_len, repL_len] at *; omega))) er_iv))))) (right_2 r1 hpre3.1 r3) fun H11 e12 => ?_
      replace f_l_equation_here := Me.ex e12 f_l_equation_here
      replace l5 := Lt.ex l5 e12
      replace F0 := F0.trans e12
      refine q_not (et_not (et_b (er_all (El.er (K := K) (el_lcLI (K := K) (er_var rfl (Lt.rl l5)) (by first | omega | assumption | (simp only [Bool.and_eq_true, Bool.or_eq_true, Bool.not_eq_true', Bool.and_eq_false_iff, Bool.or_eq_false_iff, Bool.not_eq_false', decide_eq_true_eq, decide_eq_false_iff_not, List.length_append, List.length_cons, List.length_nil, List.length_map, List.length_range, List.length_set, rng_len, enm_len, repL_len] at *; omega)) (fun _ => rfl) (fun x13 H1 e14 hx15 => (er_andV (er_isI er_iv) fun hc18 => (er_andV (er_notV (er_isIb er_iv)) fun hc17 => (er_chain er_int er_iv er_iv))))))))) (right_3 r2) fun H19 e20 => ?_
      replace f_l_equation_here := Me.ex e20 f_l_equation_here
      replace l5 := Lt.ex l5 e20
      replace F0 := F0.trans e20
      refine q_not (et_b (er_anyIL (El.er (K := K) (el_call (eac er_iv (eac (er_var rfl f_l_equation_here) (eacO rfl l5 (eac er_iv ea0)))) (gv__law_value (by first | assumption | omega) (by first | assumption | omega) (by first | assumption | omega) (by first | assumption | omega) (by first | assumption | omega)))))) (value_none (by omega) hpre3.1 r4) fun H21 e22 => ?_
      replace f_l_equation_here := Me.ex e22 f_l_equation_here
      replace l5 := Lt.ex l5 e22
      replace F0 := F0.trans e22
      refine q_asgL (el_listL (er_var rfl (Lt.rl l5))) fun p25 H23 n26 e24 l27 => ?_
      have nep3p25 : p3 ≠ p25 := l5.ne n26
      have n0p25 : _ = none := fresh_back F0 n26
      replace f_l_equation_here := Me.ex e24 f_l_equation_here
      replace l5 := Lt.ex l5 e24
      replace F0 := F0.trans e24
      refine q_app (j := 4) l5 rfl er_int (by first | omega | assumption | (simp only [Bool.and_eq_true, Bool.or_eq_true, Bool.not_eq_true', Bool.and_eq_false_iff, Bool.or_eq_false_iff, Bool.not_eq_false', decide_eq_true_eq, decide_eq_false_iff_not, List.length_append, List.length_cons, List.length_nil, List.length_map, List.length_range, List.length_set, rng_len, enm_len, repL_len] at *; omega)) fun H28 c29 l30 => ?_
      have kt31 : Kt K _ _ := Lt.kt l5 c29
      replace f_l_equation_here := Mkt.kt kt31 f_l_equation_here
      replace l27 := Lt.keep l27 kt31 c29 (by first | assumption | exact Ne.symm (by assumption))
      replace F0 := C1.ofNew F0 n0p3 c29
      refine s_ret (R := rB) (er_andV (er_eqD (K := K) (El.er (K := K) (el_call (eac er_iv (eac (er_var rfl f_l_equation_here) (eac er_iv (eac (er_op er_iv er_int ⟨by omega, by omega⟩) ea0)))) (gv_root_entries (by first | assumption | omega | (simp only [Bool.and_eq_true, Bool.or_eq_true, Bool.not_eq_true', Bool.and_eq_false_iff, Bool.or_eq_false_iff, Bool.not_eq_false', decide_eq_true_eq, decide_eq_false_iff_not, List.length_append, List.length_cons, List.length_nil, List.length_map, List.length_range, List.length_set, rng_len, enm_len, repL_len] at *; omega)) (by first | assumption | omega | (simp only [Bool.and_eq_true, Bool.or_eq_true, Bool.not_eq_true', Bool.and_eq_false_iff, Bool.or_eq_false_iff, Bool.not_eq_false', decide_eq_true_eq, decide_eq_false_iff_not, List.length_append, List.length_cons, List.length_nil, List.length_map, List.length_range, List.length_set, rng_len, enm_len, repL_len] at *; omega)) (by first | assumption | omega | (simp only [Bool.and_eq_true, Bool.or_eq_true, Bool.not_eq_true', Bool.and_eq_false_iff, Bool.or_eq_false_iff, Bool.not_eq_false', decide_eq_true_eq, decide_eq_false_iff_not, List.length_append, List.length_cons, List.length_nil, List.length_map, List.length_range, List.length_set, rng_len, enm_len, repL_len] at *; omega)) (by first | assumption | omega | (simp only [Bool.and_eq_true, Bool.or_eq_true, Bool.not_eq_true', Bool.and_eq_false_iff, Bool.or_eq_false_iff, Bool.not_eq_false', decide_eq_true_eq, decide_eq_false_iff_not, List.length_append, List.length_cons, List.length_nil, List.length_map, List.length_range, List.length_set, rng_len, enm_len, repL_len] at *; omega))))) (El.er (K := K) (el_sl (er_var rfl (Lt.rl l27)) eo0 (eo1 (er_op er_iv er_int ⟨by omega, by omega⟩))))) fun hc32 => (er_eqD (K := K) (El.er (K := K) (el_call (eac er_iv (eac (er_var rfl f_l_equation_here) (eac er_iv (eac er_iv ea0)))) (gv_root_entries (by first | assumption | omega | (simp only [Bool.and_eq_true, Bool.or_eq_true, Bool.not_eq_true', Bool.and_eq_false_iff, Bool.or_eq_false_iff, Bool.not_eq_false', decide_eq_true_eq, decide_eq_false_iff_not, List.length_append, List.length_cons, List.length_nil, List.length_map, List.length_range, List.length_set, rng_len, enm_len, repL_len] at *; omega)) (by first | assumption | omega | (simp only [Bool.and_eq_true, Bool.or_eq_true, Bool.not_eq_true', Bool.and_eq_false_iff, Bool.or_eq_false_iff, Bool.not_eq_false', decide_eq_true_eq, decide_eq_false_iff_not, List.length_append, List.length_cons, List.length_nil, List.length_map, List.length_range, List.length_set, rng_len, enm_len, repL_len] at *; omega)) (by first | assumption | omega | (simp only [Bool.and_eq_true, Bool.or_eq_true, Bool.not_eq_true', Bool.and_eq_false_iff, Bool.or_eq_false_iff, Bool.not_eq_false', decide_eq_true_eq, decide_eq_false_iff_not, List.length_append, List.length_cons, List.length_nil, List.length_map, List.length_range, List.length_set, rng_len, enm_len, repL_len] at *; omega)) (by first | assumption | omega | (simp only [Bool.and_eq_true, Bool.or_eq_true, Bool.not_eq_true', Bool.and_eq_false_iff, Bool.or_eq_false_iff, Bool.not_eq_false', decide_eq_true_eq, decide_eq_false_iff_not, List.length_append, List.length_cons, List.length_nil, List.length_map, List.length_range, List.length_set, rng_len, enm_len, repL_len] at *; omega))))) (er_var rfl (Lt.rl l27)))) fun v H' e r => ?_
      cases r
      have z := q _ (F0.trans e)
      rw [right_4 hpre3.1]; exact z
    · refine ⟨_, (pss_cons (ps_set (i := 4) sc__law_right.nd rfl (Or.inl rfl) (pe_call D__law_told.ok (hr.mono (by omega)) (by rfl) D__law_told.g D__law_told.kp D__law_told.b .nil pass0 (pa_cons (pv 0) (pa_cons (pv 1) (pa_cons (pv 2) (pa_cons (pv 3) pa_nil))))))
 (pss_cons (ps_if (pt_cmpR op_eq (pe_ix (ix_tupK K) (pe_call D__law_at_nought.ok (hr.mono (by omega)) (by rfl) D__law_at_nought.g D__law_at_nought.kp D__law_at_nought.b .nil pass0 (pa_cons (pv 0) (pa_cons (pv 1) (pa_cons (pv 2) pa_nil)))) pe_int (fun _ _ => rfl)) pe_int (nomark _)) (pss_one (ps_ret (pe_cmpR op_isN (pv 4) pe_non (nomark _)))) pss_nil)
 (pss_cons (ps_if (PW.pt (pw_or (pt_not (pt_val (pe_callB (call_isiK' K) (by rfl) n_isinstance (by decide +kernel) (pa_cons (pv 4) (pa_cons (pe_bltn (v := .ty "list") (by rfl) n_list (by decide +kernel) rfl) pa_nil))))) (pw_or (pt_cmpR op_ne (pe_callB (call_len_seqK K) (by rfl) n_len (by decide +kernel) (pa_cons (pv 4) pa_nil)) (pv 3) (nomark _)) (pw_or1 (PW.pt (pw_and (pt_cmpR op_gt (pv 3) pe_int (nomark _)) (pw_and1 (pt_cmpR op_ne (pe_ix (ix_listK K) (pv 4) pe_int (fun _ _ => rfl)) (pv 2) (nomark _))))))))) (pss_one (ps_ret pe_bl)) pss_nil)
 (pss_cons (ps_if (pt_not (pt_val (pe_callB (cr_allK K rfl) (by rfl) n_all (by decide +kernel) (pa_cons (pe_lc (own := [("_law_a", 6)]) (by rfl) sc__law_right.nd (pi_listK K (pv 4)) (blkOk_by (own := [("_law_a", 6)]) (N := ["_law_p", "_law_equation_here", "_law_b", "_law_many", "_law_found", "_law_again", "_law_a"]) (sc := defScope s__law_right) (by decide +kernel)) (fun _ _ _ _ _ => (pg_name (i := 6) sc__law_right.nd rfl (Or.inl rfl))) (fun _ _ _ _ _ => pts_nil) (fun _ _ _ _ _ => (pe_and (pe_callB (call_isiK' K) (by rfl) n_isinstance (by decide +kernel) (pa_cons (pv 6) (pa_cons (pe_bltn (v := .ty "int") (by rfl) n_int (by decide +kernel) rfl) pa_nil))) (pe_and (pe_not (pe_callB (call_isiK' K) (by rfl) n_isinstance (by decide +kernel) (pa_cons (pv 6) (pa_cons (pe_bltn (v := .ty "bool") (by rfl) n_bool (by decide +kernel) rfl) pa_nil)))) (pe_one (pe_chain op_le op_lt pe_int (pv 6) (pv 0))))))) pa_nil)))) (pss_one (ps_ret pe_bl)) pss_nil)
 (pss_cons (ps_if (pt_val (pe_callB (cr_anyIK K rfl) (by rfl) n_any (by decide +kernel) (pa_cons (pe_call D__law_value.ok (hr.mono (by omega)) (by rfl) D__law_value.g D__law_value.kp D__law_value.b .nil pass0 (pa_cons (pv 0) (pa_cons (pv 1) (pa_cons (pv 4) (pa_cons (pv 3) pa_nil))))) pa_nil))) (pss_one (ps_ret pe_bl)) pss_nil)
 (pss_cons (ps_set (i := 5) sc__law_right.nd rfl (Or.inl rfl) (pe_callTy (call_list_ofK K) (by rfl) n_list (by decide +kernel) (pa_cons (pv 4) pa_nil)))
 (pss_cons (ps_expr (pe_bm PySem.F.plainAttrs_list PySem.F.slot_list_append PySem.F.type_list_append mt_append (pv 4) (pa_cons pe_int pa_nil)))
 (pss_one (ps_ret (pe_and (pe_cmpR (op_eqDK K hr.units) (pe_call D_root_entries.ok (hr.mono (by omega)) (by rfl) D_root_entries.g D_root_entries.kp D_root_entries.b .nil passN (pa_cons (pv 0) (pa_cons (pv 1) (pa_cons (pv 2) (pa_cons (pe_op op_fdiv (pv 3) pe_int) pa_nil))))) (pe_slice (sl_listK K) (pv 5) po_none (po_some (pe_op op_fdiv (pv 3) pe_int))) (nomark _)) (pe_one (pe_cmpR (op_eqDK K hr.units) (pe_call D_root_entries.ok (hr.mono (by omega)) (by rfl) D_root_entries.g D_root_entries.kp D_root_entries.b .nil passN (pa_cons (pv 0) (pa_cons (pv 1) (pa_cons (pv 2) (pa_cons (pv 3) pa_nil))))) (pv 5) (nomark _))))))))))))), ?_⟩
      have F0 : Ex H H := Ex.refl H
      have hp := hpre0.le
      have hT := hpre1.1
      refine q_asg (R := rN) (er_call (eac er_iv (eac (er_var rfl f_l_equation_here) (eac er_iv (eac er_iv ea0)))) (gv__law_told_B (by first | assumption | omega | (simp only [Bool.and_eq_true, Bool.or_eq_true, Bool.not_eq_true', Bool.and_eq_false_iff, Bool.or_eq_false_iff, Bool.not_eq_false', decide_eq_true_eq, decide_eq_false_iff_not, List.length_append, List.length_cons, List.length_nil, List.length_map, List.length_range, List.length_set, rng_len, enm_len, repL_len] at *; omega)) (by first | assumption | omega | (simp only [Bool.and_eq_true, Bool.or_eq_true, Bool.not_eq_true', Bool.and_eq_false_iff, Bool.or_eq_false_iff, Bool.not_eq_false', decide_eq_true_eq, decide_eq_false_iff_not, List.length_append, List.length_cons, List.length_nil, List.length_map, List.length_range, List.length_set, rng_len, enm_len, repL_len] at *; omega)) (by first | assumption | omega | (simp only [Bool.and_eq_true, Bool.or_eq_true, Bool.not_eq_true', Bool.and_eq_false_iff, Bool.or_eq_false_iff, Bool.not_eq_false', decide_eq_true_eq, decide_eq_false_iff_not, List.length_append, List.length_cons, List.length_nil, List.length_map, List.length_range, List.length_set, rng_len, enm_len, repL_len] at *; omega)) (by first | assumption | omega | (simp only [Bool.and_eq_true, Bool.or_eq_true, Bool.not_eq_true', Bool.and_eq_false_iff, Bool.or_eq_false_iff, Bool.not_eq_false', decide_eq_true_eq, decide_eq_false_iff_not, List.length_append, List.length_cons, List.length_nil, List.length_map, List.length_range, List.length_set, rng_len, enm_len, repL_len] at *; omega)))) fun v3 H1 e2 f_l_found4 => ?_
      replace f_l_equation_here := Me.ex e2 f_l_equation_here
      replace F0 := F0.trans e2
      refine q_when (et_t (er_eqI (er_ixT0 (0 : Int) (er_call (eac er_iv (eac (er_var rfl f_l_equation_here) (eac er_iv ea0))) (gv__law_at_nought (by first | assumption | omega | (simp only [Bool.and_eq_true, Bool.or_eq_true, Bool.not_eq_true', Bool.and_eq_false_iff, Bool.or_eq_false_iff, Bool.not_eq_false', decide_eq_true_eq, decide_eq_false_iff_not, List.length_append, List.length_cons, List.length_nil, List.length_map, List.length_range, List.length_set, rng_len, enm_len, repL_len] at *; omega)) (by first | assumption | omega | (simp only [Bool.and_eq_true, Bool.or_eq_true, Bool.not_eq_true', Bool.and_eq_false_iff, Bool.or_eq_false_iff, Bool.not_eq_false', decide_eq_true_eq, decide_eq_false_iff_not, List.length_append, List.length_cons, List.length_nil, List.length_map, List.length_range, List.length_set, rng_len, enm_len, repL_len] at *; omega)) (by first | assumption | omega | (simp only [Bool.and_eq_true, Bool.or_eq_true, Bool.not_eq_true', Bool.and_eq_false_iff, Bool.or_eq_false_iff, Bool.not_eq_false', decide_eq_true_eq, decide_eq_false_iff_not, List.length_append, List.length_cons, List.length_nil, List.length_map, List.length_range, List.length_set, rng_len, enm_len, repL_len] at *; omega)))) er_int (by show -(2 : Int) ≤ 1; decide) (by show (1 : Int) < 2; decide)) er_int)) (fun _ H5 e6 => ?_) (fun hb _ _ => absurd (hb.symm.trans ((nought_slope (by omega) hpre1).trans (by rw [hok]; first | done | rfl))) (by decide))
      replace f_l_equation_here := Me.ex e6 f_l_equation_here
      replace f_l_found4 := Me.ex e6 f_l_found4
      replace F0 := F0.trans e6
      refine s_ret (R := rB) (er_isNn (er_var rfl f_l_found4)) fun v H' e r => ?_
      cases r
      have z := q _ (F0.trans e)
      exact z

end
section
variable {P : Program} {w : World} {K : PySem.W.Frag} {mg : Str → Option Value} {base : Heap}
def spLaw (K : PySem.W.Frag) : Sp := fun vs H Q _ => ∃ (a : Addr) (ns : List Int), vs = [.ref a] ∧ SqL K H a (ns.map V.int) ∧ ns.length ≤ 63 ∧ ∀ H', Q (.bl true) H'
theorem ok_law {f : Addr} {fd : FuncData} (F : Fun K "law" "law" s_law f fd) (n_range : mg "range" = none) (n_max : mg "max" = none) (D__law_bag : Df P w K mg base CX0 1 "_law_bag" ["_law_script", "_law_at"] (sp__law_bag K)) (D__law_prime : Df P w K mg base CX0 2 "_law_prime" ["_law_bag_here"] (sp__law_prime K)) (D__law_draw : Df P w K mg base CX0 1 "_law_draw" ["_law_bag_here", "_law_many"] (sp__law_draw K)) (D__law_equation : Df P w K mg base CX0 2 "_law_equation" ["_law_bag_here", "_law_p", "_law_high", "_law_wide", "_law_b"] (sp__law_equation K)) (n_min : mg "min" = none) (n_len : mg "len" = none) (D__law_right : Df P w K mg base CX0 8 "_law_right" ["_law_p", "_law_equation_here", "_law_b", "_law_many"] (sp__law_right K)) : FnOk P w K mg base CX0 9 f fd ["_law_script"] (spLaw K) := by
  refine F.ok sc_law (fun vs H Q E h => ?_) (fun cdv A outer s H vs Q E hr h => ?_)
  · obtain ⟨a, ns, rfl, _⟩ := h; rfl
  · obtain ⟨a, ns, rfl, hS, hlen, q⟩ := h
    refine ⟨_, (pss_cons (ps_for PassesOwn.never rfl (pi_range1 (by rfl) n_range (pa_cons (pe_callB (call_max2 rfl) (by rfl) n_max (by decide +kernel) (pa_cons pe_int (pa_cons (pe_callB (call_min2 rfl) (by rfl) n_min (by decide +kernel) (pa_cons pe_int (pa_cons (pe_callB (call_len_seqK K) (by rfl) n_len (by decide +kernel) (pa_cons (pv 0) pa_nil)) pa_nil))) pa_nil))) pa_nil)) (pg_name (i := 1) sc_law.nd rfl (Or.inl rfl))
 (pss_cons (ps_set (i := 2) sc_law.nd rfl (Or.inl rfl) (pe_call D__law_bag.ok (hr.mono (by omega)) (by rfl) D__law_bag.g D__law_bag.kp D__law_bag.b .nil pass0 (pa_cons (pv 0) (pa_cons (pv 1) pa_nil))))
 (pss_cons (ps_set (i := 3) sc_law.nd rfl (Or.inl rfl) (pe_call D__law_prime.ok (hr.mono (by omega)) (by rfl) D__law_prime.g D__law_prime.kp D__law_prime.b .nil pass0 (pa_cons (pv 2) pa_nil)))
 (pss_cons (ps_set (i := 4) sc_law.nd rfl (Or.inl rfl) (pe_call D__law_draw.ok (hr.mono (by omega)) (by rfl) D__law_draw.g D__law_draw.kp D__law_draw.b .nil pass0 (pa_cons (pv 2) (pa_cons (pv 3) pa_nil))))
 (pss_cons (ps_set (i := 5) sc_law.nd rfl (Or.inl rfl) (pe_ix (ix_listK K) (pe_lst (pa_cons (pe_call D__law_draw.ok (hr.mono (by omega)) (by rfl) D__law_draw.g D__law_draw.kp D__law_draw.b .nil pass0 (pa_cons (pv 2) (pa_cons pe_int pa_nil))) (pa_cons pe_int (pa_cons (pe_call D__law_draw.ok (hr.mono (by omega)) (by rfl) D__law_draw.g D__law_draw.kp D__law_draw.b .nil pass0 (pa_cons (pv 2) (pa_cons pe_int pa_nil))) (pa_cons pe_int pa_nil))))) (pe_call D__law_draw.ok (hr.mono (by omega)) (by rfl) D__law_draw.g D__law_draw.kp D__law_draw.b .nil pass0 (pa_cons (pv 2) (pa_cons pe_int pa_nil))) (fun _ _ => rfl)))
 (pss_cons (ps_set (i := 6) sc_law.nd rfl (Or.inl rfl) (pe_call D__law_equation.ok (hr.mono (by omega)) (by rfl) D__law_equation.g D__law_equation.kp D__law_equation.b .nil pass0 (pa_cons (pv 2) (pa_cons (pv 3) (pa_cons pe_int (pa_cons pe_int (pa_cons (pv 4) pa_nil)))))))
 (pss_one (ps_if (PW.pt (pw_or (pt_not (pt_val (pe_call D__law_right.ok (hr.mono (by omega)) (by rfl) D__law_right.g D__law_right.kp D__law_right.b .nil pass0 (pa_cons (pv 3) (pa_cons (pv 6) (pa_cons (pv 4) (pa_cons (pv 5) pa_nil))))))) (pw_or1 (pt_not (pt_val (pe_call D__law_right.ok (hr.mono (by omega)) (by rfl) D__law_right.g D__law_right.kp D__law_right.b .nil pass0 (pa_cons (pv 3) (pa_cons (pe_call D__law_equation.ok (hr.mono (by omega)) (by rfl) D__law_equation.g D__law_equation.kp D__law_equation.b .nil pass0 (pa_cons (pv 2) (pa_cons (pv 3) (pa_cons pe_int (pa_cons pe_int (pa_cons (pv 4) pa_nil)))))) (pa_cons (pv 4) (pa_cons pe_int pa_nil)))))))))) (pss_one (ps_ret pe_bl)) pss_nil))))))))
 (pss_one (ps_ret pe_bl))), ?_⟩
    have F0 : Ex H H := Ex.refl H
    replace q : ∀ H', Ex H H' → Q (.bl true) H' := fun H' _ => q H'
    refine q_forR1 (er_mx2 er_int (er_mn2 er_int (er_lenL (er_var rfl (rl_of (Evl.ex_l F0 hS)))))) mm_b fun H1 e2 => ?_
    replace F0 := F0.trans e2
    have k3 : Kt K _ _ := Kt.refl H1
    refine fq_R (lo := 0) (hi := (mx2 ((2 : Int)) ((mn2 ((4 : Int)) ((ns.length : Int)))))) (by rw [Int.sub_zero]) (fun i σ' H' => ∃ (s1 : Unit) (j4 : Option V) (j5 : Option V) (j6 : Option V) (j7 : Option V) (j8 : Option V) (j9 : Option V), True ∧ σ' = [some (.ref a), j4, j5, j6, j7, j8, j9] ∧ Ex H H' ∧ Kt K H1 H') ?_ ?_ ?_
    · exact ⟨(), _, _, _, _, _, _, trivial, rfl, F0, k3⟩
    ·
      rintro i x1  _ H10 hi hx1 ⟨s1, j4, j5, j6, j7, j8, j9, hs1, rfl, F0, k3⟩
      have hr1 := rng_at hx1
      refine q_asg0 ?_
      refine go_callA ?_
      refine go_cons ?_
      refine ⟨_, rfl, ?_⟩
      refine go_cons ?_
      refine ⟨_, rfl, ?_⟩
      refine go_nil ?_
      refine ⟨_, _, _, rfl, Evl.ex_l F0 hS, (by omega), (Int.lt_of_lt_of_le hr1.2.2 mm_b2), fun b13 H14 n15 e16 B17 => ?_⟩
      have n0b13 : H b13 = none := fresh_back F0 n15
      replace F0 := F0.trans e16
      replace k3 := k3.trans (Kt.ex e16)
      refine q_asg0 ?_
      refine go_callA ?_
      refine go_cons ?_
      refine ⟨_, rfl, ?_⟩
      refine go_nil ?_
      refine ⟨b13, rfl, B17, fun y20 H19 c21 B22 hqy20_0 => ?_⟩
      have kt23 : Kt K _ _ := Bag.kt B17 c21
      replace k3 := k3.trans kt23
      replace F0 := C1.ofNew F0 n0b13 c21
      replace B17 := B22
      have hP : Pr y20 := by assumption
      have hp := hP.le
      refine q_asg0 ?_
      refine go_callA ?_
      refine go_cons ?_
      refine ⟨_, rfl, ?_⟩
      refine go_cons ?_
      refine ⟨_, rfl, ?_⟩
      refine go_nil ?_
      refine ⟨b13, _, rfl, B17, (by first | assumption | omega | (simp only [Bool.and_eq_true, Bool.or_eq_true, Bool.not_eq_true', Bool.and_eq_false_iff, Bool.or_eq_false_iff, Bool.not_eq_false', decide_eq_true_eq, decide_eq_false_iff_not, List.length_append, List.length_cons, List.length_nil, List.length_map, List.length_range, List.length_set, rng_len, enm_len, repL_len] at *; omega)), (by first | assumption | omega | (simp only [Bool.and_eq_true, Bool.or_eq_true, Bool.not_eq_true', Bool.and_eq_false_iff, Bool.or_eq_false_iff, Bool.not_eq_false', decide_eq_true_eq, decide_eq_false_iff_not, List.length_append, List.length_cons, List.length_nil, List.length_map, List.length_range, List.length_set, rng_len, enm_len, repL_len] at *; omega)), fun y27 H26 c28 B29 hqy27_0 => ?_⟩
      have kt30 : Kt K _ _ := Bag.kt B17 c28
      replace k3 := k3.trans kt30
      replace F0 := C1.ofNew F0 n0b13 c28
      replace B17 := B29
      refine q_asg0 ?_
      refine go_opK ?_
      refine go_lstA ?_
      refine go_cons ?_
      refine go_callA ?_
      refine go_cons ?_
      refine ⟨_, rfl, ?_⟩
      refine go_cons ?_
      refine go_I er_int fun H32 e33 => ?_
      replace B17 := Bag.ex B17 e33
      replace F0 := F0.trans e33
      replace k3 := k3.trans (Kt.ex e33)
      refine go_nil ?_
      refine ⟨b13, _, rfl, B17, (by first | assumption | omega | (simp only [Bool.and_eq_true, Bool.or_eq_true, Bool.not_eq_true', Bool.and_eq_false_iff, Bool.or_eq_false_iff, Bool.not_eq_false', decide_eq_true_eq, decide_eq_false_iff_not, List.length_append, List.length_cons, List.length_nil, List.length_map, List.length_range, List.length_set, rng_len, enm_len, repL_len] at *; omega)), (by first | assumption | omega | (simp only [Bool.and_eq_true, Bool.or_eq_true, Bool.not_eq_true', Bool.and_eq_false_iff, Bool.or_eq_false_iff, Bool.not_eq_false', decide_eq_true_eq, decide_eq_false_iff_not, List.length_append, List.length_cons, List.length_nil, List.length_map, List.length_range, List.length_set, rng_len, enm_len, repL_len] at *; omega)), fun y36 H35 c37 B38 hqy36_0 => ?_⟩
      have kt39 : Kt K _ _ := Bag.kt B17 c37
      replace k3 := k3.trans kt39
      replace F0 := C1.ofNew F0 n0b13 c37
      replace B17 := B38
      refine go_cons ?_
      refine go_I er_int fun H41 e42 => ?_
      replace B17 := Bag.ex B17 e42
      replace F0 := F0.trans e42
      replace k3 := k3.trans (Kt.ex e42)
      refine go_cons ?_
      refine go_callA ?_
      refine go_cons ?_
      refine ⟨_, rfl, ?_⟩
      refine go_cons ?_
      refine go_I er_int fun H45 e46 => ?_
      replace B17 := Bag.ex B17 e46
      replace F0 := F0.trans e46
      replace k3 := k3.trans (Kt.ex e46)
      refine go_nil ?_
      refine ⟨b13, _, rfl, B17, (by first | assumption | omega | (simp only [Bool.and_eq_true, Bool.or_eq_true, Bool.not_eq_true', Bool.and_eq_false_iff, Bool.or_eq_false_iff, Bool.not_eq_false', decide_eq_true_eq, decide_eq_false_iff_not, List.length_append, List.length_cons, List.length_nil, List.length_map, List.length_range, List.length_set, rng_len, enm_len, repL_len] at *; omega)), (by first | assumption | omega | (simp only [Bool.and_eq_true, Bool.or_eq_true, Bool.not_eq_true', Bool.and_eq_false_iff, Bool.or_eq_false_iff, Bool.not_eq_false', decide_eq_true_eq, decide_eq_false_iff_not, List.length_append, List.length_cons, List.length_nil, List.length_map, List.length_range, List.length_set, rng_len, enm_len, repL_len] at *; omega)), fun y49 H48 c50 B51 hqy49_0 => ?_⟩
      have kt52 : Kt K _ _ := Bag.kt B17 c50
      replace k3 := k3.trans kt52
      replace F0 := C1.ofNew F0 n0b13 c50
      replace B17 := B51
      refine go_cons ?_
      refine go_I er_int fun H54 e55 => ?_
      replace B17 := Bag.ex B17 e55
      replace F0 := F0.trans e55
      replace k3 := k3.trans (Kt.ex e55)
      refine go_nil ?_
      refine go_L (el_lst (R := rI) (eas er_iK (eas er_iK (eas er_iK (eas er_iK eas0)))) (by first | decide | simp)) fun p59 H57 n60 e58 l61 => ?_
      have neb13p59 : b13 ≠ p59 := B17.ne n60
      have n0p59 : _ = none := fresh_back F0 n60
      replace B17 := Bag.ex B17 e58
      replace F0 := F0.trans e58
      replace k3 := k3.trans (Kt.ex e58)
      refine go_callA ?_
      refine go_cons ?_
      refine ⟨_, rfl, ?_⟩
      refine go_cons ?_
      refine go_I er_int fun H64 e65 => ?_
      replace B17 := Bag.ex B17 e65
      replace l61 := Lt.ex l61 e65
      replace F0 := F0.trans e65
      replace k3 := k3.trans (Kt.ex e65)
      refine go_nil ?_
      refine ⟨b13, _, rfl, B17, (by first | assumption | omega | (simp only [Bool.and_eq_true, Bool.or_eq_true, Bool.not_eq_true', Bool.and_eq_false_iff, Bool.or_eq_false_iff, Bool.not_eq_false', decide_eq_true_eq, decide_eq_false_iff_not, List.length_append, List.length_cons, List.length_nil, List.length_map, List.length_range, List.length_set, rng_len, enm_len, repL_len] at *; omega)), (by first | assumption | omega | (simp only [Bool.and_eq_true, Bool.or_eq_true, Bool.not_eq_true', Bool.and_eq_false_iff, Bool.or_eq_false_iff, Bool.not_eq_false', decide_eq_true_eq, decide_eq_false_iff_not, List.length_append, List.length_cons, List.length_nil, List.length_map, List.length_range, List.length_set, rng_len, enm_len, repL_len] at *; omega)), fun y68 H67 c69 B70 hqy68_0 => ?_⟩
      have kt71 : Kt K _ _ := Bag.kt B17 c69
      replace k3 := k3.trans kt71
      replace l61 := Lt.keep l61 kt71 c69 (by first | assumption | exact Ne.symm (by assumption))
      replace F0 := C1.ofNew F0 n0b13 c69
      replace B17 := B70
      refine go_I (er_ixL0 (0 : Int) (er_K (Lt.rl l61)) er_iK (by first | omega | assumption | (simp; omega) | (simp only [Bool.and_eq_true, Bool.or_eq_true, Bool.not_eq_true', Bool.and_eq_false_iff, Bool.or_eq_false_iff, Bool.not_eq_false', decide_eq_true_eq, decide_eq_false_iff_not, List.length_append, List.length_cons, List.length_nil, List.length_map, List.length_range, List.length_set, rng_len, enm_len, repL_len] at *; omega)) (by first | omega | assumption | (simp; omega) | (simp only [Bool.and_eq_true, Bool.or_eq_true, Bool.not_eq_true', Bool.and_eq_false_iff, Bool.or_eq_false_iff, Bool.not_eq_false', decide_eq_true_eq, decide_eq_false_iff_not, List.length_append, List.length_cons, List.length_nil, List.length_map, List.length_range, List.length_set, rng_len, enm_len, repL_len] at *; omega))) fun H73 e74 => ?_
      replace B17 := Bag.ex B17 e74
      replace l61 := Lt.ex l61 e74
      replace F0 := F0.trans e74
      replace k3 := k3.trans (Kt.ex e74)
      have hmany : 0 ≤ ((gt0 (0 : Int) ([y36, (20 : Int), y49, (60 : Int)] : List Int) y68)) ∧ ((gt0 (0 : Int) ([y36, (20 : Int), y49, (60 : Int)] : List Int) y68)) ≤ 100 := many_ok (by assumption) (by assumption) (by assumption)
      generalize ((gt0 (0 : Int) ([y36, (20 : Int), y49, (60 : Int)] : List Int) y68)) = lm at *
      refine q_asg0 ?_
      refine go_callA ?_
      refine go_cons ?_
      refine ⟨_, rfl, ?_⟩
      refine go_cons ?_
      refine ⟨_, rfl, ?_⟩
      refine go_cons ?_
      refine go_I er_int fun H77 e78 => ?_
      replace B17 := Bag.ex B17 e78
      replace F0 := F0.trans e78
      replace k3 := k3.trans (Kt.ex e78)
      refine go_cons ?_
      refine go_I er_int fun H80 e81 => ?_
      replace B17 := Bag.ex B17 e81
      replace F0 := F0.trans e81
      replace k3 := k3.trans (Kt.ex e81)
      refine go_cons ?_
      refine ⟨_, rfl, ?_⟩
      refine go_nil ?_
      refine ⟨_, _, _, _, b13, rfl, B17, (by first | assumption | omega | (simp only [Bool.and_eq_true, Bool.or_eq_true, Bool.not_eq_true', Bool.and_eq_false_iff, Bool.or_eq_false_iff, Bool.not_eq_false', decide_eq_true_eq, decide_eq_false_iff_not, List.length_append, List.length_cons, List.length_nil, List.length_map, List.length_range, List.length_set, rng_len, enm_len, repL_len] at *; omega)), (by first | assumption | omega | (simp only [Bool.and_eq_true, Bool.or_eq_true, Bool.not_eq_true', Bool.and_eq_false_iff, Bool.or_eq_false_iff, Bool.not_eq_false', decide_eq_true_eq, decide_eq_false_iff_not, List.length_append, List.length_cons, List.length_nil, List.length_map, List.length_range, List.length_set, rng_len, enm_len, repL_len] at *; omega)), (by first | assumption | omega | (simp only [Bool.and_eq_true, Bool.or_eq_true, Bool.not_eq_true', Bool.and_eq_false_iff, Bool.or_eq_false_iff, Bool.not_eq_false', decide_eq_true_eq, decide_eq_false_iff_not, List.length_append, List.length_cons, List.length_nil, List.length_map, List.length_range, List.length_set, rng_len, enm_len, repL_len] at *; omega)), (by first | assumption | omega | (simp only [Bool.and_eq_true, Bool.or_eq_true, Bool.not_eq_true', Bool.and_eq_false_iff, Bool.or_eq_false_iff, Bool.not_eq_false', decide_eq_true_eq, decide_eq_false_iff_not, List.length_append, List.length_cons, List.length_nil, List.length_map, List.length_range, List.length_set, rng_len, enm_len, repL_len] at *; omega)), fun y85 v88 H84 c86 B87 f89 hqy85_0 => ?_⟩
      have kt90 : Kt K _ _ := Bag.kt B17 c86
      replace k3 := k3.trans kt90
      replace F0 := C1.ofNew F0 n0b13 c86
      replace B17 := B87
      refine s_when0 ?_
      refine go_or ?_
      refine go_not ?_
      refine go_T (et_b (er_call (eac er_iv (eac (er_var rfl f89) (eac er_iv (eac er_iv ea0)))) (gv__law_right (by first | assumption | omega | (simp only [Bool.and_eq_true, Bool.or_eq_true, Bool.not_eq_true', Bool.and_eq_false_iff, Bool.or_eq_false_iff, Bool.not_eq_false', decide_eq_true_eq, decide_eq_false_iff_not, List.length_append, List.length_cons, List.length_nil, List.length_map, List.length_range, List.length_set, rng_len, enm_len, repL_len] at *; omega)) (by first | assumption | omega | (simp only [Bool.and_eq_true, Bool.or_eq_true, Bool.not_eq_true', Bool.and_eq_false_iff, Bool.or_eq_false_iff, Bool.not_eq_false', decide_eq_true_eq, decide_eq_false_iff_not, List.length_append, List.length_cons, List.length_nil, List.length_map, List.length_range, List.length_set, rng_len, enm_len, repL_len] at *; omega)) (by first | assumption | omega | (simp only [Bool.and_eq_true, Bool.or_eq_true, Bool.not_eq_true', Bool.and_eq_false_iff, Bool.or_eq_false_iff, Bool.not_eq_false', decide_eq_true_eq, decide_eq_false_iff_not, List.length_append, List.length_cons, List.length_nil, List.length_map, List.length_range, List.length_set, rng_len, enm_len, repL_len] at *; omega)) (by first | assumption | omega | (simp only [Bool.and_eq_true, Bool.or_eq_true, Bool.not_eq_true', Bool.and_eq_false_iff, Bool.or_eq_false_iff, Bool.not_eq_false', decide_eq_true_eq, decide_eq_false_iff_not, List.length_append, List.length_cons, List.length_nil, List.length_map, List.length_range, List.length_set, rng_len, enm_len, repL_len] at *; omega))))) fun H91 e92 => ?_
      replace B17 := Bag.ex B17 e92
      replace f89 := Me.ex e92 f89
      replace F0 := F0.trans e92
      replace k3 := k3.trans (Kt.ex e92)
      refine ite_no rfl ?_
      refine go_not ?_
      refine go_tB ?_
      refine go_callA ?_
      refine go_cons ?_
      refine ⟨_, rfl, ?_⟩
      refine go_cons ?_
      refine go_callA ?_
      refine go_cons ?_
      refine ⟨_, rfl, ?_⟩
      refine go_cons ?_
      refine ⟨_, rfl, ?_⟩
      refine go_cons ?_
      refine go_I er_int fun H96 e97 => ?_
      replace B17 := Bag.ex B17 e97
      replace f89 := Me.ex e97 f89
      replace F0 := F0.trans e97
      replace k3 := k3.trans (Kt.ex e97)
      refine go_cons ?_
      refine go_I er_int fun H99 e100 => ?_
      replace B17 := Bag.ex B17 e100
      replace f89 := Me.ex e100 f89
      replace F0 := F0.trans e100
      replace k3 := k3.trans (Kt.ex e100)
      refine go_cons ?_
      refine ⟨_, rfl, ?_⟩
      refine go_nil ?_
      refine ⟨_, _, _, _, b13, rfl, B17, (by first | assumption | omega | (simp only [Bool.and_eq_true, Bool.or_eq_true, Bool.not_eq_true', Bool.and_eq_false_iff, Bool.or_eq_false_iff, Bool.not_eq_false', decide_eq_true_eq, decide_eq_false_iff_not, List.length_append, List.length_cons, List.length_nil, List.length_map, List.length_range, List.length_set, rng_len, enm_len, repL_len] at *; omega)), (by first | assumption | omega | (simp only [Bool.and_eq_true, Bool.or_eq_true, Bool.not_eq_true', Bool.and_eq_false_iff, Bool.or_eq_false_iff, Bool.not_eq_false', decide_eq_true_eq, decide_eq_false_iff_not, List.length_append, List.length_cons, List.length_nil, List.length_map, List.length_range, List.length_set, rng_len, enm_len, repL_len] at *; omega)), (by first | assumption | omega | (simp only [Bool.and_eq_true, Bool.or_eq_true, Bool.not_eq_true', Bool.and_eq_false_iff, Bool.or_eq_false_iff, Bool.not_eq_false', decide_eq_true_eq, decide_eq_false_iff_not, List.length_append, List.length_cons, List.length_nil, List.length_map, List.length_range, List.length_set, rng_len, enm_len, repL_len] at *; omega)), (by first | assumption | omega | (simp only [Bool.and_eq_true, Bool.or_eq_true, Bool.not_eq_true', Bool.and_eq_false_iff, Bool.or_eq_false_iff, Bool.not_eq_false', decide_eq_true_eq, decide_eq_false_iff_not, List.length_append, List.length_cons, List.length_nil, List.length_map, List.length_range, List.length_set, rng_len, enm_len, repL_len] at *; omega)), fun y104 v107 H103 c105 B106 f108 hqy104_0 => ?_⟩
      have kt109 : Kt K _ _ := Bag.kt B17 c105
      replace k3 := k3.trans kt109
      replace f89 := Mkt.kt kt109 f89
      replace F0 := C1.ofNew F0 n0b13 c105
      replace B17 := B106
      refine go_cons ?_
      refine ⟨_, rfl, ?_⟩
      refine go_cons ?_
      refine go_I er_int fun H112 e113 => ?_
      replace B17 := Bag.ex B17 e113
      replace f89 := Me.ex e113 f89
      replace f108 := Me.ex e113 f108
      replace F0 := F0.trans e113
      replace k3 := k3.trans (Kt.ex e113)
      refine go_nil ?_
      refine ⟨_, _, _, _, v107, rfl, f108, (by first | assumption | omega | (simp only [Bool.and_eq_true, Bool.or_eq_true, Bool.not_eq_true', Bool.and_eq_false_iff, Bool.or_eq_false_iff, Bool.not_eq_false', decide_eq_true_eq, decide_eq_false_iff_not, List.length_append, List.length_cons, List.length_nil, List.length_map, List.length_range, List.length_set, rng_len, enm_len, repL_len] at *; omega)), (by first | assumption | omega | (simp only [Bool.and_eq_true, Bool.or_eq_true, Bool.not_eq_true', Bool.and_eq_false_iff, Bool.or_eq_false_iff, Bool.not_eq_false', decide_eq_true_eq, decide_eq_false_iff_not, List.length_append, List.length_cons, List.length_nil, List.length_map, List.length_range, List.length_set, rng_len, enm_len, repL_len] at *; omega)), (by first | assumption | omega | (simp only [Bool.and_eq_true, Bool.or_eq_true, Bool.not_eq_true', Bool.and_eq_false_iff, Bool.or_eq_false_iff, Bool.not_eq_false', decide_eq_true_eq, decide_eq_false_iff_not, List.length_append, List.length_cons, List.length_nil, List.length_map, List.length_range, List.length_set, rng_len, enm_len, repL_len] at *; omega)), (by first | assumption | omega | (simp only [Bool.and_eq_true, Bool.or_eq_true, Bool.not_eq_true', Bool.and_eq_false_iff, Bool.or_eq_false_iff, Bool.not_eq_false', decide_eq_true_eq, decide_eq_false_iff_not, List.length_append, List.length_cons, List.length_nil, List.length_map, List.length_range, List.length_set, rng_len, enm_len, repL_len] at *; omega)), fun H115 c117 => ?_⟩
      replace B17 := Bag.ex B17 c117
      replace f89 := Me.ex c117 f89
      replace f108 := Me.ex c117 f108
      replace F0 := F0.trans c117
      replace k3 := k3.trans (Kt.ex c117)
      refine ⟨_, rfl, ?_⟩
      refine ite_no rfl ?_
      exact ⟨(), _, _, _, _, _, _, trivial, rfl, F0, k3⟩
    rintro _ H119 ⟨s1, j4, j5, j6, j7, j8, j9, hs1, rfl, F0, k3⟩
    refine s_ret (R := rB) er_bl fun v H' e r => ?_
    cases r
    have z := q _ (F0.trans e)
    exact z

end
theorem all_mk {l : PySem.W.OpenLaw} {w : World} {K : PySem.W.Frag} {h : Heap} {mg : Str → Option Value} {fa f0 f1 f2 f3 f4 f5 f6 f7 f8 f9 f10 f11 f12 f13 f14 f15 f16 f17 f18 f19 f20 f21 f22 f23 f24 f25 : Addr} (X : K.In h) (G : h.Ns mainGlobals mg) (hfa : mg "law" = some (.ref fa))
    {od0 an0 : Option Addr} {sl0 : Array (Option Value)} {oc0 kV0 dc0 pm0 cd0 ct0 : Value}
    {od1 an1 : Option Addr} {sl1 : Array (Option Value)} {oc1 kV1 dc1 pm1 cd1 ct1 : Value}
    {od2 an2 : Option Addr} {sl2 : Array (Option Value)} {oc2 kV2 dc2 pm2 cd2 ct2 : Value}
    {od3 an3 : Option Addr} {sl3 : Array (Option Value)} {oc3 kV3 dc3 pm3 cd3 ct3 : Value}
    {od4 an4 : Option Addr} {sl4 : Array (Option Value)} {oc4 kV4 dc4 pm4 cd4 ct4 : Value}
    {od5 an5 : Option Addr} {sl5 : Array (Option Value)} {oc5 kV5 dc5 pm5 cd5 ct5 : Value}
    {od6 an6 : Option Addr} {sl6 : Array (Option Value)} {oc6 kV6 dc6 pm6 cd6 ct6 : Value}
    {od7 an7 : Option Addr} {sl7 : Array (Option Value)} {oc7 kV7 dc7 pm7 cd7 ct7 : Value}
    {od8 an8 : Option Addr} {sl8 : Array (Option Value)} {oc8 kV8 dc8 pm8 cd8 ct8 : Value}
    {od9 an9 : Option Addr} {sl9 : Array (Option Value)} {oc9 kV9 dc9 pm9 cd9 ct9 : Value}
    {od10 an10 : Option Addr} {sl10 : Array (Option Value)} {oc10 kV10 dc10 pm10 cd10 ct10 : Value}
    {od11 an11 : Option Addr} {sl11 : Array (Option Value)} {oc11 kV11 dc11 pm11 cd11 ct11 : Value}
    {od12 an12 : Option Addr} {sl12 : Array (Option Value)} {oc12 kV12 dc12 pm12 cd12 ct12 : Value}
    {od13 an13 : Option Addr} {sl13 : Array (Option Value)} {oc13 kV13 dc13 pm13 cd13 ct13 : Value}
    {od14 an14 : Option Addr} {sl14 : Array (Option Value)} {oc14 kV14 dc14 pm14 cd14 ct14 : Value}
    {od15 an15 : Option Addr} {sl15 : Array (Option Value)} {oc15 kV15 dc15 pm15 cd15 ct15 : Value}
    {od16 an16 : Option Addr} {sl16 : Array (Option Value)} {oc16 kV16 dc16 pm16 cd16 ct16 : Value}
    {od17 an17 : Option Addr} {sl17 : Array (Option Value)} {oc17 kV17 dc17 pm17 cd17 ct17 : Value}
    {od18 an18 : Option Addr} {sl18 : Array (Option Value)} {oc18 kV18 dc18 pm18 cd18 ct18 : Value}
    {od19 an19 : Option Addr} {sl19 : Array (Option Value)} {oc19 kV19 dc19 pm19 cd19 ct19 : Value}
    {od20 an20 : Option Addr} {sl20 : Array (Option Value)} {oc20 kV20 dc20 pm20 cd20 ct20 : Value}
    {od21 an21 : Option Addr} {sl21 : Array (Option Value)} {oc21 kV21 dc21 pm21 cd21 ct21 : Value}
    {od22 an22 : Option Addr} {sl22 : Array (Option Value)} {oc22 kV22 dc22 pm22 cd22 ct22 : Value}
    {od23 an23 : Option Addr} {sl23 : Array (Option Value)} {oc23 kV23 dc23 pm23 cd23 ct23 : Value}
    {od24 an24 : Option Addr} {sl24 : Array (Option Value)} {oc24 kV24 dc24 pm24 cd24 ct24 : Value}
    {od25 an25 : Option Addr} {sl25 : Array (Option Value)} {oc25 kV25 dc25 pm25 cd25 ct25 : Value}
    {a_PRIMES : Addr} {dd_PRIMES : Option Addr} {cn_PRIMES : Nat} {cs_PRIMES : Array (Option Value)} {tkPRIMES0 tkPRIMES1 tkPRIMES2 : Tok}
    {C_DigitError : Addr}
    {C_NoPrime : Addr}
    {C_NoRoot : Addr}
    {C_NoMatch : Addr}
    {C_NoOver : Addr}
    {C_TooGreat : Addr}
    {C_NoRow : Addr}
    {C_TooMany : Addr}
    {C_NoText : Addr}
    {C_NoName : Addr}
    {C_NoSaying : Addr}
    (a0 : PySem.W.nsIn K mainGlobals "is_whole" = some (some (.ref f0)))
    (l0 : K.lookup f0 = some ⟨oc0, od0, .func (PySem.W.fnOf "is_whole" "is_whole" (defArgs s_is_whole) (defBody s_is_whole) (defScope s_is_whole) .none kV0 dc0 pm0 an0 cd0 ct0), sl0⟩)
    (c0 : PySem.W.codeIn K cd0 "is_whole" = true)
    (k0 : PySem.W.keepIn K (.ref f0) = true)
    (a1 : PySem.W.nsIn K mainGlobals "is_prime" = some (some (.ref f1)))
    (l1 : K.lookup f1 = some ⟨oc1, od1, .func (PySem.W.fnOf "is_prime" "is_prime" (defArgs s_is_prime) (defBody s_is_prime) (defScope s_is_prime) .none kV1 dc1 pm1 an1 cd1 ct1), sl1⟩)
    (c1 : PySem.W.codeIn K cd1 "is_prime" = true)
    (k1 : PySem.W.keepIn K (.ref f1) = true)
    (a2 : PySem.W.nsIn K mainGlobals "look_prime" = some (some (.ref f2)))
    (l2 : K.lookup f2 = some ⟨oc2, od2, .func (PySem.W.fnOf "look_prime" "look_prime" (defArgs s_look_prime) (defBody s_look_prime) (defScope s_look_prime) .none kV2 dc2 pm2 an2 cd2 ct2), sl2⟩)
    (c2 : PySem.W.codeIn K cd2 "look_prime" = true)
    (k2 : PySem.W.keepIn K (.ref f2) = true)
    (a3 : PySem.W.nsIn K mainGlobals "back_of" = some (some (.ref f3)))
    (l3 : K.lookup f3 = some ⟨oc3, od3, .func (PySem.W.fnOf "back_of" "back_of" (defArgs s_back_of) (defBody s_back_of) (defScope s_back_of) .none kV3 dc3 pm3 an3 cd3 ct3), sl3⟩)
    (c3 : PySem.W.codeIn K cd3 "back_of" = true)
    (k3 : PySem.W.keepIn K (.ref f3) = true)
    (a4 : PySem.W.nsIn K mainGlobals "trimmed" = some (some (.ref f4)))
    (l4 : K.lookup f4 = some ⟨oc4, od4, .func (PySem.W.fnOf "trimmed" "trimmed" (defArgs s_trimmed) (defBody s_trimmed) (defScope s_trimmed) .none kV4 dc4 pm4 an4 cd4 ct4), sl4⟩)
    (c4 : PySem.W.codeIn K cd4 "trimmed" = true)
    (k4 : PySem.W.keepIn K (.ref f4) = true)
    (a5 : PySem.W.nsIn K mainGlobals "added" = some (some (.ref f5)))
    (l5 : K.lookup f5 = some ⟨oc5, od5, .func (PySem.W.fnOf "added" "added" (defArgs s_added) (defBody s_added) (defScope s_added) .none kV5 dc5 pm5 an5 cd5 ct5), sl5⟩)
    (c5 : PySem.W.codeIn K cd5 "added" = true)
    (k5 : PySem.W.keepIn K (.ref f5) = true)
    (a6 : PySem.W.nsIn K mainGlobals "multiplied" = some (some (.ref f6)))
    (l6 : K.lookup f6 = some ⟨oc6, od6, .func (PySem.W.fnOf "multiplied" "multiplied" (defArgs s_multiplied) (defBody s_multiplied) (defScope s_multiplied) .none kV6 dc6 pm6 an6 cd6 ct6), sl6⟩)
    (c6 : PySem.W.codeIn K cd6 "multiplied" = true)
    (k6 : PySem.W.keepIn K (.ref f6) = true)
    (a7 : PySem.W.nsIn K mainGlobals "two_trimmed" = some (some (.ref f7)))
    (l7 : K.lookup f7 = some ⟨oc7, od7, .func (PySem.W.fnOf "two_trimmed" "two_trimmed" (defArgs s_two_trimmed) (defBody s_two_trimmed) (defScope s_two_trimmed) .none kV7 dc7 pm7 an7 cd7 ct7), sl7⟩)
    (c7 : PySem.W.codeIn K cd7 "two_trimmed" = true)
    (k7 : PySem.W.keepIn K (.ref f7) = true)
    (a8 : PySem.W.nsIn K mainGlobals "corner" = some (some (.ref f8)))
    (l8 : K.lookup f8 = some ⟨oc8, od8, .func (PySem.W.fnOf "corner" "corner" (defArgs s_corner) (defBody s_corner) (defScope s_corner) .none kV8 dc8 pm8 an8 cd8 ct8), sl8⟩)
    (c8 : PySem.W.codeIn K cd8 "corner" = true)
    (k8 : PySem.W.keepIn K (.ref f8) = true)
    (a9 : PySem.W.nsIn K mainGlobals "twos_added" = some (some (.ref f9)))
    (l9 : K.lookup f9 = some ⟨oc9, od9, .func (PySem.W.fnOf "twos_added" "twos_added" (defArgs s_twos_added) (defBody s_twos_added) (defScope s_twos_added) .none kV9 dc9 pm9 an9 cd9 ct9), sl9⟩)
    (c9 : PySem.W.codeIn K cd9 "twos_added" = true)
    (k9 : PySem.W.keepIn K (.ref f9) = true)
    (a10 : PySem.W.nsIn K mainGlobals "slope_of" = some (some (.ref f10)))
    (l10 : K.lookup f10 = some ⟨oc10, od10, .func (PySem.W.fnOf "slope_of" "slope_of" (defArgs s_slope_of) (defBody s_slope_of) (defScope s_slope_of) .none kV10 dc10 pm10 an10 cd10 ct10), sl10⟩)
    (c10 : PySem.W.codeIn K cd10 "slope_of" = true)
    (k10 : PySem.W.keepIn K (.ref f10) = true)
    (a11 : PySem.W.nsIn K mainGlobals "shifted_by" = some (some (.ref f11)))
    (l11 : K.lookup f11 = some ⟨oc11, od11, .func (PySem.W.fnOf "shifted_by" "shifted_by" (defArgs s_shifted_by) (defBody s_shifted_by) (defScope s_shifted_by) .none kV11 dc11 pm11 an11 cd11 ct11), sl11⟩)
    (c11 : PySem.W.codeIn K cd11 "shifted_by" = true)
    (k11 : PySem.W.keepIn K (.ref f11) = true)
    (a12 : PySem.W.nsIn K mainGlobals "value_cut" = some (some (.ref f12)))
    (l12 : K.lookup f12 = some ⟨oc12, od12, .func (PySem.W.fnOf "value_cut" "value_cut" (defArgs s_value_cut) (defBody s_value_cut) (defScope s_value_cut) .none kV12 dc12 pm12 an12 cd12 ct12), sl12⟩)
    (c12 : PySem.W.codeIn K cd12 "value_cut" = true)
    (k12 : PySem.W.keepIn K (.ref f12) = true)
    (a13 : PySem.W.nsIn K mainGlobals "look_root" = some (some (.ref f13)))
    (l13 : K.lookup f13 = some ⟨oc13, od13, .func (PySem.W.fnOf "look_root" "look_root" (defArgs s_look_root) (defBody s_look_root) (defScope s_look_root) .none kV13 dc13 pm13 an13 cd13 ct13), sl13⟩)
    (c13 : PySem.W.codeIn K cd13 "look_root" = true)
    (k13 : PySem.W.keepIn K (.ref f13) = true)
    (a14 : PySem.W.nsIn K mainGlobals "root_entries" = some (some (.ref f14)))
    (l14 : K.lookup f14 = some ⟨oc14, od14, .func (PySem.W.fnOf "root_entries" "root_entries" (defArgs s_root_entries) (defBody s_root_entries) (defScope s_root_entries) .none kV14 dc14 pm14 an14 cd14 ct14), sl14⟩)
    (c14 : PySem.W.codeIn K cd14 "root_entries" = true)
    (k14 : PySem.W.keepIn K (.ref f14) = true)
    (a15 : PySem.W.nsIn K mainGlobals "_law_bag" = some (some (.ref f15)))
    (l15 : K.lookup f15 = some ⟨oc15, od15, .func (PySem.W.fnOf "_law_bag" "_law_bag" (defArgs s__law_bag) (defBody s__law_bag) (defScope s__law_bag) .none kV15 dc15 pm15 an15 cd15 ct15), sl15⟩)
    (c15 : PySem.W.codeIn K cd15 "_law_bag" = true)
    (k15 : PySem.W.keepIn K (.ref f15) = true)
    (a16 : PySem.W.nsIn K mainGlobals "_law_draw" = some (some (.ref f16)))
    (l16 : K.lookup f16 = some ⟨oc16, od16, .func (PySem.W.fnOf "_law_draw" "_law_draw" (defArgs s__law_draw) (defBody s__law_draw) (defScope s__law_draw) .none kV16 dc16 pm16 an16 cd16 ct16), sl16⟩)
    (c16 : PySem.W.codeIn K cd16 "_law_draw" = true)
    (k16 : PySem.W.keepIn K (.ref f16) = true)
    (a17 : PySem.W.nsIn K mainGlobals "_law_prime" = some (some (.ref f17)))
    (l17 : K.lookup f17 = some ⟨oc17, od17, .func (PySem.W.fnOf "_law_prime" "_law_prime" (defArgs s__law_prime) (defBody s__law_prime) (defScope s__law_prime) .none kV17 dc17 pm17 an17 cd17 ct17), sl17⟩)
    (c17 : PySem.W.codeIn K cd17 "_law_prime" = true)
    (k17 : PySem.W.keepIn K (.ref f17) = true)
    (a18 : PySem.W.nsIn K mainGlobals "_law_trimmed" = some (some (.ref f18)))
    (l18 : K.lookup f18 = some ⟨oc18, od18, .func (PySem.W.fnOf "_law_trimmed" "_law_trimmed" (defArgs s__law_trimmed) (defBody s__law_trimmed) (defScope s__law_trimmed) .none kV18 dc18 pm18 an18 cd18 ct18), sl18⟩)
    (c18 : PySem.W.codeIn K cd18 "_law_trimmed" = true)
    (k18 : PySem.W.keepIn K (.ref f18) = true)
    (a19 : PySem.W.nsIn K mainGlobals "_law_equation" = some (some (.ref f19)))
    (l19 : K.lookup f19 = some ⟨oc19, od19, .func (PySem.W.fnOf "_law_equation" "_law_equation" (defArgs s__law_equation) (defBody s__law_equation) (defScope s__law_equation) .none kV19 dc19 pm19 an19 cd19 ct19), sl19⟩)
    (c19 : PySem.W.codeIn K cd19 "_law_equation" = true)
    (k19 : PySem.W.keepIn K (.ref f19) = true)
    (a20 : PySem.W.nsIn K mainGlobals "_law_at_nought" = some (some (.ref f20)))
    (l20 : K.lookup f20 = some ⟨oc20, od20, .func (PySem.W.fnOf "_law_at_nought" "_law_at_nought" (defArgs s__law_at_nought) (defBody s__law_at_nought) (defScope s__law_at_nought) .none kV20 dc20 pm20 an20 cd20 ct20), sl20⟩)
    (c20 : PySem.W.codeIn K cd20 "_law_at_nought" = true)
    (k20 : PySem.W.keepIn K (.ref f20) = true)
    (a21 : PySem.W.nsIn K mainGlobals "_law_value" = some (some (.ref f21)))
    (l21 : K.lookup f21 = some ⟨oc21, od21, .func (PySem.W.fnOf "_law_value" "_law_value" (defArgs s__law_value) (defBody s__law_value) (defScope s__law_value) .none kV21 dc21 pm21 an21 cd21 ct21), sl21⟩)
    (c21 : PySem.W.codeIn K cd21 "_law_value" = true)
    (k21 : PySem.W.keepIn K (.ref f21) = true)
    (a22 : PySem.W.nsIn K mainGlobals "_law_only" = some (some (.ref f22)))
    (l22 : K.lookup f22 = some ⟨oc22, od22, .func (PySem.W.fnOf "_law_only" "_law_only" (defArgs s__law_only) (defBody s__law_only) (defScope s__law_only) .none kV22 dc22 pm22 an22 cd22 ct22), sl22⟩)
    (c22 : PySem.W.codeIn K cd22 "_law_only" = true)
    (k22 : PySem.W.keepIn K (.ref f22) = true)
    (a23 : PySem.W.nsIn K mainGlobals "_law_told" = some (some (.ref f23)))
    (l23 : K.lookup f23 = some ⟨oc23, od23, .func (PySem.W.fnOf "_law_told" "_law_told" (defArgs s__law_told) (defBody s__law_told) (defScope s__law_told) .none kV23 dc23 pm23 an23 cd23 ct23), sl23⟩)
    (c23 : PySem.W.codeIn K cd23 "_law_told" = true)
    (k23 : PySem.W.keepIn K (.ref f23) = true)
    (a24 : PySem.W.nsIn K mainGlobals "_law_right" = some (some (.ref f24)))
    (l24 : K.lookup f24 = some ⟨oc24, od24, .func (PySem.W.fnOf "_law_right" "_law_right" (defArgs s__law_right) (defBody s__law_right) (defScope s__law_right) .none kV24 dc24 pm24 an24 cd24 ct24), sl24⟩)
    (c24 : PySem.W.codeIn K cd24 "_law_right" = true)
    (k24 : PySem.W.keepIn K (.ref f24) = true)
    (a25 : PySem.W.nsIn K mainGlobals "law" = some (some (.ref f25)))
    (l25 : K.lookup f25 = some ⟨oc25, od25, .func (PySem.W.fnOf "law" "law" (defArgs s_law) (defBody s_law) (defScope s_law) .none kV25 dc25 pm25 an25 cd25 ct25), sl25⟩)
    (c25 : PySem.W.codeIn K cd25 "law" = true)
    (k25 : PySem.W.keepIn K (.ref f25) = true)
    (n_isinstance : PySem.W.nsIn K mainGlobals "isinstance" = some none)
    (n_int : PySem.W.nsIn K mainGlobals "int" = some none)
    (n_bool : PySem.W.nsIn K mainGlobals "bool" = some none)
    (n_len : PySem.W.nsIn K mainGlobals "len" = some none)
    (n_enumerate : PySem.W.nsIn K mainGlobals "enumerate" = some none)
    (n_range : PySem.W.nsIn K mainGlobals "range" = some none)
    (n_abs : PySem.W.nsIn K mainGlobals "abs" = some none)
    (n_max : PySem.W.nsIn K mainGlobals "max" = some none)
    (n_min : PySem.W.nsIn K mainGlobals "min" = some none)
    (n_tuple : PySem.W.nsIn K mainGlobals "tuple" = some none)
    (n_list : PySem.W.nsIn K mainGlobals "list" = some none)
    (n_any : PySem.W.nsIn K mainGlobals "any" = some none)
    (n_all : PySem.W.nsIn K mainGlobals "all" = some none)
    (n_sum : PySem.W.nsIn K mainGlobals "sum" = some none)
    (n_ValueError : PySem.W.nsIn K mainGlobals "ValueError" = some none)
    (ca_PRIMES : PySem.W.nsIn K mainGlobals "PRIMES" = some (some (.ref a_PRIMES)))
    (cl_PRIMES : K.lookup a_PRIMES = some ⟨.type "tuple", dd_PRIMES, .seq #[.int 2 tkPRIMES0, .int 3 tkPRIMES1, .int 5 tkPRIMES2] cn_PRIMES, cs_PRIMES⟩)
    (xa_DigitError : PySem.W.nsIn K mainGlobals "DigitError" = some (some (.ref C_DigitError)))
    (xa_NoPrime : PySem.W.nsIn K mainGlobals "NoPrime" = some (some (.ref C_NoPrime)))
    (xk_NoPrime : PySem.W.keepIn K (.ref C_NoPrime) = true)
    (xx_NoPrime : PySem.W.excIn K C_NoPrime [.type "ValueError", .type "Exception", .type "BaseException", .type "object"] "ValueError.__new__" = true)
    (xs_NoPrime : PySem.W.subIn K (.ref C_NoPrime) (.type "BaseException") = some true)
    (xt_NoPrime : PySem.W.typeIn K (.ref C_NoPrime) = some (.type "type"))
    (xa_NoRoot : PySem.W.nsIn K mainGlobals "NoRoot" = some (some (.ref C_NoRoot)))
    (xk_NoRoot : PySem.W.keepIn K (.ref C_NoRoot) = true)
    (xx_NoRoot : PySem.W.excIn K C_NoRoot [.type "ValueError", .type "Exception", .type "BaseException", .type "object"] "ValueError.__new__" = true)
    (xs_NoRoot : PySem.W.subIn K (.ref C_NoRoot) (.type "BaseException") = some true)
    (xt_NoRoot : PySem.W.typeIn K (.ref C_NoRoot) = some (.type "type"))
    (xa_NoMatch : PySem.W.nsIn K mainGlobals "NoMatch" = some (some (.ref C_NoMatch)))
    (xa_NoOver : PySem.W.nsIn K mainGlobals "NoOver" = some (some (.ref C_NoOver)))
    (xa_TooGreat : PySem.W.nsIn K mainGlobals "TooGreat" = some (some (.ref C_TooGreat)))
    (xa_NoRow : PySem.W.nsIn K mainGlobals "NoRow" = some (some (.ref C_NoRow)))
    (xa_TooMany : PySem.W.nsIn K mainGlobals "TooMany" = some (some (.ref C_TooMany)))
    (xa_NoText : PySem.W.nsIn K mainGlobals "NoText" = some (some (.ref C_NoText)))
    (xa_NoName : PySem.W.nsIn K mainGlobals "NoName" = some (some (.ref C_NoName)))
    (xa_NoSaying : PySem.W.nsIn K mainGlobals "NoSaying" = some (some (.ref C_NoSaying)))
    (ic_NoPrime : PySem.W.isClsIn K C_NoPrime = true)
    (it_NoPrime : PySem.W.typeIn K (.ref C_NoPrime) = some (.type "type"))
    (ic_NoMatch : PySem.W.isClsIn K C_NoMatch = true)
    (it_NoMatch : PySem.W.typeIn K (.ref C_NoMatch) = some (.type "type"))
    (ic_NoOver : PySem.W.isClsIn K C_NoOver = true)
    (it_NoOver : PySem.W.typeIn K (.ref C_NoOver) = some (.type "type"))
    (ic_NoRoot : PySem.W.isClsIn K C_NoRoot = true)
    (it_NoRoot : PySem.W.typeIn K (.ref C_NoRoot) = some (.type "type"))
    (ic_TooGreat : PySem.W.isClsIn K C_TooGreat = true)
    (it_TooGreat : PySem.W.typeIn K (.ref C_TooGreat) = some (.type "type"))
    (ic_NoRow : PySem.W.isClsIn K C_NoRow = true)
    (it_NoRow : PySem.W.typeIn K (.ref C_NoRow) = some (.type "type"))
    (ic_TooMany : PySem.W.isClsIn K C_TooMany = true)
    (it_TooMany : PySem.W.typeIn K (.ref C_TooMany) = some (.type "type"))
    (ic_NoText : PySem.W.isClsIn K C_NoText = true)
    (it_NoText : PySem.W.typeIn K (.ref C_NoText) = some (.type "type"))
    (ic_NoName : PySem.W.isClsIn K C_NoName = true)
    (it_NoName : PySem.W.typeIn K (.ref C_NoName) = some (.type "type"))
    (ic_NoSaying : PySem.W.isClsIn K C_NoSaying = true)
    (it_NoSaying : PySem.W.typeIn K (.ref C_NoSaying) = some (.type "type"))
    (ic_DigitError : PySem.W.isClsIn K C_DigitError = true)
    (it_DigitError : PySem.W.typeIn K (.ref C_DigitError) = some (.type "type"))
    (q1_NoRoot : PySem.W.subIn K (.ref C_DigitError) (.type "BaseException") = some true)
    (q2_NoRoot : PySem.W.hasDictIn K C_DigitError = true)
    (q5_NoRoot : PySem.W.subIn K (.ref C_NoRoot) (.type "ValueError") = some true)
    (g1_NoRoot : PySem.W.findIn K (.ref C_NoRoot) "__getattribute__" = some (some (.builtin "BaseException.__getattribute__")))
    (g2_NoRoot : PySem.W.findIn K (.ref C_NoRoot) "__getattr__" = some none)
    (g3_NoRoot : PySem.W.hasDictIn K C_NoRoot = true)
    (g4_NoRoot : PySem.W.findIn K (.ref C_NoRoot) "__class__" = some (some (.builtin "object.__class__")))
    (g5_NoRoot : PySem.W.specialIn K (.builtin "object.__class__") "__get__" = some (some (.builtin "getset_descriptor.__get__")))
    (g6_NoRoot : PySem.W.takesIn K (.builtin "object.__class__") = some true)
    (g7_NoRoot : PySem.W.mroIn K C_NoRoot (.type "object") = some true)
    (sb_NoRoot_NoPrime : PySem.W.subIn K (.ref C_NoRoot) (.ref C_NoPrime) = some false)
    (ne_NoRoot_NoPrime : C_NoRoot ≠ C_NoPrime)
    (sb_NoRoot_NoMatch : PySem.W.subIn K (.ref C_NoRoot) (.ref C_NoMatch) = some false)
    (ne_NoRoot_NoMatch : C_NoRoot ≠ C_NoMatch)
    (sb_NoRoot_NoOver : PySem.W.subIn K (.ref C_NoRoot) (.ref C_NoOver) = some false)
    (ne_NoRoot_NoOver : C_NoRoot ≠ C_NoOver)
    (sb_NoRoot_TooGreat : PySem.W.subIn K (.ref C_NoRoot) (.ref C_TooGreat) = some false)
    (ne_NoRoot_TooGreat : C_NoRoot ≠ C_TooGreat)
    (sb_NoRoot_NoRow : PySem.W.subIn K (.ref C_NoRoot) (.ref C_NoRow) = some false)
    (ne_NoRoot_NoRow : C_NoRoot ≠ C_NoRow)
    (sb_NoRoot_TooMany : PySem.W.subIn K (.ref C_NoRoot) (.ref C_TooMany) = some false)
    (ne_NoRoot_TooMany : C_NoRoot ≠ C_TooMany)
    (sb_NoRoot_NoText : PySem.W.subIn K (.ref C_NoRoot) (.ref C_NoText) = some false)
    (ne_NoRoot_NoText : C_NoRoot ≠ C_NoText)
    (sb_NoRoot_NoName : PySem.W.subIn K (.ref C_NoRoot) (.ref C_NoName) = some false)
    (ne_NoRoot_NoName : C_NoRoot ≠ C_NoName)
    (sb_NoRoot_NoSaying : PySem.W.subIn K (.ref C_NoRoot) (.ref C_NoSaying) = some false)
    (ne_NoRoot_NoSaying : C_NoRoot ≠ C_NoSaying)
    (sb_NoRoot_DigitError : PySem.W.subIn K (.ref C_NoRoot) (.ref C_DigitError) = some true)
    (ne_NoRoot_DigitError : C_NoRoot ≠ C_DigitError) :
    ∃ fd : FuncData, (∀ (s : Shared) (v : Value), BindsTo s fd ⟨[v], []⟩ [("_law_script", v)]) ∧ ∀ base : Heap, K.In base → base.Ns mainGlobals mg → FnOk l.prog w K mg base CX0 9 fa fd ["_law_script"] (spLaw K) := by
  have e := hfa.symm.trans (PySem.W.mg_of X G a25)
  cases e
  have c_PRIMES : Cn K mg "PRIMES" [.int 2, .int 3, .int 5] := ⟨a_PRIMES, PySem.W.mg_of X G ca_PRIMES, fun H => .inr ⟨_, _, _, cl_PRIMES, rfl, rfl, (by show 3 ≤ sizeLine; decide), .cons ⟨_, rfl⟩ (.cons ⟨_, rfl⟩ (.cons ⟨_, rfl⟩ (.nil)))⟩⟩
  have x_NoPrime : Xc K mg "NoPrime" C_NoPrime := ⟨PySem.W.mg_of X G xa_NoPrime, xk_NoPrime, xx_NoPrime, xs_NoPrime, xt_NoPrime⟩
  have x_NoRoot : Xc K mg "NoRoot" C_NoRoot := ⟨PySem.W.mg_of X G xa_NoRoot, xk_NoRoot, xx_NoRoot, xs_NoRoot, xt_NoRoot⟩
  have F0 := fun_mk (st := s_is_whole) l0 c0 k0
  have b0 := F0.binds (ps := ["thing"]) fun _ _ _ _ _ _ us hl => match us, hl with | [_], _ => rfl
  have F1 := fun_mk (st := s_is_prime) l1 c1 k1
  have b1 := F1.binds (ps := ["thing"]) fun _ _ _ _ _ _ us hl => match us, hl with | [_], _ => rfl
  have F2 := fun_mk (st := s_look_prime) l2 c2 k2
  have b2 := F2.binds (ps := ["p"]) fun _ _ _ _ _ _ us hl => match us, hl with | [_], _ => rfl
  have F3 := fun_mk (st := s_back_of) l3 c3 k3
  have b3 := F3.binds (ps := ["p", "number"]) fun _ _ _ _ _ _ us hl => match us, hl with | [_, _], _ => rfl
  have F4 := fun_mk (st := s_trimmed) l4 c4 k4
  have b4 := F4.binds (ps := ["numbers"]) fun _ _ _ _ _ _ us hl => match us, hl with | [_], _ => rfl
  have F5 := fun_mk (st := s_added) l5 c5 k5
  have b5 := F5.binds (ps := ["p", "one", "other", "often"]) fun _ _ _ _ _ _ us hl => match us, hl with | [_, _, _, _], _ => rfl
  have F6 := fun_mk (st := s_multiplied) l6 c6 k6
  have b6 := F6.binds (ps := ["p", "one", "other"]) fun _ _ _ _ _ _ us hl => match us, hl with | [_, _, _], _ => rfl
  have F7 := fun_mk (st := s_two_trimmed) l7 c7 k7
  have b7 := F7.binds (ps := ["polys"]) fun _ _ _ _ _ _ us hl => match us, hl with | [_], _ => rfl
  have F8 := fun_mk (st := s_corner) l8 c8 k8
  have b8 := F8.binds (ps := ["two"]) fun _ _ _ _ _ _ us hl => match us, hl with | [_], _ => rfl
  have F9 := fun_mk (st := s_twos_added) l9 c9 k9
  have b9 := F9.binds (ps := ["p", "one", "other", "often"]) fun _ _ _ _ _ _ us hl => match us, hl with | [_, _, _, _], _ => rfl
  have F10 := fun_mk (st := s_slope_of) l10 c10 k10
  have b10 := F10.binds (ps := ["p", "two"]) fun _ _ _ _ _ _ us hl => match us, hl with | [_, _], _ => rfl
  have F11 := fun_mk (st := s_shifted_by) l11 c11 k11
  have b11 := F11.binds (ps := ["p", "two", "c"]) fun _ _ _ _ _ _ us hl => match us, hl with | [_, _, _], _ => rfl
  have F12 := fun_mk (st := s_value_cut) l12 c12 k12
  have b12 := F12.binds (ps := ["p", "two", "poly", "many"]) fun _ _ _ _ _ _ us hl => match us, hl with | [_, _, _, _], _ => rfl
  have F13 := fun_mk (st := s_look_root) l13 c13 k13
  have b13 := F13.binds (ps := ["p", "equation", "b"]) fun _ _ _ _ _ _ us hl => match us, hl with | [_, _, _], _ => rfl
  have F14 := fun_mk (st := s_root_entries) l14 c14 k14
  have b14 := F14.binds (ps := ["p", "equation", "b", "many"]) fun _ _ _ _ _ _ us hl => match us, hl with | [_, _, _, _], _ => rfl
  have F15 := fun_mk (st := s__law_bag) l15 c15 k15
  have b15 := F15.binds (ps := ["_law_script", "_law_at"]) fun _ _ _ _ _ _ us hl => match us, hl with | [_, _], _ => rfl
  have F16 := fun_mk (st := s__law_draw) l16 c16 k16
  have b16 := F16.binds (ps := ["_law_bag_here", "_law_many"]) fun _ _ _ _ _ _ us hl => match us, hl with | [_, _], _ => rfl
  have F17 := fun_mk (st := s__law_prime) l17 c17 k17
  have b17 := F17.binds (ps := ["_law_bag_here"]) fun _ _ _ _ _ _ us hl => match us, hl with | [_], _ => rfl
  have F18 := fun_mk (st := s__law_trimmed) l18 c18 k18
  have b18 := F18.binds (ps := ["_law_numbers"]) fun _ _ _ _ _ _ us hl => match us, hl with | [_], _ => rfl
  have F19 := fun_mk (st := s__law_equation) l19 c19 k19
  have b19 := F19.binds (ps := ["_law_bag_here", "_law_p", "_law_high", "_law_wide", "_law_b"]) fun _ _ _ _ _ _ us hl => match us, hl with | [_, _, _, _, _], _ => rfl
  have F20 := fun_mk (st := s__law_at_nought) l20 c20 k20
  have b20 := F20.binds (ps := ["_law_p", "_law_equation_here", "_law_b"]) fun _ _ _ _ _ _ us hl => match us, hl with | [_, _, _], _ => rfl
  have F21 := fun_mk (st := s__law_value) l21 c21 k21
  have b21 := F21.binds (ps := ["_law_p", "_law_equation_here", "_law_numbers", "_law_many"]) fun _ _ _ _ _ _ us hl => match us, hl with | [_, _, _, _], _ => rfl
  have F22 := fun_mk (st := s__law_only) l22 c22 k22
  have b22 := F22.binds (ps := ["_law_e", "_law_due"]) fun _ _ _ _ _ _ us hl => match us, hl with | [_, _], _ => rfl
  have F23 := fun_mk (st := s__law_told) l23 c23 k23
  have b23 := F23.binds (ps := ["_law_p", "_law_equation_here", "_law_b", "_law_many"]) fun _ _ _ _ _ _ us hl => match us, hl with | [_, _, _, _], _ => rfl
  have F24 := fun_mk (st := s__law_right) l24 c24 k24
  have b24 := F24.binds (ps := ["_law_p", "_law_equation_here", "_law_b", "_law_many"]) fun _ _ _ _ _ _ us hl => match us, hl with | [_, _, _, _], _ => rfl
  have F25 := fun_mk (st := s_law) l25 c25 k25
  refine ⟨PySem.W.fnOf "law" "law" (defArgs s_law) (defBody s_law) (defScope s_law) .none kV25 dc25 pm25 an25 cd25 ct25, fun s v => .of_eq rfl, fun base _ _ => ?_⟩
  have XN_NoRoot : Xn K ⟨C_NoPrime, C_NoMatch, C_NoOver, C_NoRoot, C_TooGreat, [C_NoRow, C_TooMany, C_NoText, C_NoName, C_NoSaying], C_DigitError⟩ C_NoRoot C_DigitError 3 := ⟨PySem.W.exm_ref q1_NoRoot q2_NoRoot it_DigitError sb_NoRoot_DigitError, ⟨⟨g1_NoRoot, g2_NoRoot, xs_NoRoot, g3_NoRoot, g4_NoRoot, g5_NoRoot, g6_NoRoot, g7_NoRoot⟩, by decide, (kit_own ne_NoRoot_NoPrime ic_NoPrime it_NoPrime sb_NoRoot_NoPrime), (kit_own ne_NoRoot_NoMatch ic_NoMatch it_NoMatch sb_NoRoot_NoMatch), (kit_own ne_NoRoot_NoOver ic_NoOver it_NoOver sb_NoRoot_NoOver), kit_self, (kit_own ne_NoRoot_TooGreat ic_TooGreat it_TooGreat sb_NoRoot_TooGreat), kitAny_false (by simp only [List.map, List.mem_cons, List.not_mem_nil, or_false]; rintro d (rfl | rfl | rfl | rfl | rfl) <;> first | exact (kit_own ne_NoRoot_NoRow ic_NoRow it_NoRow sb_NoRoot_NoRow) | exact (kit_own ne_NoRoot_TooMany ic_TooMany it_TooMany sb_NoRoot_TooMany) | exact (kit_own ne_NoRoot_NoText ic_NoText it_NoText sb_NoRoot_NoText) | exact (kit_own ne_NoRoot_NoName ic_NoName it_NoName sb_NoRoot_NoName) | exact (kit_own ne_NoRoot_NoSaying ic_NoSaying it_NoSaying sb_NoRoot_NoSaying)), (kit_own ne_NoRoot_DigitError ic_DigitError it_DigitError sb_NoRoot_DigitError), kit_base q5_NoRoot (by decide +kernel)⟩, xk_NoRoot⟩
  have D_is_whole : Df l.prog w K mg base CX0 1 "is_whole" ["thing"] (sp_is_whole K) := ⟨f0, _, ok_is_whole F0 (PySem.W.mg_none_of X G n_isinstance) (PySem.W.mg_none_of X G n_int) (PySem.W.mg_none_of X G n_bool), PySem.W.mg_of X G a0, k0, b0⟩
  have D_is_prime : Df l.prog w K mg base CX0 2 "is_prime" ["thing"] (sp_is_prime K) := ⟨f1, _, ok_is_prime F1 D_is_whole c_PRIMES, PySem.W.mg_of X G a1, k1, b1⟩
  have D_look_prime : Df l.prog w K mg base (L2N.CX l.prog w) 3 "look_prime" ["p"] (sp_look_prime K C_NoPrime) := ⟨f2, _, ok_look_prime F2 D_is_prime x_NoPrime, PySem.W.mg_of X G a2, k2, b2⟩
  have D_back_of : Df l.prog w K mg base CX0 1 "back_of" ["p", "number"] (sp_back_of K) := ⟨f3, _, ok_back_of F3 (PySem.W.mg_none_of X G n_range), PySem.W.mg_of X G a3, k3, b3⟩
  have D_trimmed : Df l.prog w K mg base CX0 1 "trimmed" ["numbers"] (sp_trimmed K) := ⟨f4, _, ok_trimmed F4 (PySem.W.mg_none_of X G n_len) (PySem.W.mg_none_of X G n_tuple), PySem.W.mg_of X G a4, k4, b4⟩
  have D_added : Df l.prog w K mg base CX0 2 "added" ["p", "one", "other", "often"] (sp_added K) := ⟨f5, _, ok_added F5 (PySem.W.mg_none_of X G n_enumerate) D_trimmed (PySem.W.mg_none_of X G n_list) (PySem.W.mg_none_of X G n_len), PySem.W.mg_of X G a5, k5, b5⟩
  have D_multiplied : Df l.prog w K mg base CX0 2 "multiplied" ["p", "one", "other"] (sp_multiplied K) := ⟨f6, _, ok_multiplied F6 (PySem.W.mg_none_of X G n_enumerate) D_trimmed (PySem.W.mg_none_of X G n_len), PySem.W.mg_of X G a6, k6, b6⟩
  have D_two_trimmed : Df l.prog w K mg base CX0 1 "two_trimmed" ["polys"] (sp_two_trimmed K) := ⟨f7, _, ok_two_trimmed F7 (PySem.W.mg_none_of X G n_len) (PySem.W.mg_none_of X G n_tuple), PySem.W.mg_of X G a7, k7, b7⟩
  have D_corner : Df l.prog w K mg base CX0 1 "corner" ["two"] (sp_corner K) := ⟨f8, _, ok_corner F8, PySem.W.mg_of X G a8, k8, b8⟩
  have D_twos_added : Df l.prog w K mg base CX0 3 "twos_added" ["p", "one", "other", "often"] (sp_twos_added K) := ⟨f9, _, ok_twos_added F9 (PySem.W.mg_none_of X G n_enumerate) D_two_trimmed (PySem.W.mg_none_of X G n_list) D_added (PySem.W.mg_none_of X G n_len), PySem.W.mg_of X G a9, k9, b9⟩
  have D_slope_of : Df l.prog w K mg base CX0 4 "slope_of" ["p", "two"] (sp_slope_of K) := ⟨f10, _, ok_slope_of F10 D_two_trimmed D_added (PySem.W.mg_none_of X G n_enumerate), PySem.W.mg_of X G a10, k10, b10⟩
  have D_shifted_by : Df l.prog w K mg base CX0 4 "shifted_by" ["p", "two", "c"] (sp_shifted_by K) := ⟨f11, _, ok_shifted_by F11 D_two_trimmed D_twos_added, PySem.W.mg_of X G a11, k11, b11⟩
  have D_value_cut : Df l.prog w K mg base CX0 3 "value_cut" ["p", "two", "poly", "many"] (sp_value_cut K) := ⟨f12, _, ok_value_cut F12 D_trimmed D_added D_multiplied, PySem.W.mg_of X G a12, k12, b12⟩
  have D_look_root : Df l.prog w K mg base (L2N.CX l.prog w) 5 "look_root" ["p", "equation", "b"] (sp_look_root K C_NoPrime C_NoRoot) := ⟨f13, _, ok_look_root F13 D_look_prime D_shifted_by x_NoRoot D_corner D_slope_of, PySem.W.mg_of X G a13, k13, b13⟩
  have D_root_entries : Df l.prog w K mg base (L2N.CX l.prog w) 6 "root_entries" ["p", "equation", "b", "many"] (sp_root_entries K C_NoPrime C_NoRoot) := ⟨f14, _, ok_root_entries F14 D_look_root D_back_of D_corner (PySem.W.mg_none_of X G n_len) D_value_cut D_slope_of D_trimmed, PySem.W.mg_of X G a14, k14, b14⟩
  have D__law_bag : Df l.prog w K mg base CX0 1 "_law_bag" ["_law_script", "_law_at"] (sp__law_bag K) := ⟨f15, _, ok__law_bag F15 (PySem.W.mg_none_of X G n_len) (PySem.W.mg_none_of X G n_abs), PySem.W.mg_of X G a15, k15, b15⟩
  have D__law_draw : Df l.prog w K mg base CX0 1 "_law_draw" ["_law_bag_here", "_law_many"] (sp__law_draw K) := ⟨f16, _, ok__law_draw F16, PySem.W.mg_of X G a16, k16, b16⟩
  have D__law_prime : Df l.prog w K mg base CX0 2 "_law_prime" ["_law_bag_here"] (sp__law_prime K) := ⟨f17, _, ok__law_prime F17 D__law_draw, PySem.W.mg_of X G a17, k17, b17⟩
  have D__law_trimmed : Df l.prog w K mg base CX0 1 "_law_trimmed" ["_law_numbers"] (sp__law_trimmed K) := ⟨f18, _, ok__law_trimmed F18 (PySem.W.mg_none_of X G n_len) (PySem.W.mg_none_of X G n_tuple), PySem.W.mg_of X G a18, k18, b18⟩
  have D__law_equation : Df l.prog w K mg base CX0 2 "_law_equation" ["_law_bag_here", "_law_p", "_law_high", "_law_wide", "_law_b"] (sp__law_equation K) := ⟨f19, _, ok__law_equation F19 (PySem.W.mg_none_of X G n_tuple) D__law_trimmed D__law_draw (PySem.W.mg_none_of X G n_range), PySem.W.mg_of X G a19, k19, b19⟩
  have D__law_at_nought : Df l.prog w K mg base CX0 1 "_law_at_nought" ["_law_p", "_law_equation_here", "_law_b"] (sp__law_at_nought K) := ⟨f20, _, ok__law_at_nought F20 (PySem.W.mg_none_of X G n_sum), PySem.W.mg_of X G a20, k20, b20⟩
  have D__law_value : Df l.prog w K mg base CX0 1 "_law_value" ["_law_p", "_law_equation_here", "_law_numbers", "_law_many"] (sp__law_value K) := ⟨f21, _, ok__law_value F21 (PySem.W.mg_none_of X G n_range) (PySem.W.mg_none_of X G n_min) (PySem.W.mg_none_of X G n_len), PySem.W.mg_of X G a21, k21, b21⟩
  have E__law_only := ok__law_only (P := l.prog) (w := w) (mg := mg) (base := base) F22 (PySem.W.mg_none_of X G n_isinstance) (PySem.W.mg_of X G xa_NoPrime) (PySem.W.mg_of X G xa_NoMatch) (PySem.W.mg_of X G xa_NoOver) (PySem.W.mg_of X G xa_NoRoot) (PySem.W.mg_of X G xa_DigitError) (PySem.W.mg_none_of X G n_ValueError) (PySem.W.mg_of X G xa_TooGreat) (PySem.W.mg_of X G xa_NoRow) (PySem.W.mg_of X G xa_TooMany) (PySem.W.mg_of X G xa_NoText) (PySem.W.mg_of X G xa_NoName) (PySem.W.mg_of X G xa_NoSaying) (PySem.W.mg_none_of X G n_range)
  have eg__law_only := PySem.W.mg_of X G a22
  have D__law_told : Df l.prog w K mg base CX0 7 "_law_told" ["_law_p", "_law_equation_here", "_law_b", "_law_many"] (sp__law_told K) := ⟨f23, _, ok__law_told F23 D_root_entries XN_NoRoot E__law_only eg__law_only k22 b22 (PySem.W.mg_of X G xa_DigitError), PySem.W.mg_of X G a23, k23, b23⟩
  have D__law_right : Df l.prog w K mg base CX0 8 "_law_right" ["_law_p", "_law_equation_here", "_law_b", "_law_many"] (sp__law_right K) := ⟨f24, _, ok__law_right F24 D__law_told (PySem.W.mg_none_of X G n_any) (PySem.W.mg_none_of X G n_list) (PySem.W.mg_none_of X G n_all) D__law_value D__law_at_nought (PySem.W.mg_none_of X G n_isinstance) (PySem.W.mg_none_of X G n_len) D_root_entries (PySem.W.mg_none_of X G n_int) (PySem.W.mg_none_of X G n_bool), PySem.W.mg_of X G a24, k24, b24⟩
  exact ok_law F25 (PySem.W.mg_none_of X G n_range) (PySem.W.mg_none_of X G n_max) D__law_bag D__law_prime D__law_draw D__law_equation (PySem.W.mg_none_of X G n_min) (PySem.W.mg_none_of X G n_len) D__law_right
end Dg
open PySem PySem.W PyProof.Rows
set_option maxRecDepth 100000 in
set_option maxHeartbeats 0 in
theorem PySem.Challenge.cw_digitroots_k31_first_entries_of_roots_holds : PySem.Challenge.rw_digitroots_k31_first_entries_of_roots.Holds := by
  w_on; o_law; k_head; (case hw => w_witness2)
  k_fill
  refine L2.walk_of (l := PySem.Challenge.rw_digitroots_k31_first_entries_of_roots) (n := 63) (k := 9) (x := "_law_script") (CX := fun _ => L2.CX0) (sp := fun w => Dg.spLaw _) rfl (by decide) rfl ⟨rfl, by decide, by decide⟩ (fun w h Y => PySem.W.kIn_of Y) ?F (fun _ _ a ns hl _ hS => ⟨a, ns, rfl, hS, hl, fun _ => rfl⟩) (fun _ _ _ _ _ h => h)
  case F =>
    intro w mg fa h KX G hmg
    refine' Dg.all_mk KX G hmg ?a0 ?l0 ?c0 ?k0 ?a1 ?l1 ?c1 ?k1 ?a2 ?l2 ?c2 ?k2 ?a3 ?l3 ?c3 ?k3 ?a4 ?l4 ?c4 ?k4 ?a5 ?l5 ?c5 ?k5 ?a6 ?l6 ?c6 ?k6 ?a7 ?l7 ?c7 ?k7 ?a8 ?l8 ?c8 ?k8 ?a9 ?l9 ?c9 ?k9 ?a10 ?l10 ?c10 ?k10 ?a11 ?l11 ?c11 ?k11 ?a12 ?l12 ?c12 ?k12 ?a13 ?l13 ?c13 ?k13 ?a14 ?l14 ?c14 ?k14 ?a15 ?l15 ?c15 ?k15 ?a16 ?l16 ?c16 ?k16 ?a17 ?l17 ?c17 ?k17 ?a18 ?l18 ?c18 ?k18 ?a19 ?l19 ?c19 ?k19 ?a20 ?l20 ?c20 ?k20 ?a21 ?l21 ?c21 ?k21 ?a22 ?l22 ?c22 ?k22 ?a23 ?l23 ?c23 ?k23 ?a24 ?l24 ?c24 ?k24 ?a25 ?l25 ?c25 ?k25 ?n_isinstance ?n_int ?n_bool ?n_len ?n_enumerate ?n_range ?n_abs ?n_max ?n_min ?n_tuple ?n_list ?n_any ?n_all ?n_sum ?n_ValueError ?ca_PRIMES ?cl_PRIMES ?xa_DigitError ?xa_NoPrime ?xk_NoPrime ?xx_NoPrime ?xs_NoPrime ?xt_NoPrime ?xa_NoRoot ?xk_NoRoot ?xx_NoRoot ?xs_NoRoot ?xt_NoRoot ?xa_NoMatch ?xa_NoOver ?xa_TooGreat ?xa_NoRow ?xa_TooMany ?xa_NoText ?xa_NoName ?xa_NoSaying ?ic_NoPrime ?it_NoPrime ?ic_NoMatch ?it_NoMatch ?ic_NoOver ?it_NoOver ?ic_NoRoot ?it_NoRoot ?ic_TooGreat ?it_TooGreat ?ic_NoRow ?it_NoRow ?ic_TooMany ?it_TooMany ?ic_NoText ?it_NoText ?ic_NoName ?it_NoName ?ic_NoSaying ?it_NoSaying ?ic_DigitError ?it_DigitError ?q1_NoRoot ?q2_NoRoot ?q5_NoRoot ?g1_NoRoot ?g2_NoRoot ?g3_NoRoot ?g4_NoRoot ?g5_NoRoot ?g6_NoRoot ?g7_NoRoot ?sb_NoRoot_NoPrime ?ne_NoRoot_NoPrime ?sb_NoRoot_NoMatch ?ne_NoRoot_NoMatch ?sb_NoRoot_NoOver ?ne_NoRoot_NoOver ?sb_NoRoot_TooGreat ?ne_NoRoot_TooGreat ?sb_NoRoot_NoRow ?ne_NoRoot_NoRow ?sb_NoRoot_TooMany ?ne_NoRoot_TooMany ?sb_NoRoot_NoText ?ne_NoRoot_NoText ?sb_NoRoot_NoName ?ne_NoRoot_NoName ?sb_NoRoot_NoSaying ?ne_NoRoot_NoSaying ?sb_NoRoot_DigitError ?ne_NoRoot_DigitError
    (case a0 => k_is)
    (case l0 => k_is)
    (case c0 => k_is)
    (case k0 => k_is)
    (case a1 => k_is)
    (case l1 => k_is)
    (case c1 => k_is)
    (case k1 => k_is)
    (case a2 => k_is)
    (case l2 => k_is)
    (case c2 => k_is)
    (case k2 => k_is)
    (case a3 => k_is)
    (case l3 => k_is)
    (case c3 => k_is)
    (case k3 => k_is)
    (case a4 => k_is)
    (case l4 => k_is)
    (case c4 => k_is)
    (case k4 => k_is)
    (case a5 => k_is)
    (case l5 => k_is)
    (case c5 => k_is)
    (case k5 => k_is)
    (case a6 => k_is)
    (case l6 => k_is)
    (case c6 => k_is)
    (case k6 => k_is)
    (case a7 => k_is)
    (case l7 => k_is)
    (case c7 => k_is)
    (case k7 => k_is)
    (case a8 => k_is)
    (case l8 => k_is)
    (case c8 => k_is)
    (case k8 => k_is)
    (case a9 => k_is)
    (case l9 => k_is)
    (case c9 => k_is)
    (case k9 => k_is)
    (case a10 => k_is)
    (case l10 => k_is)
    (case c10 => k_is)
    (case k10 => k_is)
    (case a11 => k_is)
    (case l11 => k_is)
    (case c11 => k_is)
    (case k11 => k_is)
    (case a12 => k_is)
    (case l12 => k_is)
    (case c12 => k_is)
    (case k12 => k_is)
    (case a13 => k_is)
    (case l13 => k_is)
    (case c13 => k_is)
    (case k13 => k_is)
    (case a14 => k_is)
    (case l14 => k_is)
    (case c14 => k_is)
    (case k14 => k_is)
    (case a15 => k_is)
    (case l15 => k_is)
    (case c15 => k_is)
    (case k15 => k_is)
    (case a16 => k_is)
    (case l16 => k_is)
    (case c16 => k_is)
    (case k16 => k_is)
    (case a17 => k_is)
    (case l17 => k_is)
    (case c17 => k_is)
    (case k17 => k_is)
    (case a18 => k_is)
    (case l18 => k_is)
    (case c18 => k_is)
    (case k18 => k_is)
    (case a19 => k_is)
    (case l19 => k_is)
    (case c19 => k_is)
    (case k19 => k_is)
    (case a20 => k_is)
    (case l20 => k_is)
    (case c20 => k_is)
    (case k20 => k_is)
    (case a21 => k_is)
    (case l21 => k_is)
    (case c21 => k_is)
    (case k21 => k_is)
    (case a22 => k_is)
    (case l22 => k_is)
    (case c22 => k_is)
    (case k22 => k_is)
    (case a23 => k_is)
    (case l23 => k_is)
    (case c23 => k_is)
    (case k23 => k_is)
    (case a24 => k_is)
    (case l24 => k_is)
    (case c24 => k_is)
    (case k24 => k_is)
    (case a25 => k_is)
    (case l25 => k_is)
    (case c25 => k_is)
    (case k25 => k_is)
    (case n_isinstance => k_is)
    (case n_int => k_is)
    (case n_bool => k_is)
    (case n_len => k_is)
    (case n_enumerate => k_is)
    (case n_range => k_is)
    (case n_abs => k_is)
    (case n_max => k_is)
    (case n_min => k_is)
    (case n_tuple => k_is)
    (case n_list => k_is)
    (case n_any => k_is)
    (case n_all => k_is)
    (case n_sum => k_is)
    (case n_ValueError => k_is)
    (case ca_PRIMES => k_is)
    (case cl_PRIMES => k_is)
    (case xa_DigitError => k_is)
    (case xa_NoPrime => k_is)
    (case xk_NoPrime => k_is)
    (case xx_NoPrime => k_exc)
    (case xs_NoPrime => k_is)
    (case xt_NoPrime => k_is)
    (case xa_NoRoot => k_is)
    (case xk_NoRoot => k_is)
    (case xx_NoRoot => k_exc)
    (case xs_NoRoot => k_is)
    (case xt_NoRoot => k_is)
    (case xa_NoMatch => k_is)
    (case xa_NoOver => k_is)
    (case xa_TooGreat => k_is)
    (case xa_NoRow => k_is)
    (case xa_TooMany => k_is)
    (case xa_NoText => k_is)
    (case xa_NoName => k_is)
    (case xa_NoSaying => k_is)
    (case ic_NoPrime => k_is)
    (case it_NoPrime => k_is)
    (case ic_NoMatch => k_is)
    (case it_NoMatch => k_is)
    (case ic_NoOver => k_is)
    (case it_NoOver => k_is)
    (case ic_NoRoot => k_is)
    (case it_NoRoot => k_is)
    (case ic_TooGreat => k_is)
    (case it_TooGreat => k_is)
    (case ic_NoRow => k_is)
    (case it_NoRow => k_is)
    (case ic_TooMany => k_is)
    (case it_TooMany => k_is)
    (case ic_NoText => k_is)
    (case it_NoText => k_is)
    (case ic_NoName => k_is)
    (case it_NoName => k_is)
    (case ic_NoSaying => k_is)
    (case it_NoSaying => k_is)
    (case ic_DigitError => k_is)
    (case it_DigitError => k_is)
    (case q1_NoRoot => k_is)
    (case q2_NoRoot => k_is)
    (case q5_NoRoot => k_is)
    (case g1_NoRoot => k_is)
    (case g2_NoRoot => k_is)
    (case g3_NoRoot => k_is)
    (case g4_NoRoot => k_is)
    (case g5_NoRoot => k_is)
    (case g6_NoRoot => k_is)
    (case g7_NoRoot => k_is)
    (case sb_NoRoot_NoPrime => k_is)
    (case ne_NoRoot_NoPrime => (first | decide | k_is))
    (case sb_NoRoot_NoMatch => k_is)
    (case ne_NoRoot_NoMatch => (first | decide | k_is))
    (case sb_NoRoot_NoOver => k_is)
    (case ne_NoRoot_NoOver => (first | decide | k_is))
    (case sb_NoRoot_TooGreat => k_is)
    (case ne_NoRoot_TooGreat => (first | decide | k_is))
    (case sb_NoRoot_NoRow => k_is)
    (case ne_NoRoot_NoRow => (first | decide | k_is))
    (case sb_NoRoot_TooMany => k_is)
    (case ne_NoRoot_TooMany => (first | decide | k_is))
    (case sb_NoRoot_NoText => k_is)
    (case ne_NoRoot_NoText => (first | decide | k_is))
    (case sb_NoRoot_NoName => k_is)
    (case ne_NoRoot_NoName => (first | decide | k_is))
    (case sb_NoRoot_NoSaying => k_is)
    (case ne_NoRoot_NoSaying => (first | decide | k_is))
    (case sb_NoRoot_DigitError => k_is)
    (case ne_NoRoot_DigitError => (first | decide | k_is))


