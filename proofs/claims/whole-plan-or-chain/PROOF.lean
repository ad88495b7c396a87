import PyProof.Rows.All
import Wide.All
import OpenK.AllK
import Wide.FinOn
import HandS.ForMost
import HandS.Evl
import HandS.Walk
import HandS.Zip
import HandS.Rev
import HandS.TupAny
import HandS.TupLe
import HandS.More
import HandS.Sort
import HandS.SortRule
import HandS.SortInts
import HandS.Exc
import PyProof.ListRange
import PyProof.ListNew
import KE.SortCalls
import PySem.Challenge.RW_pocketmill_k26_whole_plan_or_chain
section
set_option Elab.async false
set_option linter.all false
set_option maxRecDepth 100000
set_option maxHeartbeats 2000000
/-! Own framework over the layer: a knowledge heap F below the real heap H; typed representations; an expression evaluates to what represents a datum. -/
namespace PM
open PySem PySem.Spec PyProof.Rows L2

/-! ### lists side by side -/
inductive All2 {α β : Type} (P : α → β → Prop) : List α → List β → Prop
  | nil : All2 P [] []
  | cons {a b as bs} : P a b → All2 P as bs → All2 P (a :: as) (b :: bs)
namespace All2
variable {α β γ : Type} {P Q : α → β → Prop}
theorem mono (h : ∀ a b, P a b → Q a b) : ∀ {as bs}, All2 P as bs → All2 Q as bs
  | _, _, .nil => .nil
  | _, _, .cons x r => .cons (h _ _ x) (mono h r)
theorem length : ∀ {as bs}, All2 P as bs → as.length = bs.length
  | _, _, .nil => rfl
  | _, _, .cons _ r => congrArg (· + 1) (length r)
theorem get : ∀ {as bs} {i : Nat} {a b}, All2 P as bs → as[i]? = some a → bs[i]? = some b → P a b
  | _, _, _, _, _, .nil, h, _ => by simp at h
  | _, _, 0, _, _, .cons x _, h, k => by simp at h k; subst h; subst k; exact x
  | _, _, i + 1, _, _, .cons _ r, h, k => get (i := i) r (by simpa using h) (by simpa using k)
theorem getR : ∀ {as bs} {i : Nat} {b}, All2 P as bs → bs[i]? = some b → ∃ a, as[i]? = some a ∧ P a b
  | _, _, _, _, .nil, h => by simp at h
  | _, _, 0, _, .cons x _, h => by simp at h; subst h; exact ⟨_, rfl, x⟩
  | _, _, i + 1, _, .cons _ r, h => by
    obtain ⟨a, h1, h2⟩ := getR (i := i) r (by simpa using h)
    exact ⟨a, by simpa using h1, h2⟩
theorem getL : ∀ {as bs} {i : Nat} {a}, All2 P as bs → as[i]? = some a → ∃ b, bs[i]? = some b ∧ P a b
  | _, _, _, _, .nil, h => by simp at h
  | _, _, 0, _, .cons x _, h => by simp at h; subst h; exact ⟨_, rfl, x⟩
  | _, _, i + 1, _, .cons _ r, h => by
    obtain ⟨a, h1, h2⟩ := getL (i := i) r (by simpa using h)
    exact ⟨a, by simpa using h1, h2⟩
theorem append : ∀ {as bs cs ds}, All2 P as bs → All2 P cs ds → All2 P (as ++ cs) (bs ++ ds)
  | _, _, _, _, .nil, s => s
  | _, _, _, _, .cons x r, s => .cons x (append r s)
theorem one {a b} (h : P a b) : All2 P [a] [b] := .cons h .nil
theorem snoc {as bs a b} (r : All2 P as bs) (h : P a b) : All2 P (as ++ [a]) (bs ++ [b]) := r.append (one h)
theorem take : ∀ {as bs} (n : Nat), All2 P as bs → All2 P (as.take n) (bs.take n)
  | _, _, 0, _ => .nil
  | _, _, _ + 1, .nil => .nil
  | _, _, n + 1, .cons x r => .cons x (take n r)
theorem drop : ∀ {as bs} (n : Nat), All2 P as bs → All2 P (as.drop n) (bs.drop n)
  | _, _, 0, r => r
  | _, _, _ + 1, .nil => .nil
  | _, _, n + 1, .cons _ r => drop n r
theorem reverse {as bs} (h : All2 P as bs) : All2 P as.reverse bs.reverse := by
  induction h with
  | nil => exact .nil
  | cons x r ih => rw [List.reverse_cons, List.reverse_cons]; exact ih.snoc x
theorem set : ∀ {as bs a b} (i : Nat), All2 P as bs → P a b → All2 P (as.set i a) (bs.set i b)
  | _, _, _, _, _, .nil, _ => .nil
  | _, _, _, _, 0, .cons _ r, h => .cons h r
  | _, _, _, _, i + 1, .cons x r, h => .cons x (set i r h)
theorem replicate {a b} (h : P a b) : ∀ n : Nat, All2 P (List.replicate n a) (List.replicate n b)
  | 0 => .nil
  | n + 1 => .cons h (replicate h n)
theorem nilR {as} (h : All2 P as []) : as = [] := by cases h; rfl
theorem consR {as b bs} (h : All2 P as (b :: bs)) : ∃ a r, as = a :: r ∧ P a b ∧ All2 P r bs := by cases h with | cons x r => exact ⟨_, _, rfl, x, r⟩
theorem map {f : γ → β} {g : γ → α} (h : ∀ c, P (g c) (f c)) : ∀ cs : List γ, All2 P (cs.map g) (cs.map f)
  | [] => .nil
  | c :: r => .cons (h c) (map h r)
theorem insert {as bs a b} (n : Nat) (r : All2 P as bs) (h : P a b) : All2 P (as.take n ++ [a] ++ as.drop n) (bs.take n ++ [b] ++ bs.drop n) :=
  ((r.take n).snoc h).append (r.drop n)
end All2

/-! ### knowledge -/
theorem _root_.L2.Same.new {H : Hp} {p : Addr} {o : HO} (h : H p = none) : Same H (upd H p o) := fun a u e => by
  rw [upd_ne (ne_of_none e h)]
  exact e
theorem _root_.L2.Same.put {F H : Hp} {p : Addr} {o : HO} (e : Same F H) (h : F p = none) : Same F (upd H p o) := fun a u q => by
  rw [upd_ne (ne_of_none q h)]
  exact e a u q
/-- knowledge F of the heap H has become F' of H' : all stands, and what is newly known is new -/
structure Up (F H F' H' : Hp) : Prop where
  f : Same F F'
  h : Same H H'
  s : Same F' H'
  n : ∀ a, F a = none → H a ≠ none → F' a = none
theorem ne_none_of {H H' : Hp} {a : Addr} (e : Same H H') (h : H a ≠ none) : H' a ≠ none := by
  cases q : H a with
  | none => exact absurd q h
  | some o => rw [e a o q]; simp
theorem Up.refl {F H : Hp} (e : Same F H) : Up F H F H := ⟨Same.refl _, Same.refl _, e, fun _ h _ => h⟩
theorem Up.real {F H H' : Hp} (e : Same F H) (h : Same H H') : Up F H F H' := ⟨Same.refl _, h, e.trans h, fun _ h _ => h⟩
theorem Up.trans {F H F1 H1 F2 H2 : Hp} (u : Up F H F1 H1) (v : Up F1 H1 F2 H2) : Up F H F2 H2 :=
  ⟨u.f.trans v.f, u.h.trans v.h, v.s, fun a h k => v.n a (u.n a h k) (ne_none_of u.h k)⟩
/-- a new object, known -/
theorem Up.new {F H : Hp} {p : Addr} {o : HO} (e : Same F H) (h : H p = none) : Up F H (upd F p o) (upd H p o) := by
  have hf : F p = none := e.free h
  refine ⟨Same.new hf, Same.new h, fun a u q => ?_, fun a q k => ?_⟩
  · by_cases z : a = p
    · subst z; rw [upd_same] at q ⊢; exact q
    · rw [upd_ne z] at q ⊢; exact e a u q
  · rw [upd_ne (fun z => k (by rw [z]; exact h))]; exact q
/-- a new object, not known -/
theorem Up.newM {F H : Hp} {p : Addr} {o : HO} (e : Same F H) (h : H p = none) : Up F H F (upd H p o) := Up.real e (Same.new h)
def uni (F G : Hp) : Hp := fun a => match F a with
  | some o => some o
  | none => G a
theorem uni_l (F G : Hp) : Same F (uni F G) := fun a o e => by unfold uni; rw [e]
theorem uni_none {F G : Hp} {a : Addr} (h : F a = none) (k : G a = none) : uni F G a = none := by unfold uni; rw [h]; exact k
theorem uni_s {F G H : Hp} (f : Same F H) (g : Same G H) : Same (uni F G) H := fun a o e => by
  unfold uni at e
  cases q : F a with
  | some u => rw [q] at e; rw [f a u q]; exact e
  | none => rw [q] at e; exact g a o e
theorem uni_r {F G H : Hp} (f : Same F H) (g : Same G H) : Same G (uni F G) := fun a o e => by
  unfold uni
  cases q : F a with
  | some u =>
    have h1 := f a u q
    have h2 := g a o e
    rw [h1] at h2
    exact h2
  | none => exact e
theorem Up.uni {F H F1 H1 F2 H2 : Hp} (u : Up F H F1 H1) (v : Up F H1 F2 H2) : Up F H (uni F1 F2) H2 :=
  ⟨u.f.trans (uni_l _ _), u.h.trans v.h, uni_s (u.s.trans v.h) v.s, fun a h k => uni_none (u.n a h k) (v.n a h (ne_none_of u.h k))⟩
theorem Up.uniL {F H F1 H1 F2 H2 : Hp} (u : Up F H F1 H1) (v : Up F H1 F2 H2) : Same F1 (PM.uni F1 F2) := uni_l _ _
theorem Up.uniR {F H F1 H1 F2 H2 : Hp} (u : Up F H F1 H1) (v : Up F H1 F2 H2) : Same F2 (PM.uni F1 F2) := uni_r (u.s.trans v.h) v.s
/-- what was known more, kept -/
theorem Up.more {F G H F' H' : Hp} (u : Up F H F' H') (fg : Same F G) (g : Same G H) : Up G H (PM.uni G F') H' :=
  ⟨uni_l _ _, u.h, uni_s (g.trans u.h) u.s, fun a h k => uni_none h (u.n a (fg.free h) k)⟩

/-! ### what represents what -/
structure Rep (α : Type) where
  r : Hp → V → α → Prop
  mono : ∀ {F F' : Hp} {v : V} {x : α}, Same F F' → r F v x → r F' v x

section
variable {α β γ : Type}
def rV : Rep V := ⟨fun _ v x => v = x, fun _ h => h⟩
def rInt : Rep Int := ⟨fun _ v x => v = .int x, fun _ h => h⟩
def rNat : Rep Nat := ⟨fun _ v x => v = .int (x : Int), fun _ h => h⟩
def rBl : Rep Bool := ⟨fun _ v x => v = .bl x, fun _ h => h⟩
def rStr : Rep Str := ⟨fun _ v x => v = .str x, fun _ h => h⟩
def rNon : Rep Unit := ⟨fun _ v _ => v = .non, fun _ h => h⟩
def rOpt (R : Rep α) : Rep (Option α) := ⟨fun F v x => match x with
  | none => v = .non
  | some y => R.r F v y ∧ v ≠ .non, fun {F F' v x} e h => by
    cases x with
    | none => exact h
    | some y => exact ⟨R.mono e h.1, h.2⟩⟩
theorem All2.up {R : Rep α} {F F' : Hp} {vs : List V} {xs : List α} (e : Same F F') (h : All2 (R.r F) vs xs) : All2 (R.r F') vs xs := h.mono fun _ _ q => R.mono e q
def rLst (R : Rep α) : Rep (List α) := ⟨fun F v xs => ∃ a vs, v = .ref a ∧ F a = some (.lst vs) ∧ All2 (R.r F) vs xs, fun e h => by
  obtain ⟨a, vs, h1, h2, h3⟩ := h
  exact ⟨a, vs, h1, e _ _ h2, h3.up e⟩⟩
def rTupL (R : Rep α) : Rep (List α) := ⟨fun F v xs => ∃ a vs, v = .ref a ∧ F a = some (.tup vs) ∧ All2 (R.r F) vs xs, fun e h => by
  obtain ⟨a, vs, h1, h2, h3⟩ := h
  exact ⟨a, vs, h1, e _ _ h2, h3.up e⟩⟩
def rTup2 (R : Rep α) (S : Rep β) : Rep (α × β) := ⟨fun F v p => ∃ a x y, v = .ref a ∧ F a = some (.tup [x, y]) ∧ R.r F x p.1 ∧ S.r F y p.2, fun e h => by
  obtain ⟨a, x, y, h1, h2, h3, h4⟩ := h
  exact ⟨a, x, y, h1, e _ _ h2, R.mono e h3, S.mono e h4⟩⟩
/-- some datum of which φ holds -/
def rEx (R : Rep α) (φ : α → Prop) : Rep Unit := ⟨fun F v _ => ∃ x, R.r F v x ∧ φ x, fun e h => by
  obtain ⟨x, h1, h2⟩ := h
  exact ⟨x, R.mono e h1, h2⟩⟩
theorem rInt_not {F : Hp} {v : V} {x : Int} (h : rInt.r F v x) : v ≠ .non := by
  have h' : v = .int x := h
  rw [h']; exact fun e => nomatch e
theorem rNat_not {F : Hp} {v : V} {x : Nat} (h : rNat.r F v x) : v ≠ .non := by
  have h' : v = .int (x : Int) := h
  rw [h']; exact fun e => nomatch e
theorem rTup2_not {R : Rep α} {S : Rep β} {F : Hp} {v : V} {x : α × β} (h : (rTup2 R S).r F v x) : v ≠ .non := by
  obtain ⟨a, _, _, h, _⟩ := h
  rw [h]; exact fun e => nomatch e
theorem rTupL_not {R : Rep α} {F : Hp} {v : V} {x : List α} (h : (rTupL R).r F v x) : v ≠ .non := by
  obtain ⟨a, _, h, _⟩ := h
  rw [h]; exact fun e => nomatch e
theorem rLst_not {R : Rep α} {F : Hp} {v : V} {x : List α} (h : (rLst R).r F v x) : v ≠ .non := by
  obtain ⟨a, _, h, _⟩ := h
  rw [h]; exact fun e => nomatch e

/-! ### expressions -/
def Ev (te : TE) (σ : L2.St) (F H : Hp) (R : Rep α) (x : α) : Prop := ∀ H1, Same F H1 → Same H H1 → ∀ Q : VK, (∀ v F' H', Up F H1 F' H' → R.r F' v x → Q v H') → te σ H1 Q
def EvB (t : TT) (σ : L2.St) (F H : Hp) (b : Bool) : Prop := ∀ H1, Same F H1 → Same H H1 → ∀ Q : Bool → Hp → Prop, (∀ H', Same H1 H' → Q b H') → t σ H1 Q
/-- what holds of an argument list -/
structure Ap where
  p : Hp → List V → Prop
  mono : ∀ {F F' : Hp} {vs : List V}, Same F F' → p F vs → p F' vs
def EvA (ta : TA) (σ : L2.St) (F H : Hp) (A : Ap) : Prop := ∀ H1, Same F H1 → Same H H1 → ∀ Q : List V → Hp → Prop, (∀ vs F' H', Up F H1 F' H' → A.p F' vs → Q vs H') → ta σ H1 Q
def EvO (to : TO) (σ : L2.St) (F H : Hp) (o : Option Int) : Prop := ∀ H1, Same F H1 → Same H H1 → ∀ Q : Option Int → Hp → Prop, (∀ H', Same H1 H' → Q o H') → to σ H1 Q

variable {K : PySem.W.Frag} {σ : L2.St} {F H : Hp} {te ta tb tc : TE} {t u : TT} {R : Rep α} {S : Rep β} {T : Rep γ} {x : α} {y : β} {z : γ} {v w : V}

theorem Ev.mono {F' H' : Hp} (e : Same F F') (k : Same H H') (h : Ev te σ F H R x) : Ev te σ F' H' R x := fun H1 a b Q q =>
  h H1 (e.trans a) (k.trans b) Q fun v F2 H2 up hr => q v _ H2 (up.more e a) (R.mono (uni_r (a.trans up.h) up.s) hr)
theorem EvB.mono {F' H' : Hp} {b : Bool} (e : Same F F') (k : Same H H') (h : EvB t σ F H b) : EvB t σ F' H' b := fun H1 a c Q q => h H1 (e.trans a) (k.trans c) Q q
theorem Ev.up {F' H' : Hp} (h : Ev te σ F H R x) (u : Up F H F' H') : Ev te σ F' H' R x := h.mono u.f u.h
theorem Ev.is {x' : α} (h : Ev te σ F H R x) (e : x = x') : Ev te σ F H R x' := e ▸ h
theorem EvB.is {b b' : Bool} (h : EvB t σ F H b) (e : b = b') : EvB t σ F H b' := e ▸ h
/-- read the same value otherwise -/
theorem Ev.as (h : Ev te σ F H R x) (k : ∀ F v, R.r F v x → S.r F v y) : Ev te σ F H S y := fun H1 a b Q q => h H1 a b Q fun v F' H' u hr => q v F' H' u (k F' v hr)
theorem ev_var {i : Nat} (h : σ[i]? = some (some v)) (hr : R.r F v x) : Ev (tVar i) σ F H R x := fun H1 a _ _ q => ⟨v, h, q v F H1 (Up.refl a) hr⟩
theorem ev_varU {i : Nat} {F0 : Hp} (h : σ[i]? = some (some v)) (e : Same F0 F) (hr : R.r F0 v x) : Ev (tVar i) σ F H R x := ev_var h (R.mono e hr)
theorem ev_c (hr : R.r F v x) : Ev (tC v) σ F H R x := fun H1 a _ _ q => q v F H1 (Up.refl a) hr
theorem ev_int {i : Int} : Ev (tC (.int i)) σ F H rInt i := ev_c rfl
theorem ev_nat {i : Nat} : Ev (tC (.int (i : Int))) σ F H rNat i := ev_c rfl
theorem ev_str {s : Str} : Ev (tC (.str s)) σ F H rStr s := ev_c rfl
theorem ev_bl {b : Bool} : Ev (tC (.bl b)) σ F H rBl b := ev_c rfl
theorem ev_non : Ev (tC .non) σ F H (rOpt R) none := ev_c rfl
theorem ev_nonU : Ev (tC .non) σ F H rNon () := ev_c rfl
theorem Ev.some (h : Ev te σ F H R x) (k : ∀ F v, R.r F v x → v ≠ .non) : Ev te σ F H (rOpt R) (some x) := h.as fun F v q => ⟨q, k F v q⟩
theorem Ev.ofNat {n : Nat} (h : Ev te σ F H rNat n) : Ev te σ F H rInt (n : Int) := h.as fun _ _ q => q
theorem Ev.toNat {n : Nat} {i : Int} (h : Ev te σ F H rInt i) (e : i = (n : Int)) : Ev te σ F H rNat n := by subst e; exact h.as fun _ _ q => q

/-- two operands, one after the other -/
theorem ev_two {r : R2} (ha : Ev ta σ F H R x) (hb : Ev tb σ F H S y) (hr : ∀ F1 H1 a b, Same F F1 → Same F1 H1 → Same H H1 → R.r F1 a x → S.r F1 b y → ∀ Q : VK, (∀ v F' H', Up F1 H1 F' H' → T.r F' v z → Q v H') → r a b H1 Q) : Ev (tOp r ta tb) σ F H T z := fun H1 a b Q q =>
  ha H1 a b _ fun v F2 H2 u2 r2 => hb H2 (a.trans u2.h) (b.trans u2.h) _ fun w F3 H3 u3 r3 =>
    hr (uni F2 F3) H3 v w (u2.f.trans (uni_l _ _)) (uni_s (u2.s.trans u3.h) u3.s) (b.trans (u2.h.trans u3.h)) (R.mono (u2.uniL u3) r2) (S.mono (u2.uniR u3) r3) Q fun x F4 H4 u4 r4 => q x F4 H4 ((u2.uni u3).trans u4) r4
theorem ev_I0 {g : Int → Int → V} {i j : Int} {k : γ} (ha : Ev ta σ F H rInt i) (hb : Ev tb σ F H rInt j) (hg : ∀ F, T.r F (g i j) k) : Ev (tOp (rI0 g) ta tb) σ F H T k :=
  ev_two ha hb fun F1 H1 a b _ e1 _ ra rb Q q => ⟨i, j, ra, rb, q _ F1 H1 (Up.refl e1) (hg F1)⟩
theorem ev_I {C : Int → Int → Prop} {g : Int → Int → V} {i j : Int} {k : γ} (ha : Ev ta σ F H rInt i) (hb : Ev tb σ F H rInt j) (hc : C i j) (hg : ∀ F, T.r F (g i j) k) : Ev (tOp (rI C g) ta tb) σ F H T k :=
  ev_two ha hb fun F1 H1 a b _ e1 _ ra rb Q q => ⟨i, j, ra, rb, hc, q _ F1 H1 (Up.refl e1) (hg F1)⟩
theorem ev_add {i j : Int} (ha : Ev ta σ F H rInt i) (hb : Ev tb σ F H rInt j) : Ev (tOp (rI0 fun i j => .int (i + j)) ta tb) σ F H rInt (i + j) := ev_I0 ha hb fun _ => rfl
theorem ev_sub {i j : Int} (ha : Ev ta σ F H rInt i) (hb : Ev tb σ F H rInt j) : Ev (tOp (rI0 fun i j => .int (i - j)) ta tb) σ F H rInt (i - j) := ev_I0 ha hb fun _ => rfl
theorem ev_mul {i j : Int} (ha : Ev ta σ F H rInt i) (hb : Ev tb σ F H rInt j) (h : CMul i j) : Ev (tOp (rI CMul fun i j => .int (i * j)) ta tb) σ F H rInt (i * j) := ev_I ha hb h fun _ => rfl
theorem ev_mod {i j : Int} (ha : Ev ta σ F H rInt i) (hb : Ev tb σ F H rInt j) (h : 0 < j) : Ev (tOp (rI (fun _ j => 0 < j) fun i j => .int (i % j)) ta tb) σ F H rInt (i % j) := ev_I ha hb h fun _ => rfl
theorem ev_fdiv {i j : Int} (ha : Ev ta σ F H rInt i) (hb : Ev tb σ F H rInt j) (h : CDiv i j) : Ev (tOp (rI CDiv fun i j => .int (i / j)) ta tb) σ F H rInt (i / j) := ev_I ha hb h fun _ => rfl
theorem ev_lt {i j : Int} (ha : Ev ta σ F H rInt i) (hb : Ev tb σ F H rInt j) : Ev (tOp (rI0 fun i j => .bl (decide (i < j))) ta tb) σ F H rBl (decide (i < j)) := ev_I0 ha hb fun _ => rfl
theorem ev_le {i j : Int} (ha : Ev ta σ F H rInt i) (hb : Ev tb σ F H rInt j) : Ev (tOp (rI0 fun i j => .bl (decide (i ≤ j))) ta tb) σ F H rBl (decide (i ≤ j)) := ev_I0 ha hb fun _ => rfl
theorem ev_gt {i j : Int} (ha : Ev ta σ F H rInt i) (hb : Ev tb σ F H rInt j) : Ev (tOp (rI0 fun i j => .bl (decide (j < i))) ta tb) σ F H rBl (decide (j < i)) := ev_I0 ha hb fun _ => rfl
theorem ev_ge {i j : Int} (ha : Ev ta σ F H rInt i) (hb : Ev tb σ F H rInt j) : Ev (tOp (rI0 fun i j => .bl (decide (j ≤ i))) ta tb) σ F H rBl (decide (j ≤ i)) := ev_I0 ha hb fun _ => rfl
theorem ev_eqV (ha : Ev ta σ F H rV v) (hb : Ev tb σ F H rV w) (hs : scal v w = true) : Ev (tOp rEq ta tb) σ F H rBl (decide (v = w)) :=
  ev_two ha hb fun F1 H1 a b _ e1 _ ra rb Q q => by
    have ra' : a = v := ra
    have rb' : b = w := rb
    subst ra'; subst rb'
    exact ⟨hs, q _ F1 H1 (Up.refl e1) rfl⟩
theorem ev_neV (ha : Ev ta σ F H rV v) (hb : Ev tb σ F H rV w) (hs : scal v w = true) : Ev (tOp rNe ta tb) σ F H rBl (!decide (v = w)) :=
  ev_two ha hb fun F1 H1 a b _ e1 _ ra rb Q q => by
    have ra' : a = v := ra
    have rb' : b = w := rb
    subst ra'; subst rb'
    exact ⟨hs, q _ F1 H1 (Up.refl e1) rfl⟩
theorem ev_eqI {i j : Int} (ha : Ev ta σ F H rInt i) (hb : Ev tb σ F H rInt j) : Ev (tOp rEq ta tb) σ F H rBl (decide (i = j)) :=
  (ev_eqV (v := .int i) (w := .int j) (ha.as fun _ _ q => q) (hb.as fun _ _ q => q) rfl).is (by simp)
theorem ev_neI {i j : Int} (ha : Ev ta σ F H rInt i) (hb : Ev tb σ F H rInt j) : Ev (tOp rNe ta tb) σ F H rBl (!decide (i = j)) :=
  (ev_neV (v := .int i) (w := .int j) (ha.as fun _ _ q => q) (hb.as fun _ _ q => q) rfl).is (by simp)
theorem ev_eqS {i j : Str} (ha : Ev ta σ F H rStr i) (hb : Ev tb σ F H rStr j) : Ev (tOp rEq ta tb) σ F H rBl (decide (i = j)) :=
  (ev_eqV (v := .str i) (w := .str j) (ha.as fun _ _ q => q) (hb.as fun _ _ q => q) rfl).is (by simp)
theorem ev_neS {i j : Str} (ha : Ev ta σ F H rStr i) (hb : Ev tb σ F H rStr j) : Ev (tOp rNe ta tb) σ F H rBl (!decide (i = j)) :=
  (ev_neV (v := .str i) (w := .str j) (ha.as fun _ _ q => q) (hb.as fun _ _ q => q) rfl).is (by simp)
/-- is None, is not None -/
theorem ev_isN {o : Option α} (ha : Ev ta σ F H (rOpt R) o) : Ev (tOp (fun x y H Q => y = .non ∧ Q (.bl (decide (x = .non))) H) ta (tC .non)) σ F H rBl o.isNone :=
  ev_two (S := rNon) (y := ()) ha ev_nonU fun F1 H1 a b _ e1 _ ra rb Q q => by
    refine ⟨rb, ?_⟩
    cases o with
    | none =>
      have ra' : a = .non := ra
      rw [ra', decide_eq_true rfl]; exact q _ F1 H1 (Up.refl e1) rfl
    | some x => rw [decide_eq_false ra.2]; exact q _ F1 H1 (Up.refl e1) rfl
theorem ev_notN {o : Option α} (ha : Ev ta σ F H (rOpt R) o) : Ev (tOp (fun x y H Q => y = .non ∧ Q (.bl (!decide (x = .non))) H) ta (tC .non)) σ F H rBl o.isSome :=
  ev_two (S := rNon) (y := ()) ha ev_nonU fun F1 H1 a b _ e1 _ ra rb Q q => by
    refine ⟨rb, ?_⟩
    cases o with
    | none =>
      have ra' : a = .non := ra
      rw [ra', decide_eq_true rfl]; exact q _ F1 H1 (Up.refl e1) rfl
    | some x => rw [decide_eq_false ra.2]; exact q _ F1 H1 (Up.refl e1) rfl
theorem ev_neg {i : Int} (ha : Ev ta σ F H rInt i) : Ev (tUn (rU fun i => .int (-i)) ta) σ F H rInt (-i) := fun H1 a b Q q =>
  ha H1 a b _ fun v F2 H2 u hr => ⟨i, hr, q _ F2 H2 u rfl⟩

/-! ### tests -/
theorem eb_test {b : Bool} (h : Ev te σ F H rBl b) : EvB (tTest te) σ F H b := fun H1 a c _ q => h H1 a c _ fun v F' H' u hr => ⟨b, hr, q H' u.h⟩
theorem eb_B {b : Bool} (h : Ev te σ F H rBl b) : EvB (tB te) σ F H b := fun H1 a c _ q => h H1 a c _ fun v F' H' u hr => ⟨b, hr, q H' u.h⟩
theorem eb_and {a b : Bool} (h1 : EvB t σ F H a) (h2 : a = true → EvB u σ F H b) : EvB (tAnd t u) σ F H (a && b) := fun H1 e k Q q => h1 H1 e k _ fun H2 e2 => by
  cases a with
  | true =>
    show u σ H2 Q
    exact h2 rfl H2 (e.trans e2) (k.trans e2) Q fun H3 e3 => q H3 (e2.trans e3)
  | false =>
    show Q false H2
    exact q H2 e2
theorem eb_or {a b : Bool} (h1 : EvB t σ F H a) (h2 : a = false → EvB u σ F H b) : EvB (tOr t u) σ F H (a || b) := fun H1 e k Q q => h1 H1 e k _ fun H2 e2 => by
  cases a with
  | true =>
    show Q true H2
    exact q H2 e2
  | false =>
    show u σ H2 Q
    exact h2 rfl H2 (e.trans e2) (k.trans e2) Q fun H3 e3 => q H3 (e2.trans e3)
/-- or: both false -/
theorem eb_or0 (h1 : EvB t σ F H false) (h2 : EvB u σ F H false) : EvB (tOr t u) σ F H false := (eb_or h1 fun _ => h2).is rfl
theorem eb_not {a : Bool} (h1 : EvB t σ F H a) : EvB (tNot t) σ F H (!a) := fun H1 e k _ q => h1 H1 e k _ fun H2 e2 => q H2 e2
theorem ev_andV {a b : Bool} (h1 : Ev ta σ F H rBl a) (h2 : a = true → Ev tb σ F H rBl b) : Ev (tAndV ta tb) σ F H rBl (a && b) := fun H1 e k Q q => h1 H1 e k _ fun v F2 H2 u hr => ⟨a, hr, by
  cases a with
  | true =>
    show tb σ H2 Q
    exact h2 rfl H2 (e.trans u.h) (k.trans u.h) Q fun v F3 H3 u3 r3 => q v _ H3 (u.uni u3) (rBl.mono (u.uniR u3) r3)
  | false =>
    show Q (.bl false) H2
    exact q _ F2 H2 u rfl⟩

/-! ### arguments, calls -/
def apNil : Ap := ⟨fun _ vs => vs = [], fun _ h => h⟩
def apCons (R : Rep α) (x : α) (A : Ap) : Ap := ⟨fun F vs => ∃ v r, vs = v :: r ∧ R.r F v x ∧ A.p F r, fun e h => by
  obtain ⟨v, r, h1, h2, h3⟩ := h
  exact ⟨v, r, h1, R.mono e h2, A.mono e h3⟩⟩
/-- any number of them, alike -/
def apAll (R : Rep α) (xs : List α) : Ap := ⟨fun F vs => All2 (R.r F) vs xs, fun e h => h.up e⟩
theorem ea_nil : EvA tNil σ F H apNil := fun H1 a _ _ q => q [] F H1 (Up.refl a) rfl
theorem ea_cons {tr : TA} {A : Ap} (h : Ev te σ F H R x) (hr : EvA tr σ F H A) : EvA (tCons te tr) σ F H (apCons R x A) := fun H1 a b _ q =>
  h H1 a b _ fun v F2 H2 u2 r2 => hr H2 (a.trans u2.h) (b.trans u2.h) _ fun vs F3 H3 u3 r3 =>
    q (v :: vs) _ H3 (u2.uni u3) ⟨v, vs, rfl, R.mono (u2.uniL u3) r2, A.mono (u2.uniR u3) r3⟩
theorem ea_nilL : EvA tNil σ F H (apAll R []) := fun H1 a _ _ q => q [] F H1 (Up.refl a) .nil
theorem ea_consL {tr : TA} {xs : List α} (h : Ev te σ F H R x) (hr : EvA tr σ F H (apAll R xs)) : EvA (tCons te tr) σ F H (apAll R (x :: xs)) := fun H1 a b _ q =>
  h H1 a b _ fun v F2 H2 u2 r2 => hr H2 (a.trans u2.h) (b.trans u2.h) _ fun vs F3 H3 u3 r3 =>
    q (v :: vs) _ H3 (u2.uni u3) (.cons (R.mono (u2.uniL u3) r2) ((apAll R xs).mono (u2.uniR u3) r3))
theorem ap1 {F : Hp} {vs : List V} (h : (apCons R x apNil).p F vs) : ∃ v, vs = [v] ∧ R.r F v x := by
  obtain ⟨v, r, h1, h2, h3⟩ := h
  have h3' : r = [] := h3
  subst h3'
  exact ⟨v, h1, h2⟩
theorem ap2 {F : Hp} {vs : List V} (h : (apCons R x (apCons S y apNil)).p F vs) : ∃ v w, vs = [v, w] ∧ R.r F v x ∧ S.r F w y := by
  obtain ⟨v, r, h1, h2, w, q, h3, h4, h5⟩ := h
  have h5' : q = [] := h5
  subst h5'; subst h3
  exact ⟨v, w, h1, h2, h4⟩
theorem ap3 {F : Hp} {vs : List V} (h : (apCons R x (apCons S y (apCons T z apNil))).p F vs) : ∃ u v w, vs = [u, v, w] ∧ R.r F u x ∧ S.r F v y ∧ T.r F w z := by
  obtain ⟨u, r, h1, h2, h3⟩ := h
  obtain ⟨v, w, rfl, h4, h5⟩ := ap2 h3
  exact ⟨u, v, w, h1, h2, h4, h5⟩
theorem ap4 {δ : Type} {U : Rep δ} {d : δ} {F : Hp} {vs : List V} (h : (apCons R x (apCons S y (apCons T z (apCons U d apNil)))).p F vs) : ∃ u v w q, vs = [u, v, w, q] ∧ R.r F u x ∧ S.r F v y ∧ T.r F w z ∧ U.r F q d := by
  obtain ⟨u, r, h1, h2, h3⟩ := h
  obtain ⟨v, w, q, rfl, h4, h5, h6⟩ := ap3 h3
  exact ⟨u, v, w, q, h1, h2, h4, h5, h6⟩

/-- the promise of a def: asked of i with the arguments A i it hands back what represents g i -/
def SpF {ι : Type} (pre : ι → Prop) (A : ι → Ap) (R : ι → Rep β) (g : ι → β) : Sp := fun vs H Q _ => ∃ i F, pre i ∧ Same F H ∧ (A i).p F vs ∧ ∀ v F' H', Up F H F' H' → (R i).r F' v (g i) → Q v H'
theorem ev_call {ι : Type} {pre : ι → Prop} {A : ι → Ap} {R : ι → Rep β} {g : ι → β} {E : XK} {tr : TA} (i : ι) (h : EvA tr σ F H (A i)) (hp : pre i) : Ev (tCall (SpF pre A R g) [] E tr) σ F H (R i) (g i) := fun H1 a b Q q =>
  h H1 a b _ fun vs F2 H2 u2 r2 => by
    show SpF pre A R g (vs ++ []) H2 Q E
    rw [List.append_nil]
    exact ⟨i, F2, hp, u2.s, r2, fun v F3 H3 u3 r3 => q v F3 H3 (u2.trans u3) r3⟩
theorem ev_meth {ι : Type} {C : Addr} {m : Str} {pre : ι → Prop} {A : ι → Ap} {P : ι → Rep β} {g : ι → β} {E : XK} {tr : TA} {A0 : Ap} (i : ι) (ho : Ev ta σ F H R x) (hi : ∀ F v, R.r F v x → ∃ a dx fs, v = .ref a ∧ F a = some (.ins C dx fs) ∧ fs.lookup m = none)
    (h : EvA tr σ F H A0) (hA : ∀ F v vs, R.r F v x → A0.p F vs → (A i).p F (v :: vs)) (hp : pre i) : Ev (tMeth C m (SpF pre A P g) [] E ta tr) σ F H (P i) (g i) := fun H1 a b Q q =>
  ho H1 a b _ fun v F2 H2 u2 r2 => by
    obtain ⟨o, dx, fs, e1, e2, e3⟩ := hi F2 v r2
    refine ⟨o, dx, fs, e1, u2.s _ _ e2, e3, ?_⟩
    refine h H2 (a.trans u2.h) (b.trans u2.h) _ fun vs F3 H3 u3 r3 => ?_
    show SpF pre A P g (v :: (vs ++ [])) H3 Q E
    rw [List.append_nil]
    exact ⟨i, uni F2 F3, hp, uni_s (u2.s.trans u3.h) u3.s, hA _ _ _ (R.mono (u2.uniL u3) r2) (A0.mono (u2.uniR u3) r3), fun v F4 H4 u4 r4 => q v F4 H4 ((u2.uni u3).trans u4) r4⟩

/-! ### displays -/
theorem ev_tup2 (ha : Ev ta σ F H R x) (hb : Ev tb σ F H S y) : Ev (tTup (tCons ta (tCons tb tNil))) σ F H (rTup2 R S) (x, y) := fun H1 a b Q q =>
  ea_cons ha (ea_cons hb ea_nil) H1 a b _ fun vs F2 H2 u2 r2 => by
    obtain ⟨v, w, rfl, h1, h2⟩ := ap2 r2
    exact ⟨by show 2 ≤ sizeLine; decide, fun p hp => q _ _ _ (u2.trans (Up.new u2.s hp)) ⟨p, v, w, rfl, upd_same, R.mono (Same.new (u2.s.free hp)) h1, S.mono (Same.new (u2.s.free hp)) h2⟩⟩
theorem ev_tupL {tr : TA} {xs : List α} (h : EvA tr σ F H (apAll R xs)) (hl : xs.length ≤ 100000) : Ev (tTup tr) σ F H (rTupL R) xs := fun H1 a b Q q =>
  h H1 a b _ fun vs F2 H2 u2 r2 => by
    have r2' : All2 (R.r F2) vs xs := r2
    exact ⟨Nat.le_trans (by rw [r2'.length]; exact hl) (by decide : 100000 ≤ sizeLine), fun p hp => q _ _ _ (u2.trans (Up.new u2.s hp)) ⟨p, vs, rfl, upd_same, r2'.up (Same.new (u2.s.free hp))⟩⟩
theorem ev_lst {tr : TA} {xs : List α} (h : EvA tr σ F H (apAll R xs)) (hl : xs.length ≤ 100000) : Ev (tLst tr) σ F H (rLst R) xs := fun H1 a b Q q =>
  h H1 a b _ fun vs F2 H2 u2 r2 => by
    have r2' : All2 (R.r F2) vs xs := r2
    exact ⟨Nat.le_trans (by rw [r2'.length]; exact hl) (by decide : 100000 ≤ sizeLine), fun p hp => q _ _ _ (u2.trans (Up.new u2.s hp)) ⟨p, vs, rfl, upd_same, r2'.up (Same.new (u2.s.free hp))⟩⟩
theorem ev_lst1 (h : Ev te σ F H R x) : Ev (tLst (tCons te tNil)) σ F H (rLst R) [x] := ev_lst (ea_consL h ea_nilL) (by simp)

/-! ### items -/
theorem atI_int {xs : List V} {i : Int} {v : V} (h0 : 0 ≤ i) (h : xs[i.toNat]? = some v) : atI xs i = some v := by
  have e : i = ((i.toNat : Nat) : Int) := by omega
  rw [e]
  exact atI_nat h
theorem ev_ixL {xs : List α} {i : Int} {y : α} (ha : Ev ta σ F H (rLst R) xs) (hb : Ev tb σ F H rInt i) (h0 : 0 ≤ i) (h : xs[i.toNat]? = some y) : Ev (tOp (rIxL K) ta tb) σ F H R y :=
  ev_two ha hb fun F1 H1 a b _ e1 _ ra rb Q q => by
    obtain ⟨p, vs, rfl, h2, h3⟩ := ra
    obtain ⟨v, h4, h5⟩ := h3.getR h
    exact ⟨p, vs, i, v, rfl, rb, SqL.of (e1 _ _ h2), atI_int h0 h4, q v F1 H1 (Up.refl e1) h5⟩
theorem ev_ixT {xs : List α} {i : Int} {y : α} (ha : Ev ta σ F H (rTupL R) xs) (hb : Ev tb σ F H rInt i) (h0 : 0 ≤ i) (h : xs[i.toNat]? = some y) : Ev (tOp (rIxT K) ta tb) σ F H R y :=
  ev_two ha hb fun F1 H1 a b _ e1 _ ra rb Q q => by
    obtain ⟨p, vs, rfl, h2, h3⟩ := ra
    obtain ⟨v, h4, h5⟩ := h3.getR h
    exact ⟨p, vs, i, v, rfl, rb, SqT.of (e1 _ _ h2), atI_int h0 h4, q v F1 H1 (Up.refl e1) h5⟩
theorem ev_fst {p : α × β} (ha : Ev ta σ F H (rTup2 R S) p) : Ev (tOp (rIxT K) ta (tC (.int 0))) σ F H R p.1 :=
  ev_two ha ev_int fun F1 H1 a b _ e1 _ ra rb Q q => by
    obtain ⟨o, x, y, rfl, h2, h3, h4⟩ := ra
    exact ⟨o, [x, y], 0, x, rfl, rb, SqT.of (e1 _ _ h2), atI_int (by decide) rfl, q x F1 H1 (Up.refl e1) h3⟩
theorem ev_snd {p : α × β} (ha : Ev ta σ F H (rTup2 R S) p) : Ev (tOp (rIxT K) ta (tC (.int 1))) σ F H S p.2 :=
  ev_two ha ev_int fun F1 H1 a b _ e1 _ ra rb Q q => by
    obtain ⟨o, x, y, rfl, h2, h3, h4⟩ := ra
    exact ⟨o, [x, y], 1, y, rfl, rb, SqT.of (e1 _ _ h2), atI_int (by decide) rfl, q y F1 H1 (Up.refl e1) h4⟩

/-! ### built-in calls -/
abbrev rLenS (K : PySem.W.Frag) := Evl.rLenS K
theorem ev_lenL {xs : List α} (ha : Ev ta σ F H (rLst R) xs) : Ev (tCB (rLenS K) (tCons ta tNil)) σ F H rInt (xs.length : Int) := fun H1 a b Q q =>
  ha H1 a b _ fun v F2 H2 u2 r2 => by
    obtain ⟨p, vs, rfl, h2, h3⟩ := r2
    exact ⟨p, vs, rfl, .inl (SqL.of (u2.s _ _ h2)), q _ F2 H2 u2 (show _ = _ by rw [h3.length])⟩
theorem ev_lenT {xs : List α} (ha : Ev ta σ F H (rTupL R) xs) : Ev (tCB (rLenS K) (tCons ta tNil)) σ F H rInt (xs.length : Int) := fun H1 a b Q q =>
  ha H1 a b _ fun v F2 H2 u2 r2 => by
    obtain ⟨p, vs, rfl, h2, h3⟩ := r2
    exact ⟨p, vs, rfl, .inr (SqT.of (u2.s _ _ h2)), q _ F2 H2 u2 (show _ = _ by rw [h3.length])⟩
theorem ev_cb {r : List V → Hp → VK → Prop} {tr : TA} {A : Ap} (h : EvA tr σ F H A) (hr : ∀ F1 H1 vs, Same F F1 → Same F1 H1 → Same H H1 → A.p F1 vs → ∀ Q : VK, (∀ v F' H', Up F1 H1 F' H' → T.r F' v z → Q v H') → r vs H1 Q) : Ev (tCB r tr) σ F H T z := fun H1 a b Q q =>
  h H1 a b _ fun vs F2 H2 u2 r2 => hr F2 H2 vs u2.f u2.s (b.trans u2.h) r2 Q fun v F3 H3 u3 r3 => q v F3 H3 (u2.trans u3) r3
def rTupleOf (K : PySem.W.Frag) : List V → Hp → VK → Prop := fun xs H Q => ∃ p ys, xs = [.ref p] ∧ ((SqL K H p ys ∧ ∀ l, H l = none → Q (.ref l) (upd H l (.tup ys))) ∨ (SqT K H p ys ∧ Q (.ref p) H))
theorem ev_tupleOf {xs : List α} (ha : Ev ta σ F H (rLst R) xs) : Ev (tCB (rTupleOf K) (tCons ta tNil)) σ F H (rTupL R) xs :=
  ev_cb (ea_cons ha ea_nil) fun F1 H1 vs _ e1 _ h Q q => by
    obtain ⟨v, rfl, hh⟩ := ap1 h
    obtain ⟨p, vs, rfl, h2, h3⟩ := hh
    exact ⟨p, vs, rfl, .inl ⟨SqL.of (e1 _ _ h2), fun l hl => q _ _ _ (Up.new e1 hl) ⟨l, vs, rfl, upd_same, h3.up (Same.new (e1.free hl))⟩⟩⟩
abbrev rListS (K : PySem.W.Frag) := Evl.rListS K
theorem ev_listOf {xs : List α} (ha : Ev ta σ F H (rLst R) xs) : Ev (tCB (rListS K) (tCons ta tNil)) σ F H (rLst R) xs :=
  ev_cb (ea_cons ha ea_nil) fun F1 H1 vs _ e1 _ h Q q => by
    obtain ⟨v, rfl, hh⟩ := ap1 h
    obtain ⟨p, vs, rfl, h2, h3⟩ := hh
    exact ⟨p, vs, rfl, .inl (SqL.of (e1 _ _ h2)), fun l hl => q _ _ _ (Up.new e1 hl) ⟨l, vs, rfl, upd_same, h3.up (Same.new (e1.free hl))⟩⟩
theorem all2_bl {F : Hp} : ∀ {vs : List V} {bs : List Bool}, All2 (rBl.r F) vs bs → vs = bs.map V.bl
  | _, _, .nil => rfl
  | _, _, .cons h r => by
    rw [List.map_cons, ← all2_bl r]
    exact congrArg (· :: _) h
theorem all2_int {F : Hp} : ∀ {vs : List V} {bs : List Int}, All2 (rInt.r F) vs bs → vs = bs.map V.int
  | _, _, .nil => rfl
  | _, _, .cons h r => by
    rw [List.map_cons, ← all2_int r]
    exact congrArg (· :: _) h
theorem all2_nat {F : Hp} : ∀ {vs : List V} {bs : List Nat}, All2 (rNat.r F) vs bs → vs = (bs.map fun (n : Nat) => (n : Int)).map V.int
  | _, _, .nil => rfl
  | _, _, .cons h r => by
    rw [List.map_cons, List.map_cons, ← all2_nat r]
    exact congrArg (· :: _) h
theorem all2_of_int {F : Hp} : ∀ bs : List Int, All2 (rInt.r F) (bs.map V.int) bs
  | [] => .nil
  | _ :: r => .cons rfl (all2_of_int r)
theorem all2_of_nat {F : Hp} : ∀ bs : List Nat, All2 (rNat.r F) ((bs.map fun (n : Nat) => (n : Int)).map V.int) bs
  | [] => .nil
  | _ :: r => .cons rfl (all2_of_nat r)
theorem ev_all {bs : List Bool} (ha : Ev ta σ F H (rLst rBl) bs) : Ev (tCB (rAll K) (tCons ta tNil)) σ F H rBl (bs.all id) :=
  ev_cb (ea_cons ha ea_nil) fun F1 H1 vs _ e1 _ h Q q => by
    obtain ⟨v, rfl, hh⟩ := ap1 h
    obtain ⟨p, vs, rfl, h2, h3⟩ := hh
    have e := all2_bl h3
    subst e
    exact ⟨p, bs, rfl, SqL.of (e1 _ _ h2), q _ F1 H1 (Up.refl e1) rfl⟩
theorem ev_min2 {i j : Int} (ha : Ev ta σ F H rInt i) (hb : Ev tb σ F H rInt j) : Ev (tCB (fun xs H Q => ∃ i j, xs = [.int i, .int j] ∧ Q (.int (if j < i then j else i)) H) (tCons ta (tCons tb tNil))) σ F H rInt (if j < i then j else i) :=
  ev_cb (ea_cons ha (ea_cons hb ea_nil)) fun F1 H1 vs _ e1 _ h Q q => by
    obtain ⟨v, w, rfl, h1, h2⟩ := ap2 h
    have h1' : v = .int i := h1
    have h2' : w = .int j := h2
    subst h1'; subst h2'
    exact ⟨i, j, rfl, q _ F1 H1 (Up.refl e1) rfl⟩
theorem ev_divmod {i j : Int} (ha : Ev ta σ F H rInt i) (hb : Ev tb σ F H rInt j) (hc : CDiv i j) : Ev (tCB (fun xs H Q => ∃ i j, xs = [.int i, .int j] ∧ CDiv i j ∧ ∀ p, H p = none → Q (.ref p) (upd H p (.tup [.int (i / j), .int (i % j)]))) (tCons ta (tCons tb tNil))) σ F H (rTup2 rInt rInt) (i / j, i % j) :=
  ev_cb (ea_cons ha (ea_cons hb ea_nil)) fun F1 H1 vs _ e1 _ h Q q => by
    obtain ⟨v, w, rfl, h1, h2⟩ := ap2 h
    have h1' : v = .int i := h1
    have h2' : w = .int j := h2
    subst h1'; subst h2'
    exact ⟨i, j, rfl, hc, fun p hp => q _ _ _ (Up.new e1 hp) ⟨p, _, _, rfl, upd_same, rfl, rfl⟩⟩

/-! ### slices, + and * -/
theorem eo_none : EvO tNoPart σ F H none := fun H1 _ _ _ q => q H1 (Same.refl _)
theorem eo_some {i : Int} (h : Ev te σ F H rInt i) : EvO (tPart te) σ F H (some i) := fun H1 a b _ q => h H1 a b _ fun v F2 H2 u hr => ⟨i, hr, q H2 u.h⟩
def cutG {α : Type} (xs : List α) (lo hi : Option Int) : List α := (xs.drop (HT.sIx xs.length 0 lo)).take (HT.sIx xs.length xs.length hi - HT.sIx xs.length 0 lo)
theorem cut_all2 {P : V → α → Prop} {vs : List V} {xs : List α} (lo hi : Option Int) (h : All2 P vs xs) : All2 P (cutV vs lo hi) (cutG xs lo hi) := by
  unfold cutV cutG
  rw [h.length]
  exact (h.drop _).take _
theorem cutG_from {xs : List α} {i : Int} (h0 : 0 ≤ i) : cutG xs (some i) none = xs.drop i.toNat := by
  have e : i = ((i.toNat : Nat) : Int) := by omega
  unfold cutG
  rw [HT.sIx_none, e, HT.sIx_nat, Int.toNat_natCast]
  by_cases h : i.toNat ≤ xs.length
  · rw [Nat.min_eq_left h]
    exact List.take_of_length_le (by rw [List.length_drop]; omega)
  · rw [Nat.min_eq_right (by omega), Nat.sub_self, List.drop_eq_nil_of_le (show xs.length ≤ i.toNat by omega)]
    exact List.take_zero
theorem cutG_to {xs : List α} {i : Int} (h0 : 0 ≤ i) : cutG xs none (some i) = xs.take i.toNat := by
  have e : i = ((i.toNat : Nat) : Int) := by omega
  unfold cutG
  rw [HT.sIx_none, e, HT.sIx_nat, Int.toNat_natCast, Nat.sub_zero, List.drop_zero]
  by_cases h : i.toNat ≤ xs.length
  · rw [Nat.min_eq_left h]
  · rw [Nat.min_eq_right (by omega), List.take_of_length_le (Nat.le_refl _), List.take_of_length_le (by omega)]
theorem ev_three {r : V → Option Int → Option Int → Hp → VK → Prop} {tl th : TO} {lo hi : Option Int} (ha : Ev ta σ F H R x) (hl : EvO tl σ F H lo) (hh : EvO th σ F H hi)
    (hr : ∀ F1 H1 a, Same F F1 → Same F1 H1 → R.r F1 a x → ∀ Q : VK, (∀ v F' H', Up F1 H1 F' H' → T.r F' v z → Q v H') → r a lo hi H1 Q) : Ev (tSl r ta tl th) σ F H T z := fun H1 a b Q q =>
  ha H1 a b _ fun v F2 H2 u2 r2 => hl H2 (a.trans u2.h) (b.trans u2.h) _ fun H3 e3 => hh H3 (a.trans (u2.h.trans e3)) (b.trans (u2.h.trans e3)) _ fun H4 e4 =>
    hr F2 H4 v u2.f (u2.s.trans (e3.trans e4)) r2 Q fun x F5 H5 u5 r5 => q x F5 H5 ((u2.trans (Up.real u2.s (e3.trans e4))).trans u5) r5
theorem ev_slL {xs : List α} {tl th : TO} {lo hi : Option Int} (ha : Ev ta σ F H (rLst R) xs) (hl : EvO tl σ F H lo) (hh : EvO th σ F H hi) : Ev (tSl (rSlL K) ta tl th) σ F H (rLst R) (cutG xs lo hi) :=
  ev_three ha hl hh fun F1 H1 a _ e1 ra Q q => by
    obtain ⟨p, vs, rfl, h2, h3⟩ := ra
    exact ⟨p, vs, rfl, SqL.of (e1 _ _ h2), fun l hl => q _ _ _ (Up.new e1 hl) ⟨l, _, rfl, upd_same, (cut_all2 lo hi h3).up (Same.new (e1.free hl))⟩⟩
theorem ev_catL {xs ys : List α} (ha : Ev ta σ F H (rLst R) xs) (hb : Ev tb σ F H (rLst R) ys) (hz : xs.length + ys.length ≤ 100000) : Ev (tOp rCat ta tb) σ F H (rLst R) (xs ++ ys) :=
  ev_two ha hb fun F1 H1 a b _ e1 _ ra rb Q q => by
    obtain ⟨p, vs, rfl, h2, h3⟩ := ra
    obtain ⟨o, ws, rfl, h4, h5⟩ := rb
    exact ⟨p, o, vs, ws, rfl, rfl, e1 _ _ h2, e1 _ _ h4, Nat.le_trans (by rw [h3.length, h5.length]; exact hz) (by decide : 100000 ≤ sizeLine), fun l hl =>
      q _ _ _ (Up.new e1 hl) ⟨l, _, rfl, upd_same, (h3.append h5).up (Same.new (e1.free hl))⟩⟩
theorem flat_one (n : Nat) (v : V) : (List.replicate n [v]).flatten = List.replicate n v := by
  induction n with
  | zero => rfl
  | succ n ih => rw [List.replicate_succ, List.flatten_cons, ih, List.replicate_succ]; rfl
theorem ev_repL {y : α} {k : Int} (ha : Ev ta σ F H (rLst R) [y]) (hb : Ev tb σ F H rInt k) (h0 : 0 ≤ k ∧ k ≤ 100000) : Ev (tOp rRep ta tb) σ F H (rLst R) (List.replicate k.toNat y) :=
  ev_two ha hb fun F1 H1 a b _ e1 _ ra rb Q q => by
    obtain ⟨p, vs, rfl, h2, h3⟩ := ra
    obtain ⟨v, r, rfl, h4, h5⟩ := h3.consR
    have h6 := h5.nilR
    subst h6
    refine ⟨p, k, [v], rfl, rb, e1 _ _ h2, by omega, by omega, Nat.le_trans (by simp; omega) (by decide : 100000 ≤ sizeLine), fun l hl => ?_⟩
    rw [flat_one]
    exact q _ _ _ (Up.new e1 hl) ⟨l, _, rfl, upd_same, (All2.replicate h4 _).up (Same.new (e1.free hl))⟩
end
end PM
end

section
set_option Elab.async false
set_option linter.all false
set_option maxRecDepth 100000
set_option maxHeartbeats 2000000
/-! Own framework, part 2: lists that change, statements, loops, comprehensions. -/
namespace PM
open PySem PySem.Spec PyProof.Rows L2
section
variable {α β γ : Type}
variable {K : PySem.W.Frag} {σ : L2.St} {F H F0 H0 : Hp} {te ta tb tc : TE} {t u : TT} {R : Rep α} {S : Rep β} {T : Rep γ} {x : α} {y : β} {z : γ} {v w : V}

/-! ### an object of one's own that changes: the entry H0 does not know it, nor does F -/
structure Mut (H0 F H : Hp) (l : Addr) (o : HO) : Prop where
  h0 : H0 l = none
  f : F l = none
  h : H l = some o
theorem Mut.up {F' H' : Hp} {l : Addr} {o : HO} (m : Mut H0 F H l o) (u : Up F H F' H') : Mut H0 F' H' l o :=
  ⟨m.h0, u.n l m.f (by rw [m.h]; simp), u.h _ _ m.h⟩
theorem Mut.put {l : Addr} {o : HO} (o' : HO) (m : Mut H0 F H l o) : Mut H0 F (upd H l o') l o' := ⟨m.h0, m.f, upd_same⟩
theorem Mut.side {l p : Addr} {o o' : HO} (m : Mut H0 F H l o) (h : l ≠ p) : Mut H0 F (upd H p o') l o := ⟨m.h0, m.f, by rw [upd_ne h]; exact m.h⟩
/-- it stands while another object is learnt -/
theorem Mut.know {F' : Hp} {l : Addr} {o : HO} (m : Mut H0 F H l o) (h : F' l = none) : Mut H0 F' H l o := ⟨m.h0, h, m.h⟩
theorem Up.put {l : Addr} {o : HO} (o' : HO) (u : Up F0 H0 F H) (m : Mut H0 F H l o) : Up F0 H0 F (upd H l o') :=
  ⟨u.f, u.h.put m.h0, u.s.put m.f, u.n⟩
/-- from now on it does not change -/
theorem Up.freeze {l : Addr} {o : HO} (u : Up F0 H0 F H) (m : Mut H0 F H l o) : Up F0 H0 (upd F l o) H := by
  refine ⟨fun a q e => ?_, u.h, fun a q e => ?_, fun a q k => ?_⟩
  · have hne : a ≠ l := ne_of_none (u.f a q e) m.f
    rw [upd_ne hne]
    exact u.f a q e
  · by_cases e' : a = l
    · subst e'; rw [upd_same] at e; rw [← e]; exact m.h
    · rw [upd_ne e'] at e; exact u.s a q e
  · have hne : a ≠ l := fun e' => k (by rw [e']; exact m.h0)
    rw [upd_ne hne]
    exact u.n a q k
theorem Mut.same {l : Addr} {o : HO} (m : Mut H0 F H l o) : Same F (upd F l o) := Same.new m.f

/-- such a list of data -/
def ML (H0 F H : Hp) (l : Addr) (R : Rep α) (xs : List α) : Prop := ∃ vs, Mut H0 F H l (.lst vs) ∧ All2 (R.r F) vs xs
theorem ML.up {F' H' : Hp} {l : Addr} {xs : List α} (m : ML H0 F H l R xs) (u : Up F H F' H') : ML H0 F' H' l R xs := by
  obtain ⟨vs, h1, h2⟩ := m
  exact ⟨vs, h1.up u, h2.up u.f⟩
theorem ML.side {l p : Addr} {o : HO} {xs : List α} (m : ML H0 F H l R xs) (h : l ≠ p) : ML H0 F (upd H p o) l R xs := by
  obtain ⟨vs, h1, h2⟩ := m
  exact ⟨vs, h1.side h, h2⟩
theorem ML.ne {l p : Addr} {xs : List α} (m : ML H0 F H l R xs) (h : H p = none) : l ≠ p := by
  obtain ⟨vs, h1, h2⟩ := m
  exact ne_of_none h1.h h
theorem ML.know {F' : Hp} {l : Addr} {xs : List α} (m : ML H0 F H l R xs) (e : Same F F') (h : F' l = none) : ML H0 F' H l R xs := by
  obtain ⟨vs, h1, h2⟩ := m
  exact ⟨vs, h1.know h, h2.up e⟩
/-- from now on the list does not change -/
theorem ML.freeze {l : Addr} {xs : List α} (u : Up F0 H0 F H) (m : ML H0 F H l R xs) : ∃ F', Same F F' ∧ Up F0 H0 F' H ∧ (rLst R).r F' (.ref l) xs ∧ ∀ p, p ≠ l → F p = none → F' p = none := by
  obtain ⟨vs, h1, h2⟩ := m
  exact ⟨_, h1.same, u.freeze h1, ⟨l, vs, rfl, upd_same, h2.up h1.same⟩, fun p hp q => by rw [upd_ne hp]; exact q⟩

/-! ### statements -/
variable {D : Ends} {tu tw tz ts : TS} {g : TG}
theorem s_set {i : Nat} (h : Ev te σ F H R x) (e : Same F H) (k : ∀ v F' H', Up F H F' H' → R.r F' v x → D.nx (σ.set i (some v)) H') : tAsg te (gName i) D σ H := h H e (Same.refl _) _ fun v F' H' u r => k v F' H' u r
theorem q_set {i : Nat} (h : Ev te σ F H R x) (e : Same F H) (k : ∀ v F' H', Up F H F' H' → R.r F' v x → tz D (σ.set i (some v)) H') : tSeq (tAsg te (gName i)) tz D σ H := s_set (D := { D with nx := tz D }) h e k
theorem s_ret (h : Ev te σ F H R x) (e : Same F H) (k : ∀ v F' H', Up F H F' H' → R.r F' v x → D.rt v H') : tRet te D σ H := h H e (Same.refl _) _ fun v F' H' u r => k v F' H' u r
theorem s_drop (h : Ev te σ F H R x) (e : Same F H) (k : ∀ v F' H', Up F H F' H' → R.r F' v x → D.nx σ H') : tDrop te D σ H := h H e (Same.refl _) _ fun v F' H' u r => k v F' H' u r
theorem q_drop (h : Ev te σ F H R x) (e : Same F H) (k : ∀ v F' H', Up F H F' H' → R.r F' v x → tz D σ H') : tSeq (tDrop te) tz D σ H := s_drop (D := { D with nx := tz D }) h e k
theorem s_if {b : Bool} (h : EvB t σ F H b) (e : Same F H) (h1 : b = true → ∀ H', Up F H F H' → tu D σ H') (h2 : b = false → ∀ H', Up F H F H' → tw D σ H') : tIfS t tu tw D σ H := h H e (Same.refl _) _ fun H' e' => by
  cases b with
  | true => exact h1 rfl H' (Up.real e e')
  | false => exact h2 rfl H' (Up.real e e')
theorem q_if {b : Bool} (h : EvB t σ F H b) (e : Same F H) (h1 : b = true → ∀ H', Up F H F H' → tu { D with nx := tz D } σ H') (h2 : b = false → ∀ H', Up F H F H' → tw { D with nx := tz D } σ H') : tSeq (tIfS t tu tw) tz D σ H := s_if (D := { D with nx := tz D }) h e h1 h2
/-- an if without else that does not come to pass -/
theorem q_guard (h : EvB t σ F H false) (e : Same F H) (k : ∀ H', Up F H F H' → tz D σ H') : tSeq (tIfS t tu tNext) tz D σ H := q_if h e (fun q => nomatch q) fun _ H' u => k H' u
theorem s_guard (h : EvB t σ F H false) (e : Same F H) (k : ∀ H', Up F H F H' → D.nx σ H') : tIfS t tu tNext D σ H := s_if h e (fun q => nomatch q) fun _ H' u => k H' u
/-- x = [] -/
theorem s_newL {i : Nat} (R : Rep α) (U : Up F0 H0 F H) (k : ∀ l H', H l = none → Up F H F H' → Up F0 H0 F H' → ML H0 F H' l R [] → D.nx (σ.set i (some (.ref l))) H') : tAsg (tLst tNil) (gName i) D σ H := by
  refine ⟨Nat.zero_le _, fun l hl => ?_⟩
  have u := Up.newM (o := .lst []) U.s hl
  exact k l _ hl u (U.trans u) ⟨[], ⟨U.h.free hl, U.s.free hl, upd_same⟩, .nil⟩
theorem q_newL {i : Nat} (R : Rep α) (U : Up F0 H0 F H) (k : ∀ l H', H l = none → Up F H F H' → Up F0 H0 F H' → ML H0 F H' l R [] → tz D (σ.set i (some (.ref l))) H') : tSeq (tAsg (tLst tNil) (gName i)) tz D σ H := s_newL (D := { D with nx := tz D }) R U k
theorem line100 {n : Nat} (h : n < 100000) : n < sizeLine := Nat.lt_of_lt_of_le h (by decide)
theorem line100' {n : Nat} (h : n ≤ 100000) : n ≤ sizeLine := Nat.le_trans h (by decide)
/-- l.append(e): F' H1 are the states behind e -/
theorem s_app {i : Nat} {l : Addr} {xs : List α} (U : Up F0 H0 F H) (m : ML H0 F H l R xs) (hi : σ[i]? = some (some (.ref l))) (h : Ev te σ F H R x) (hz : xs.length < 100000)
    (k : ∀ F' H1 vs, Up F H F' H1 → Up F0 H0 F' (upd H1 l (.lst vs)) → ML H0 F' (upd H1 l (.lst vs)) l R (xs ++ [x]) → D.nx σ (upd H1 l (.lst vs))) : tDrop (tBM K "list" rAppend (tVar i) (tCons te tNil)) D σ H := by
  obtain ⟨vs, h1, h2⟩ := m
  refine ⟨_, hi, .inl ⟨rfl, vs, SqL.of h1.h⟩, h H U.s (Same.refl _) _ fun v F' H1 u r => ?_⟩
  have m1 := h1.up u
  exact ⟨l, vs, v, rfl, rfl, m1.h, line100 (by rw [h2.length]; exact hz), k F' H1 _ u ((U.trans u).put _ m1) ⟨_, m1.put _, (h2.up u.f).snoc r⟩⟩
theorem q_app {i : Nat} {l : Addr} {xs : List α} (U : Up F0 H0 F H) (m : ML H0 F H l R xs) (hi : σ[i]? = some (some (.ref l))) (h : Ev te σ F H R x) (hz : xs.length < 100000)
    (k : ∀ F' H1 vs, Up F H F' H1 → Up F0 H0 F' (upd H1 l (.lst vs)) → ML H0 F' (upd H1 l (.lst vs)) l R (xs ++ [x]) → tz D σ (upd H1 l (.lst vs))) : tSeq (tDrop (tBM K "list" rAppend (tVar i) (tCons te tNil))) tz D σ H :=
  s_app (D := { D with nx := tz D }) U m hi h hz k
/-- l.extend(e) -/
theorem s_ext {i : Nat} {l : Addr} {xs ys : List α} (U : Up F0 H0 F H) (m : ML H0 F H l R xs) (hi : σ[i]? = some (some (.ref l))) (h : Ev te σ F H (rLst R) ys) (hz : xs.length + ys.length ≤ 100000)
    (k : ∀ F' H1 vs, Up F H F' H1 → Up F0 H0 F' (upd H1 l (.lst vs)) → ML H0 F' (upd H1 l (.lst vs)) l R (xs ++ ys) → D.nx σ (upd H1 l (.lst vs))) : tDrop (tBM K "list" rExtend (tVar i) (tCons te tNil)) D σ H := by
  obtain ⟨vs, h1, h2⟩ := m
  refine ⟨_, hi, .inl ⟨rfl, vs, SqL.of h1.h⟩, h H U.s (Same.refl _) _ fun v F' H1 u r => ?_⟩
  have m1 := h1.up u
  obtain ⟨p, ws, rfl, h3, h4⟩ := r
  exact ⟨l, p, vs, ws, rfl, rfl, m1.h, u.s _ _ h3, line100' (by rw [h2.length, h4.length]; exact hz), k F' H1 _ u ((U.trans u).put _ m1) ⟨_, m1.put _, (h2.up u.f).append h4⟩⟩
theorem q_ext {i : Nat} {l : Addr} {xs ys : List α} (U : Up F0 H0 F H) (m : ML H0 F H l R xs) (hi : σ[i]? = some (some (.ref l))) (h : Ev te σ F H (rLst R) ys) (hz : xs.length + ys.length ≤ 100000)
    (k : ∀ F' H1 vs, Up F H F' H1 → Up F0 H0 F' (upd H1 l (.lst vs)) → ML H0 F' (upd H1 l (.lst vs)) l R (xs ++ ys) → tz D σ (upd H1 l (.lst vs))) : tSeq (tDrop (tBM K "list" rExtend (tVar i) (tCons te tNil))) tz D σ H :=
  s_ext (D := { D with nx := tz D }) U m hi h hz k
/-- l.insert(e, d) -/
def rInsert : V → List V → Hp → VK → Prop := fun x vs H Q => ∃ (l : Addr) (xs : List V) (i : Int) (y : V), x = .ref l ∧ vs = [.int i, y] ∧ H l = some (.lst xs) ∧ xs.length < sizeLine ∧ 0 ≤ i ∧ i < 2 ^ 63 ∧ Q .non (upd H l (.lst (xs.take i.toNat ++ [y] ++ xs.drop i.toNat)))
theorem s_ins {i : Nat} {l : Addr} {xs : List α} {n : Int} (U : Up F0 H0 F H) (m : ML H0 F H l R xs) (hi : σ[i]? = some (some (.ref l))) (ha : Ev ta σ F H rInt n) (h : Ev te σ F H R x) (hn : 0 ≤ n ∧ n < 100000) (hz : xs.length < 100000)
    (k : ∀ F' H1 vs, Up F H F' H1 → Up F0 H0 F' (upd H1 l (.lst vs)) → ML H0 F' (upd H1 l (.lst vs)) l R (xs.take n.toNat ++ [x] ++ xs.drop n.toNat) → D.nx σ (upd H1 l (.lst vs))) : tDrop (tBM K "list" rInsert (tVar i) (tCons ta (tCons te tNil))) D σ H := by
  obtain ⟨vs, h1, h2⟩ := m
  refine ⟨_, hi, .inl ⟨rfl, vs, SqL.of h1.h⟩, ea_cons ha (ea_cons h ea_nil) H U.s (Same.refl _) _ fun us F' H1 u r => ?_⟩
  obtain ⟨a, b, rfl, r1, r2⟩ := ap2 r
  have r1' : a = .int n := r1
  subst r1'
  have m1 := h1.up u
  exact ⟨l, vs, n, b, rfl, rfl, m1.h, line100 (by rw [h2.length]; exact hz), hn.1, by omega, k F' H1 _ u ((U.trans u).put _ m1) ⟨_, m1.put _, (h2.up u.f).insert n.toNat r2⟩⟩
theorem q_ins {i : Nat} {l : Addr} {xs : List α} {n : Int} (U : Up F0 H0 F H) (m : ML H0 F H l R xs) (hi : σ[i]? = some (some (.ref l))) (ha : Ev ta σ F H rInt n) (h : Ev te σ F H R x) (hn : 0 ≤ n ∧ n < 100000) (hz : xs.length < 100000)
    (k : ∀ F' H1 vs, Up F H F' H1 → Up F0 H0 F' (upd H1 l (.lst vs)) → ML H0 F' (upd H1 l (.lst vs)) l R (xs.take n.toNat ++ [x] ++ xs.drop n.toNat) → tz D σ (upd H1 l (.lst vs))) : tSeq (tDrop (tBM K "list" rInsert (tVar i) (tCons ta (tCons te tNil)))) tz D σ H :=
  s_ins (D := { D with nx := tz D }) U m hi ha h hn hz k
theorem ixN_int {n : Nat} {i : Int} (h0 : 0 ≤ i) (hj : i.toNat < n) : ixN n i = some i.toNat := by
  unfold ixN
  rw [if_pos h0, if_pos (by omega)]
/-- l[e] = d : d first -/
theorem s_setL {j : Nat} {l : Addr} {xs : List α} {n : Int} (U : Up F0 H0 F H) (m : ML H0 F H l R xs) (hj : σ[j]? = some (some (.ref l))) (h : Ev te σ F H R x) (hb : Ev tb σ F H rInt n) (h0 : 0 ≤ n) (hn : n.toNat < xs.length)
    (k : ∀ F' H1 vs, Up F H F' H1 → Up F0 H0 F' (upd H1 l (.lst vs)) → ML H0 F' (upd H1 l (.lst vs)) l R (xs.set n.toNat x) → D.nx σ (upd H1 l (.lst vs))) : tAsg te (gSub (tVar j) tb rSetL) D σ H := by
  obtain ⟨vs, h1, h2⟩ := m
  refine h H U.s (Same.refl _) _ fun v F2 H2 u2 r2 => ⟨_, hj, hb H2 (U.s.trans u2.h) u2.h _ fun w F3 H3 u3 r3 => ?_⟩
  have u := u2.uni u3
  have m1 := h1.up u
  have r3' : w = .int n := r3
  subst r3'
  exact ⟨l, vs, n, n.toNat, rfl, rfl, m1.h, ixN_int h0 (by rw [h2.length]; exact hn), k _ H3 _ u ((U.trans u).put _ m1) ⟨_, m1.put _, (h2.up u.f).set _ (R.mono (u2.uniL u3) r2)⟩⟩
theorem q_setL {j : Nat} {l : Addr} {xs : List α} {n : Int} (U : Up F0 H0 F H) (m : ML H0 F H l R xs) (hj : σ[j]? = some (some (.ref l))) (h : Ev te σ F H R x) (hb : Ev tb σ F H rInt n) (h0 : 0 ≤ n) (hn : n.toNat < xs.length)
    (k : ∀ F' H1 vs, Up F H F' H1 → Up F0 H0 F' (upd H1 l (.lst vs)) → ML H0 F' (upd H1 l (.lst vs)) l R (xs.set n.toNat x) → tz D σ (upd H1 l (.lst vs))) : tSeq (tAsg te (gSub (tVar j) tb rSetL)) tz D σ H :=
  s_setL (D := { D with nx := tz D }) U m hj h hb h0 hn k
/-- reading a list that changes -/
theorem ev_ixM {j : Nat} {l : Addr} {xs : List α} {n : Int} {y : α} (m : ML H0 F H l R xs) (hj : σ[j]? = some (some (.ref l))) (hb : Ev tb σ F H rInt n) (h0 : 0 ≤ n) (h : xs[n.toNat]? = some y) : Ev (tOp (rIxL K) (tVar j) tb) σ F H R y := fun H1 a b Q q => by
  obtain ⟨vs, h1, h2⟩ := m
  obtain ⟨v, h4, h5⟩ := h2.getR h
  refine ⟨_, hj, hb H1 a b _ fun w F2 H2 u2 r2 => ?_⟩
  exact ⟨l, vs, n, v, rfl, r2, SqL.of (u2.h _ _ (b _ _ h1.h)), atI_int h0 h4, q v F2 H2 u2 (R.mono u2.f h5)⟩
theorem ev_lenM {j : Nat} {l : Addr} {xs : List α} (m : ML H0 F H l R xs) (hj : σ[j]? = some (some (.ref l))) : Ev (tCB (rLenS K) (tCons (tVar j) tNil)) σ F H rInt (xs.length : Int) := fun H1 a b Q q => by
  obtain ⟨vs, h1, h2⟩ := m
  exact ⟨_, hj, l, vs, rfl, .inl (SqL.of (b _ _ h1.h)), q _ F H1 (Up.refl a) (show _ = _ by rw [h2.length])⟩

/-! ### targets -/
/-- a target takes v, the slots become σ2 -/
def Gt (g : TG) (v : V) (σ1 : L2.St) (F : Hp) (σ2 : L2.St) : Prop := ∀ H, Same F H → ∀ Q : L2.St → Hp → Prop, Q σ2 H → g v σ1 H Q
theorem gt_name {i : Nat} : Gt (gName i) v σ F (σ.set i (some v)) := fun _ _ _ q => q
theorem gt_tup2 {i j : Nat} {p : α × β} (h : (rTup2 R S).r F v p) : ∃ a b, R.r F a p.1 ∧ S.r F b p.2 ∧ Gt (gTup K 2 (gCons (gName i) (gCons (gName j) gNil))) v σ F ((σ.set i (some a)).set j (some b)) := by
  obtain ⟨o, a, b, rfl, h2, h3, h4⟩ := h
  exact ⟨a, b, h3, h4, fun H e Q q => ⟨o, [a, b], rfl, SqT.of (e _ _ h2), rfl, a, [b], rfl, b, [], rfl, rfl, q⟩⟩
/-- a, b = e -/
theorem s_asg2 {i j : Nat} {p : α × β} (h : Ev te σ F H (rTup2 R S) p) (e : Same F H) (k : ∀ a b F' H', Up F H F' H' → R.r F' a p.1 → S.r F' b p.2 → D.nx ((σ.set i (some a)).set j (some b)) H') : tAsg te (gTup K 2 (gCons (gName i) (gCons (gName j) gNil))) D σ H :=
  h H e (Same.refl _) _ fun v F' H' u r => by
    obtain ⟨a, b, h1, h2, h3⟩ := gt_tup2 (K := K) (i := i) (j := j) (σ := σ) r
    exact h3 H' u.s _ (k a b F' H' u h1 h2)
theorem q_asg2 {i j : Nat} {p : α × β} (h : Ev te σ F H (rTup2 R S) p) (e : Same F H) (k : ∀ a b F' H', Up F H F' H' → R.r F' a p.1 → S.r F' b p.2 → tz D ((σ.set i (some a)).set j (some b)) H') : tSeq (tAsg te (gTup K 2 (gCons (gName i) (gCons (gName j) gNil)))) tz D σ H :=
  s_asg2 (D := { D with nx := tz D }) h e k

/-! ### what is walked -/
structure WalkF (J : It) (F : Hp) (R : Rep α) (xs : List α) (P : Prop) : Prop where
  goes : ∀ i H, i < xs.length → Same F H → J.go i H
  stops : ∀ H, Same F H → J.stop xs.length H
  yields : ∀ i x F' H v H', xs[i]? = some x → Same F F' → Same F' H → J.yld i H v H' → ∃ F'', Up F' H F'' H' ∧ R.r F'' v x ∧ (P → F'' = F' ∧ H' = H)
/-- P: the walk makes no objects -/
def EvI (wi : TI) (σ : L2.St) (F H : Hp) (R : Rep α) (xs : List α) (P : Prop) : Prop := ∀ H1, Same F H1 → Same H H1 → ∀ k : It → Hp → Prop, (∀ J F' H', Up F H1 F' H' → WalkF J F' R xs P → k J H') → wi σ H1 k
theorem WalkF.know {J : It} {xs : List α} {P : Prop} {F' : Hp} (w : WalkF J F R xs P) (e : Same F F') : WalkF J F' R xs P :=
  ⟨fun i H hi q => w.goes i H hi (e.trans q), fun H q => w.stops H (e.trans q), fun i x F2 H v H' hx q1 q2 y => w.yields i x F2 H v H' hx (e.trans q1) q2 y⟩
theorem EvI.mono {wi : TI} {xs : List α} {P : Prop} {F' H' : Hp} (h : EvI wi σ F H R xs P) (e : Same F F') (k : Same H H') : EvI wi σ F' H' R xs P := fun H1 a b c q =>
  h H1 (e.trans a) (k.trans b) c fun J F2 H2 u w => q J _ H2 (u.more e a) (w.know (uni_r (a.trans u.h) u.s))
theorem EvI.up {wi : TI} {xs : List α} {P : Prop} {F' H' : Hp} (h : EvI wi σ F H R xs P) (u : Up F H F' H') : EvI wi σ F' H' R xs P := h.mono u.f u.h
theorem walkF_list {a : Addr} {vs : List V} {xs : List α} (h : F a = some (.lst vs)) (r : All2 (R.r F) vs xs) : WalkF (Itl K a) F R xs True :=
  ⟨fun i H hi q => by
    obtain ⟨v, h1, h2⟩ := r.getR (List.getElem?_eq_getElem hi)
    exact ⟨vs, v, SqL.of (q _ _ h), h1⟩, fun H q => ⟨vs, SqL.of (q _ _ h), by rw [r.length]; exact Nat.le_refl _⟩, fun i x F' H v H' hx q1 q2 y => by
    obtain ⟨rfl, y2⟩ := y
    have h1 := y2 vs (SqL.of (q2 _ _ (q1 _ _ h)))
    exact ⟨F', Up.refl q2, R.mono q1 (r.get h1 hx), fun _ => ⟨rfl, rfl⟩⟩⟩
theorem walkF_tup {a : Addr} {vs : List V} {xs : List α} (h : F a = some (.tup vs)) (r : All2 (R.r F) vs xs) : WalkF (Itt K a) F R xs True :=
  ⟨fun i H hi q => by
    obtain ⟨v, h1, h2⟩ := r.getR (List.getElem?_eq_getElem hi)
    exact ⟨vs, v, SqT.of (q _ _ h), h1⟩, fun H q => ⟨vs, SqT.of (q _ _ h), by rw [r.length]; exact Nat.le_refl _⟩, fun i x F' H v H' hx q1 q2 y => by
    obtain ⟨rfl, y2⟩ := y
    have h1 := y2 vs (SqT.of (q2 _ _ (q1 _ _ h)))
    exact ⟨F', Up.refl q2, R.mono q1 (r.get h1 hx), fun _ => ⟨rfl, rfl⟩⟩⟩
theorem ei_list {tl : TE} {xs : List α} (h : Ev tl σ F H (rLst R) xs) : EvI (iList K tl) σ F H R xs True := fun H1 a b k q =>
  h H1 a b _ fun v F2 H2 u r => by
    obtain ⟨p, vs, rfl, h2, h3⟩ := r
    exact ⟨p, rfl, ⟨vs, SqL.of (u.s _ _ h2)⟩, q _ F2 H2 u (walkF_list h2 h3)⟩
theorem ei_tup {tl : TE} {xs : List α} (h : Ev tl σ F H (rTupL R) xs) : EvI (iTup K tl) σ F H R xs True := fun H1 a b k q =>
  h H1 a b _ fun v F2 H2 u r => by
    obtain ⟨p, vs, rfl, h2, h3⟩ := r
    exact ⟨p, rfl, ⟨vs, SqT.of (u.s _ _ h2)⟩, q _ F2 H2 u (walkF_tup h2 h3)⟩
theorem range_get {n i x : Nat} (h : (List.range n)[i]? = some x) : x = i ∧ i < n := by
  obtain ⟨h1, h2⟩ := List.getElem?_eq_some_iff.mp h
  rw [List.getElem_range] at h2
  exact ⟨h2.symm, by simpa using h1⟩
theorem ei_rng1 {tr : TA} {n : Nat} (h : EvA tr σ F H (apCons rInt (n : Int) apNil)) (hn : n ≤ 100000) : EvI (iRng1 tr) σ F H rNat (List.range n) True := fun H1 a b k q =>
  h H1 a b _ fun vs F2 H2 u r => by
    obtain ⟨v, rfl, hr⟩ := ap1 r
    have hr' : v = .int n := hr
    subst hr'
    refine ⟨(n : Int), rfl, by omega, by omega, q _ F2 H2 u ⟨fun i H hi _ => ?_, fun H _ => ?_, fun i x F' H v H' hx q1 q2 y => ?_⟩⟩
    · rw [List.length_range] at hi
      show i < (n : Int).toNat
      omega
    · show (n : Int).toNat ≤ (List.range n).length
      rw [List.length_range]; omega
    · obtain ⟨rfl, rfl⟩ := y
      obtain ⟨rfl, _⟩ := range_get hx
      exact ⟨F', Up.refl q2, (show V.int (0 + (x : Int)) = V.int x by rw [Int.zero_add]), fun _ => ⟨rfl, rfl⟩⟩
/-- range(a, b), from a on -/
theorem ei_rng2 {tr : TA} {a n : Nat} (h : EvA tr σ F H (apCons rInt (a : Int) (apCons rInt (n : Int) apNil))) (hn : n ≤ 100000 ∧ a ≤ 100000) : EvI (iRng2 tr) σ F H rNat ((List.range (n - a)).map (a + ·)) True := fun H1 a1 b k q =>
  h H1 a1 b _ fun vs F2 H2 u r => by
    obtain ⟨v, w, rfl, hr, hw⟩ := ap2 r
    have hr' : v = .int a := hr
    have hw' : w = .int n := hw
    subst hr'; subst hw'
    have en : ((n : Int) - (a : Int)).toNat = n - a := by omega
    refine ⟨(a : Int), (n : Int), rfl, ⟨by omega, by omega, by omega, by omega⟩, q _ F2 H2 u ⟨fun i H hi _ => ?_, fun H _ => ?_, fun i x F' H v H' hx q1 q2 y => ?_⟩⟩
    · rw [List.length_map, List.length_range] at hi
      show i < ((n : Int) - (a : Int)).toNat
      omega
    · show ((n : Int) - (a : Int)).toNat ≤ _
      rw [List.length_map, List.length_range]; omega
    · obtain ⟨rfl, rfl⟩ := y
      rw [List.getElem?_map] at hx
      cases e : (List.range (n - a))[i]? with
      | none => rw [e] at hx; cases hx
      | some j =>
        rw [e] at hx
        obtain ⟨rfl, _⟩ := range_get e
        have hx' : a + j = x := Option.some.inj hx
        subst hx'
        exact ⟨F', Up.refl q2, (show V.int ((a : Int) + (j : Int)) = V.int ((a + j : Nat) : Int) by congr 1), fun _ => ⟨rfl, rfl⟩⟩
theorem ei_revT {tl : TE} {xs : List α} (h : Ev tl σ F H (rTupL R) xs) : EvI (RT.iRevA K tl) σ F H R xs.reverse True := fun H1 a b k q =>
  h H1 a b _ fun v F2 H2 u r => by
    obtain ⟨p, vs, rfl, h2, h3⟩ := r
    refine ⟨p, vs, rfl, .inr ⟨SqT.of (u.s _ _ h2), q _ F2 H2 u ⟨fun i H hi q1 => ?_, fun H q1 => ?_, fun i x F' H v H' hx q1 q2 y => ?_⟩⟩⟩
    · rw [List.length_reverse, ← h3.length] at hi
      exact ⟨hi, vs, vs[vs.length - 1 - i]'(by omega), SqT.of (q1 _ _ h2), by simp [show vs.length - 1 - i < vs.length by omega]⟩
    · show vs.length ≤ xs.reverse.length
      rw [List.length_reverse, h3.length]; exact Nat.le_refl _
    · obtain ⟨rfl, y2⟩ := y
      have h1 := y2 vs (SqT.of (q2 _ _ (q1 _ _ h2)))
      have hi : i < xs.length := by
        have z := (List.getElem?_eq_some_iff.mp hx).1
        rw [List.length_reverse] at z; exact z
      rw [List.getElem?_reverse hi, ← h3.length] at hx
      exact ⟨F', Up.refl q2, R.mono q1 (h3.get h1 hx), fun _ => ⟨rfl, rfl⟩⟩
theorem zip_get {xs : List α} {ys : List β} {i : Nat} {p : α × β} (h : (xs.zip ys)[i]? = some p) : xs[i]? = some p.1 ∧ ys[i]? = some p.2 := by
  rw [List.getElem?_zip_eq_some] at h
  exact h
theorem ei_zipL {tr : TA} {xs : List α} {ys : List β} (h : EvA tr σ F H (apCons (rLst R) xs (apCons (rLst S) ys apNil))) : EvI (iZip K tr) σ F H (rTup2 R S) (xs.zip ys) False := fun H1 a1 b k q =>
  h H1 a1 b _ fun vs F2 H2 u r => by
    obtain ⟨v, w, rfl, hr, hw⟩ := ap2 r
    obtain ⟨p, vs, rfl, h2, h3⟩ := hr
    obtain ⟨o, ws, rfl, h4, h5⟩ := hw
    refine ⟨p, o, vs, ws, rfl, SqL.of (u.s _ _ h2), SqL.of (u.s _ _ h4), q _ F2 H2 u ⟨fun i H hi q1 => ?_, fun H q1 => ?_, fun i x F' H v H' hx q1 q2 y => ?_⟩⟩
    · rw [List.length_zip] at hi
      have l1 := h3.length
      have l2 := h5.length
      exact ⟨vs, ws, vs[i]'(by omega), ws[i]'(by omega), SqL.of (q1 _ _ h2), SqL.of (q1 _ _ h4), by simp [show i < vs.length by omega], by simp [show i < ws.length by omega]⟩
    · refine ⟨vs, ws, SqL.of (q1 _ _ h2), SqL.of (q1 _ _ h4), ?_⟩
      rw [List.length_zip, h3.length, h5.length]; omega
    · obtain ⟨T, a, b, rfl, nT, rfl, f1, f2⟩ := y
      obtain ⟨g1, g2⟩ := zip_get hx
      have k1 := h3.get (f1 vs (SqL.of (q2 _ _ (q1 _ _ h2)))) g1
      have k2 := h5.get (f2 ws (SqL.of (q2 _ _ (q1 _ _ h4)))) g2
      exact ⟨upd F' T (.tup [a, b]), Up.new q2 nT, ⟨T, a, b, rfl, upd_same, R.mono (q1.trans (Same.new (q2.free nT))) k1, S.mono (q1.trans (Same.new (q2.free nT))) k2⟩, fun z => z.elim⟩
theorem ei_zipT {tr : TA} {xs : List α} {ys : List β} (h : EvA tr σ F H (apCons (rTupL R) xs (apCons (rTupL S) ys apNil))) : EvI (RZ.iZipA K tr) σ F H (rTup2 R S) (xs.zip ys) False := fun H1 a1 b k q =>
  h H1 a1 b _ fun vs F2 H2 u r => by
    obtain ⟨v, w, rfl, hr, hw⟩ := ap2 r
    obtain ⟨p, vs, rfl, h2, h3⟩ := hr
    obtain ⟨o, ws, rfl, h4, h5⟩ := hw
    refine ⟨p, o, vs, ws, rfl, .inr ⟨SqT.of (u.s _ _ h2), SqT.of (u.s _ _ h4), q _ F2 H2 u ⟨fun i H hi q1 => ?_, fun H q1 => ?_, fun i x F' H v H' hx q1 q2 y => ?_⟩⟩⟩
    · rw [List.length_zip] at hi
      have l1 := h3.length
      have l2 := h5.length
      exact ⟨vs, ws, vs[i]'(by omega), ws[i]'(by omega), SqT.of (q1 _ _ h2), SqT.of (q1 _ _ h4), by simp [show i < vs.length by omega], by simp [show i < ws.length by omega]⟩
    · refine ⟨vs, ws, SqT.of (q1 _ _ h2), SqT.of (q1 _ _ h4), ?_⟩
      rw [List.length_zip, h3.length, h5.length]; omega
    · obtain ⟨T, a, b, rfl, nT, rfl, f1, f2⟩ := y
      obtain ⟨g1, g2⟩ := zip_get hx
      have k1 := h3.get (f1 vs (SqT.of (q2 _ _ (q1 _ _ h2)))) g1
      have k2 := h5.get (f2 ws (SqT.of (q2 _ _ (q1 _ _ h4)))) g2
      exact ⟨upd F' T (.tup [a, b]), Up.new q2 nT, ⟨T, a, b, rfl, upd_same, R.mono (q1.trans (Same.new (q2.free nT))) k1, S.mono (q1.trans (Same.new (q2.free nT))) k2⟩, fun z => z.elim⟩
theorem ei_enum {tr : TA} {xs : List α} (h : EvA tr σ F H (apCons (rLst R) xs apNil)) : EvI (iEnum K tr) σ F H (rTup2 rNat R) ((List.range xs.length).zip xs) False := fun H1 a1 b k q =>
  h H1 a1 b _ fun vs F2 H2 u r => by
    obtain ⟨v, rfl, hr⟩ := ap1 r
    obtain ⟨p, vs, rfl, h2, h3⟩ := hr
    refine ⟨p, vs, rfl, SqL.of (u.s _ _ h2), q _ F2 H2 u ⟨fun i H hi q1 => ?_, fun H q1 => ?_, fun i x F' H v H' hx q1 q2 y => ?_⟩⟩
    · rw [List.length_zip, List.length_range] at hi
      have l1 := h3.length
      exact ⟨vs, vs[i]'(by omega), SqL.of (q1 _ _ h2), by simp [show i < vs.length by omega]⟩
    · refine ⟨vs, SqL.of (q1 _ _ h2), ?_⟩
      rw [List.length_zip, List.length_range, h3.length]; omega
    · obtain ⟨T, a, rfl, nT, rfl, f1⟩ := y
      obtain ⟨g1, g2⟩ := zip_get hx
      have k1 := h3.get (f1 vs (SqL.of (q2 _ _ (q1 _ _ h2)))) g2
      obtain ⟨e1, _⟩ := range_get g1
      exact ⟨upd F' T (.tup [.int (i : Nat), a]), Up.new q2 nT, ⟨T, _, a, rfl, upd_same, (show V.int _ = V.int _ by rw [e1]), R.mono (q1.trans (Same.new (q2.free nT))) k1⟩, fun z => z.elim⟩

/-! ### loops -/
def Nx (Pv : Nat → L2.St → Hp → Hp → Prop) (i : Nat) (F0 : Hp) : L2.St → Hp → Prop := fun σ H => ∃ F', Same F0 F' ∧ Pv i σ F' H
theorem s_forZ {wi : TI} {xs : List α} {P : Prop} (hI : EvI wi σ F H R xs P) (e : Same F H) (Pv : Nat → L2.St → Hp → Hp → Prop)
    (h0 : ∀ F' H', Up F H F' H' → Pv 0 σ F' H') (he : ∀ i σ F H, Pv i σ F H → Same F H)
    (hs : ∀ i x σ' F' H' F'' H'' v, xs[i]? = some x → Pv i σ' F' H' → Up F' H' F'' H'' → R.r F'' v x → g v σ' H'' fun σ2 H2 => tu { D with nx := Nx Pv (i + 1) F', ct := Nx Pv (i + 1) F', bk := D.nx } σ2 H2)
    (hd : ∀ σ' F' H', Pv xs.length σ' F' H' → D.nx σ' H') : tFor wi g tu D σ H := by
  refine hI H e (Same.refl _) _ fun J F1 H1 u w => ?_
  refine ⟨fun i m σ' H' => m = xs.length - i ∧ i ≤ xs.length ∧ ∃ F', Same F1 F' ∧ Pv i σ' F' H', ⟨xs.length, rfl, Nat.zero_le _, F1, Same.refl _, h0 F1 H1 u⟩, ?_⟩
  rintro i m σ' H' ⟨rfl, hi, F', f', p⟩
  have eF := he i σ' F' H' p
  by_cases hlt : i < xs.length
  · refine .inr ⟨w.goes i H' hlt (f'.trans eF), Nx Pv (i + 1) F', fun σ2 H2 q => ?_, fun v H2 y => ?_⟩
    · obtain ⟨F2, f2, p2⟩ := q
      exact ⟨xs.length - (i + 1), by omega, rfl, hlt, F2, f'.trans f2, p2⟩
    · obtain ⟨F2, u2, r2, _⟩ := w.yields i _ F' H' v H2 (List.getElem?_eq_getElem hlt) f' eF y
      exact hs i _ σ' F' H' F2 H2 v (List.getElem?_eq_getElem hlt) p u2 r2
  · have ei : i = xs.length := by omega
    subst ei
    exact .inl ⟨w.stops H' (f'.trans eF), hd σ' F' H' p⟩
theorem s_for {wi : TI} {xs : List α} (hI : EvI wi σ F H R xs True) (e : Same F H) (Pv : Nat → L2.St → Hp → Hp → Prop)
    (h0 : ∀ F' H', Up F H F' H' → Pv 0 σ F' H') (he : ∀ i σ F H, Pv i σ F H → Same F H)
    (hs : ∀ i x σ' F' H' v, xs[i]? = some x → Pv i σ' F' H' → R.r F' v x → g v σ' H' fun σ2 H2 => tu { D with nx := Nx Pv (i + 1) F', ct := Nx Pv (i + 1) F', bk := D.nx } σ2 H2)
    (hd : ∀ σ' F' H', Pv xs.length σ' F' H' → D.nx σ' H') : tFor wi g tu D σ H := by
  refine hI H e (Same.refl _) _ fun J F1 H1 u w => ?_
  refine ⟨fun i m σ' H' => m = xs.length - i ∧ i ≤ xs.length ∧ ∃ F', Same F1 F' ∧ Pv i σ' F' H', ⟨xs.length, rfl, Nat.zero_le _, F1, Same.refl _, h0 F1 H1 u⟩, ?_⟩
  rintro i m σ' H' ⟨rfl, hi, F', f', p⟩
  have eF := he i σ' F' H' p
  by_cases hlt : i < xs.length
  · refine .inr ⟨w.goes i H' hlt (f'.trans eF), Nx Pv (i + 1) F', fun σ2 H2 q => ?_, fun v H2 y => ?_⟩
    · obtain ⟨F2, f2, p2⟩ := q
      exact ⟨xs.length - (i + 1), by omega, rfl, hlt, F2, f'.trans f2, p2⟩
    · obtain ⟨F2, u2, r2, e2⟩ := w.yields i _ F' H' v H2 (List.getElem?_eq_getElem hlt) f' eF y
      obtain ⟨rfl, rfl⟩ := e2 trivial
      exact hs i _ σ' _ _ v (List.getElem?_eq_getElem hlt) p r2
  · have ei : i = xs.length := by omega
    subst ei
    exact .inl ⟨w.stops H' (f'.trans eF), hd σ' F' H' p⟩
theorem q_forZ {wi : TI} {xs : List α} {P : Prop} (hI : EvI wi σ F H R xs P) (e : Same F H) (Pv : Nat → L2.St → Hp → Hp → Prop)
    (h0 : ∀ F' H', Up F H F' H' → Pv 0 σ F' H') (he : ∀ i σ F H, Pv i σ F H → Same F H)
    (hs : ∀ i x σ' F' H' F'' H'' v, xs[i]? = some x → Pv i σ' F' H' → Up F' H' F'' H'' → R.r F'' v x → g v σ' H'' fun σ2 H2 => tu { D with nx := Nx Pv (i + 1) F', ct := Nx Pv (i + 1) F', bk := tz D } σ2 H2)
    (hd : ∀ σ' F' H', Pv xs.length σ' F' H' → tz D σ' H') : tSeq (tFor wi g tu) tz D σ H := s_forZ (D := { D with nx := tz D }) hI e Pv h0 he hs hd
theorem q_for {wi : TI} {xs : List α} (hI : EvI wi σ F H R xs True) (e : Same F H) (Pv : Nat → L2.St → Hp → Hp → Prop)
    (h0 : ∀ F' H', Up F H F' H' → Pv 0 σ F' H') (he : ∀ i σ F H, Pv i σ F H → Same F H)
    (hs : ∀ i x σ' F' H' v, xs[i]? = some x → Pv i σ' F' H' → R.r F' v x → g v σ' H' fun σ2 H2 => tu { D with nx := Nx Pv (i + 1) F', ct := Nx Pv (i + 1) F', bk := tz D } σ2 H2)
    (hd : ∀ σ' F' H', Pv xs.length σ' F' H' → tz D σ' H') : tSeq (tFor wi g tu) tz D σ H := s_for (D := { D with nx := tz D }) hI e Pv h0 he hs hd

/-! ### a comprehension -/
theorem take_filter_map {xs : List α} {p : α → Bool} {f : α → β} {i : Nat} {x : α} (h : xs[i]? = some x) : ((xs.take (i + 1)).filter p).map f = ((xs.take i).filter p).map f ++ (if p x = true then [f x] else []) := by
  rw [List.take_add_one, h, List.filter_append, List.map_append]
  congr 1
  cases hp : p x with
  | true =>
    rw [show (some x).toList = [x] from rfl, List.filter_cons_of_pos hp]
    rfl
  | false =>
    rw [show (some x).toList = [x] from rfl, List.filter_cons_of_neg (by rw [hp]; decide)]
    rfl
theorem ev_lc {wi : TI} {tt : TT} {vs : List Nat} {xs : List α} {P : Prop} (p : α → Bool) (f : α → β) (hI : EvI wi σ F H R xs P) (hz : xs.length < 100000)
    (hb : ∀ x v F', x ∈ xs → Same F F' → R.r F' v x → ∃ σ2, Gt g v (wipe σ vs) F' σ2 ∧ wipe σ2 vs = wipe σ vs ∧ EvB tt σ2 F' H (p x) ∧ (p x = true → Ev te σ2 F' H S (f x))) : Ev (tLc wi g tt te vs) σ F H (rLst S) ((xs.filter p).map f) := fun H1 a b Q q => by
  refine hI H1 a b _ fun J F1 H1' u w => ?_
  intro Dl hD
  refine ⟨fun i m H' => m = xs.length - i ∧ i ≤ xs.length ∧ ∃ F' ws, Same F1 F' ∧ Up F H1 F' H' ∧ Same H1' H' ∧ F' Dl = none ∧ H' Dl = some (.lst ws) ∧ All2 (S.r F') ws (((xs.take i).filter p).map f),
    ⟨xs.length, rfl, Nat.zero_le _, F1, [], Same.refl _, u.trans (Up.newM u.s hD), Same.new hD, u.s.free hD, upd_same, .nil⟩, ?_⟩
  rintro i m H' ⟨rfl, hi, F', ws, f', U, e1, hF, hL, r⟩
  by_cases hlt : i < xs.length
  · refine .inr ⟨w.goes i H' hlt (f'.trans U.s), _, fun H2 q => q, fun v H2 y => ?_⟩
    obtain ⟨F2, u2, r2, _⟩ := w.yields i _ F' H' v H2 (List.getElem?_eq_getElem hlt) f' U.s y
    obtain ⟨σ2, hg, hw, ht, he⟩ := hb _ v F2 (List.getElem_mem hlt) (U.f.trans u2.f) r2
    refine hg H2 u2.s _ ⟨hw, ht H2 u2.s (b.trans (U.h.trans u2.h)) _ fun H3 e3 => ?_⟩
    have U3 : Up F H1 F2 H3 := (U.trans u2).trans (Up.real u2.s e3)
    have hF2 : F2 Dl = none := u2.n Dl hF (by rw [hL]; simp)
    have hL3 : H3 Dl = some (.lst ws) := e3 _ _ (u2.h _ _ hL)
    have hH1 : H1 Dl = none := u.h.free hD
    have tk := take_filter_map (p := p) (f := f) (List.getElem?_eq_getElem hlt)
    cases hp : p xs[i] with
    | true =>
      show te σ2 H3 _
      refine he hp H3 U3.s (b.trans U3.h) _ fun y F4 H4 u4 r4 => ?_
      have hl4 : H4 Dl = some (.lst ws) := u4.h _ _ hL3
      have hF4 : F4 Dl = none := u4.n Dl hF2 (by rw [hL3]; simp)
      refine ⟨ws, hl4, ?_, xs.length - (i + 1), by omega, rfl, hlt, F4, ws ++ [y], (f'.trans u2.f).trans u4.f, ?_, ?_, hF4, upd_same, ?_⟩
      · rw [r.length, List.length_map]
        have h1 := List.length_filter_le p (xs.take i)
        rw [List.length_take] at h1
        exact line100 (by omega)
      · have U4 := U3.trans u4
        exact ⟨U4.f, U4.h.put hH1, U4.s.put hF4, U4.n⟩
      · exact (e1.trans (u2.h.trans (e3.trans u4.h))).put hD
      · rw [tk, hp]
        exact (r.up (u2.f.trans u4.f)).append (.one r4)
    | false =>
      refine ⟨xs.length - (i + 1), by omega, rfl, hlt, F2, ws, f'.trans u2.f, U3, e1.trans (u2.h.trans e3), hF2, hL3, ?_⟩
      rw [tk, hp]
      simp only [Bool.false_eq_true, if_false, List.append_nil]
      exact r.up u2.f
  · have ei : i = xs.length := by omega
    subst ei
    refine .inl ⟨w.stops H' (f'.trans U.s), ?_⟩
    have hH1 : H1 Dl = none := u.h.free hD
    rw [List.take_length] at r
    have m : Mut H1 F' H' Dl (.lst ws) := ⟨hH1, hF, hL⟩
    exact q _ _ H' (U.freeze m) ⟨Dl, ws, rfl, upd_same, r.up m.same⟩
/-- [e for x in ..], x a name -/
theorem ev_lcN {wi : TI} {vs : List Nat} {xs : List α} {P : Prop} {j : Nat} (f : α → β) (hI : EvI wi σ F H R xs P) (hz : xs.length < 100000) (hw : ∀ v, wipe ((wipe σ vs).set j (some v)) vs = wipe σ vs)
    (he : ∀ x v F', x ∈ xs → Same F F' → R.r F' v x → Ev te ((wipe σ vs).set j (some v)) F' H S (f x)) : Ev (tLc wi (gName j) tYes te vs) σ F H (rLst S) (xs.map f) :=
  (ev_lc (fun _ => true) f hI hz fun x v F' hx e r => ⟨_, gt_name, hw v, fun H1 _ _ _ q => q H1 (Same.refl _), fun _ => he x v F' hx e r⟩).is (by rw [List.filter_eq_self.mpr (fun _ _ => rfl)])
/-- [e for x in .. if t], x a name -/
theorem ev_lcNI {wi : TI} {tt : TT} {vs : List Nat} {xs : List α} {P : Prop} {j : Nat} (p : α → Bool) (f : α → β) (hI : EvI wi σ F H R xs P) (hz : xs.length < 100000) (hw : ∀ v, wipe ((wipe σ vs).set j (some v)) vs = wipe σ vs)
    (ht : ∀ x v F', x ∈ xs → Same F F' → R.r F' v x → EvB tt ((wipe σ vs).set j (some v)) F' H (p x)) (he : ∀ x v F', x ∈ xs → Same F F' → R.r F' v x → p x = true → Ev te ((wipe σ vs).set j (some v)) F' H S (f x)) :
    Ev (tLc wi (gName j) tt te vs) σ F H (rLst S) ((xs.filter p).map f) :=
  ev_lc p f hI hz fun x v F' hx e r => ⟨_, gt_name, hw v, ht x v F' hx e r, fun hp => he x v F' hx e r hp⟩

/-! ### more: slices of tuples, + of tuples -/
theorem cutG_whole {xs : List α} {lo hi : Option Int} (h : HT.sIx xs.length 0 lo = 0 ∧ HT.sIx xs.length xs.length hi = xs.length) : cutG xs lo hi = xs := by
  unfold cutG
  rw [h.1, h.2, Nat.sub_zero, List.drop_zero, List.take_length]
theorem ev_slT {xs : List α} {tl th : TO} {lo hi : Option Int} (ha : Ev ta σ F H (rTupL R) xs) (hl : EvO tl σ F H lo) (hh : EvO th σ F H hi) : Ev (tSl (rSlA K) ta tl th) σ F H (rTupL R) (cutG xs lo hi) :=
  ev_three ha hl hh fun F1 H1 a _ e1 ra Q q => by
    obtain ⟨p, vs, rfl, h2, h3⟩ := ra
    refine ⟨p, vs, rfl, SqT.of (e1 _ _ h2), fun hw => ?_, fun _ l hl => ?_⟩
    · rw [h3.length] at hw
      exact q _ F1 H1 (Up.refl e1) ⟨p, vs, rfl, h2, by rw [cutG_whole hw]; exact h3⟩
    · exact q _ _ _ (Up.new e1 hl) ⟨l, _, rfl, upd_same, (cut_all2 lo hi h3).up (Same.new (e1.free hl))⟩
theorem ev_catT {xs ys : List α} (ha : Ev ta σ F H (rTupL R) xs) (hb : Ev tb σ F H (rTupL R) ys) (hz : xs.length + ys.length ≤ 100000) : Ev (tOp (rCatA K) ta tb) σ F H (rTupL R) (xs ++ ys) :=
  ev_two ha hb fun F1 H1 a b _ e1 _ ra rb Q q => by
    obtain ⟨p, vs, rfl, h2, h3⟩ := ra
    obtain ⟨o, ws, rfl, h4, h5⟩ := rb
    refine ⟨p, o, vs, ws, rfl, rfl, SqT.of (e1 _ _ h2), SqT.of (e1 _ _ h4), line100' (by rw [h3.length, h5.length]; exact hz), fun hv => ?_, fun _ hw => ?_, fun _ _ l hl => ?_⟩
    · subst hv
      have hx : xs = [] := List.eq_nil_of_length_eq_zero h3.length.symm
      subst hx
      exact q _ F1 H1 (Up.refl e1) ⟨o, ws, rfl, h4, h5⟩
    · subst hw
      have hx : ys = [] := List.eq_nil_of_length_eq_zero h5.length.symm
      subst hx
      exact q _ F1 H1 (Up.refl e1) ⟨p, vs, rfl, h2, by rw [List.append_nil]; exact h3⟩
    · exact q _ _ _ (Up.new e1 hl) ⟨l, _, rfl, upd_same, (h3.append h5).up (Same.new (e1.free hl))⟩
theorem ev_tupRev {xs : List α} (ha : Ev ta σ F H (rLst R) xs) : Ev (RT.tTupRev K ta) σ F H (rTupL R) xs.reverse := fun H1 a b Q q =>
  ha H1 a b _ fun v F2 H2 u2 r2 => by
    obtain ⟨p, vs, rfl, h2, h3⟩ := r2
    exact ⟨p, vs, rfl, SqL.of (u2.s _ _ h2), fun l hl => q _ _ _ (u2.trans (Up.new u2.s hl)) ⟨l, _, rfl, upd_same, h3.reverse.up (Same.new (u2.s.free hl))⟩⟩
/-- [e for a, b in ..] -/
theorem ev_lcT2 {wi : TI} {vs : List Nat} {xs : List (α × β)} {P : Prop} {i j : Nat} (f : α × β → γ) (hI : EvI wi σ F H (rTup2 R S) xs P) (hz : xs.length < 100000) (hw : ∀ a b, wipe (((wipe σ vs).set i (some a)).set j (some b)) vs = wipe σ vs)
    (he : ∀ p a b F', p ∈ xs → Same F F' → R.r F' a p.1 → S.r F' b p.2 → Ev te (((wipe σ vs).set i (some a)).set j (some b)) F' H T (f p)) :
    Ev (tLc wi (gTup K 2 (gCons (gName i) (gCons (gName j) gNil))) tYes te vs) σ F H (rLst T) (xs.map f) :=
  (ev_lc (fun _ => true) f hI hz fun p v F' hx e r => by
    obtain ⟨a, b, h1, h2, h3⟩ := gt_tup2 (K := K) (i := i) (j := j) (σ := wipe σ vs) r
    exact ⟨_, h3, hw a b, fun H1 _ _ _ q => q H1 (Same.refl _), fun _ => he p a b F' hx e h1 h2⟩).is (by rw [List.filter_eq_self.mpr (fun _ _ => rfl)])
theorem set_same {l : List (Option V)} {i : Nat} {v : Option V} (h : l[i]? = some v) : l.set i v = l := by
  obtain ⟨hi, e⟩ := List.getElem?_eq_some_iff.mp h
  rw [← e, List.set_getElem_self]
/-- if c: x = e -/
theorem s_ifSet {i : Nat} {b : Bool} (h : EvB t σ F H b) (e : Same F H) (h1 : b = true → Ev te σ F H R x) (h2 : b = false → ∃ v, σ[i]? = some (some v) ∧ R.r F v x) (k : ∀ v F' H', Up F H F' H' → R.r F' v x → D.nx (σ.set i (some v)) H') : tIfS t (tAsg te (gName i)) tNext D σ H :=
  s_if h e (fun hb H1 u1 => s_set ((h1 hb).up u1) u1.s fun v F2 H2 u2 r2 => k v F2 H2 (u1.trans u2) r2) fun hb H1 u1 => by
    obtain ⟨v, e1, r1⟩ := h2 hb
    have q := k v F H1 u1 r1
    rw [set_same e1] at q
    exact q
theorem q_ifSet {i : Nat} {b : Bool} (h : EvB t σ F H b) (e : Same F H) (h1 : b = true → Ev te σ F H R x) (h2 : b = false → ∃ v, σ[i]? = some (some v) ∧ R.r F v x) (k : ∀ v F' H', Up F H F' H' → R.r F' v x → tz D (σ.set i (some v)) H') : tSeq (tIfS t (tAsg te (gName i)) tNext) tz D σ H :=
  s_ifSet (D := { D with nx := tz D }) h e h1 h2 k
end
end PM
end

section
set_option Elab.async false
set_option linter.all false
set_option autoImplicit false
/-! The program's defs as plain functions; codes and words belong to one another. No program here. -/
namespace PM
abbrev Pocket := Bool × Int
abbrev Pass := List Pocket
abbrev Passes' := List Pass
def codesAhead (ps : Passes') (late : Nat) : Int := (ps.take late).foldl (fun p q => p * (q.length : Int)) 1
def codes (ps : Passes') : Int := codesAhead ps ps.length
/-- what is asked of passes -/
structure WfP (ps : Passes') : Prop where
  many : ps.length ≤ 6
  pass : ∀ q ∈ ps, 1 ≤ q.length ∧ q.length ≤ 6
  wide : ∀ q ∈ ps, ∀ k ∈ q, 0 ≤ k.2 ∧ k.2 ≤ 9
  codes : codes ps ≤ 1000
def pk (p : Pass) (j : Nat) : Pocket := p.getD j (false, 0)
structure ValidW (ps : Passes') (late : Nat) (w : List Nat) : Prop where
  lt : late ≤ ps.length
  len : w.length = ps.length - late
  ok : ∀ (i j : Nat) (p : Pass), w[i]? = some j → (ps.drop late)[i]? = some p → j < p.length
def faceOf (ps : Passes') (late : Nat) (w : List Nat) : Int := (w.zip (ps.drop late)).foldl (fun s jp => if (pk jp.2 jp.1).1 = true then -s else s) 1
def fitsOf (ps : Passes') (late : Nat) (w : List Nat) (size : Int) : Bool := ((w.zip (ps.drop late)).map fun jp => decide (size ≤ (pk jp.2 jp.1).2)).all id
def cwStep (st : Int × Int × List Nat) (p : Pass) : Int × Int × List Nat :=
  (st.1 / (p.length : Int), if (pk p (st.2.1 / (st.1 / (p.length : Int))).toNat).1 = true then st.1 / (p.length : Int) - 1 - st.2.1 % (st.1 / (p.length : Int)) else st.2.1 % (st.1 / (p.length : Int)), st.2.2 ++ [(st.2.1 / (st.1 / (p.length : Int))).toNat])
def cwRun (ps : Passes') (late : Nat) (code : Int) : Int × Int × List Nat := (ps.drop late).reverse.foldl cwStep (codes ps, code, [])
def codeWord (ps : Passes') (late : Nat) (code : Int) : Option (List Nat) :=
  if (cwRun ps late code).2.1 = (cwRun ps late code).1 - 1 then some (cwRun ps late code).2.2.reverse else none
/-- n, the code, the face, as a letter goes -/
def goStep (st : Int × Int × Int) (jp : Nat × Pass) : Int × Int × Int :=
  (st.1 * (jp.2.length : Int), (jp.1 : Int) * st.1 + (if (pk jp.2 jp.1).1 = true then st.1 - 1 - st.2.1 else st.2.1), if (pk jp.2 jp.1).1 = true then -st.2.2 else st.2.2)
def goRun (ps : Passes') (late : Nat) (w : List Nat) (i : Nat) : Int × Int × Int := ((w.zip (ps.drop late)).take i).foldl goStep (codesAhead ps late, codesAhead ps late - 1, 1)
def wordCode (ps : Passes') (late : Nat) (w : List Nat) : Int := (goRun ps late w (ps.length - late)).2.1

/-! ### counts of codes -/
theorem foldl_pos : ∀ (l : List Pass) (a : Int), 0 < a → (∀ q ∈ l, 1 ≤ q.length) → 0 < l.foldl (fun p q => p * (q.length : Int)) a
  | [], a, h, _ => h
  | q :: r, a, h, hq => foldl_pos r _ (Int.mul_pos h (by have := hq q (by simp); omega)) fun x m => hq x (by simp [m])
theorem codesAhead_pos {ps : Passes'} (h : WfP ps) (t : Nat) : 0 < codesAhead ps t := foldl_pos _ _ (by decide) fun q m => (h.pass q (List.mem_of_mem_take m)).1
theorem codesAhead_zero (ps : Passes') : codesAhead ps 0 = 1 := rfl
theorem codesAhead_succ {ps : Passes'} {t : Nat} {q : Pass} (h : ps[t]? = some q) : codesAhead ps (t + 1) = codesAhead ps t * (q.length : Int) := by
  unfold codesAhead
  rw [List.take_add_one, h, List.foldl_append]
  rfl
theorem codesAhead_le {ps : Passes'} (h : WfP ps) {t : Nat} (ht : t < ps.length) : codesAhead ps t ≤ codesAhead ps (t + 1) := by
  rw [codesAhead_succ (List.getElem?_eq_getElem ht)]
  have h1 := codesAhead_pos h t
  have h2 := (h.pass ps[t] (List.getElem_mem ht)).1
  have h3 : codesAhead ps t * 1 ≤ codesAhead ps t * (ps[t].length : Int) := Int.mul_le_mul_of_nonneg_left (by omega) (by omega)
  omega
theorem codesAhead_mono {ps : Passes'} (h : WfP ps) : ∀ (d t : Nat), t + d ≤ ps.length → codesAhead ps t ≤ codesAhead ps (t + d)
  | 0, _, _ => Int.le_refl _
  | d + 1, t, hd => Int.le_trans (codesAhead_mono h d t (by omega)) (by have := codesAhead_le h (t := t + d) (by omega); rw [Nat.add_assoc] at this; exact this)
theorem codesAhead_le_codes {ps : Passes'} (h : WfP ps) {t : Nat} (ht : t ≤ ps.length) : codesAhead ps t ≤ codes ps := by
  have := codesAhead_mono h (ps.length - t) t (by omega)
  rw [show t + (ps.length - t) = ps.length by omega] at this
  exact this

/-! ### going and coming back -/
theorem goRun_zero (ps : Passes') (late : Nat) (w : List Nat) : goRun ps late w 0 = (codesAhead ps late, codesAhead ps late - 1, 1) := rfl
theorem goRun_succ {ps : Passes'} {late : Nat} {w : List Nat} {i j : Nat} {p : Pass} (hw : w[i]? = some j) (hp : ps[late + i]? = some p) : goRun ps late w (i + 1) = goStep (goRun ps late w i) (j, p) := by
  unfold goRun
  have e : (w.zip (ps.drop late))[i]? = some (j, p) := by
    rw [List.getElem?_zip_eq_some]
    exact ⟨hw, by rw [List.getElem?_drop]; exact hp⟩
  rw [List.take_add_one, e, List.foldl_append]
  rfl
theorem valid_at {ps : Passes'} {late : Nat} {w : List Nat} (h : ValidW ps late w) {i : Nat} (hi : late + i < ps.length) : ∃ j p, w[i]? = some j ∧ ps[late + i]? = some p ∧ j < p.length := by
  have h1 : i < w.length := by rw [h.len]; omega
  refine ⟨w[i], ps[late + i], List.getElem?_eq_getElem h1, List.getElem?_eq_getElem hi, ?_⟩
  exact h.ok i _ _ (List.getElem?_eq_getElem h1) (by rw [List.getElem?_drop]; exact List.getElem?_eq_getElem hi)
/-- as a letter goes: n is the count of codes ahead, the code is below it, the face is a sign -/
theorem go_inv {ps : Passes'} {late : Nat} {w : List Nat} (wf : WfP ps) (h : ValidW ps late w) : ∀ i, late + i ≤ ps.length →
    (goRun ps late w i).1 = codesAhead ps (late + i) ∧ 0 ≤ (goRun ps late w i).2.1 ∧ (goRun ps late w i).2.1 < codesAhead ps (late + i) ∧ ((goRun ps late w i).2.2 = 1 ∨ (goRun ps late w i).2.2 = -1)
  | 0, _ => by
    rw [goRun_zero]
    have := codesAhead_pos wf late
    refine ⟨rfl, ?_, ?_, .inl rfl⟩
    · show 0 ≤ codesAhead ps late - 1; omega
    · show codesAhead ps late - 1 < codesAhead ps late; omega
  | i + 1, hi => by
    obtain ⟨h1, h2, h3, h4⟩ := go_inv wf h i (by omega)
    obtain ⟨j, p, hj, hp, hjp⟩ := valid_at h (i := i) (by omega)
    rw [goRun_succ hj hp, show late + (i + 1) = late + i + 1 by omega, codesAhead_succ hp]
    unfold goStep
    dsimp only
    rw [h1]
    refine ⟨rfl, ?_, ?_, ?_⟩
    · have hn : 0 ≤ (j : Int) * codesAhead ps (late + i) := Int.mul_nonneg (by omega) (by omega)
      split <;> omega
    · have hn : ((j : Int) + 1) * codesAhead ps (late + i) ≤ (p.length : Int) * codesAhead ps (late + i) := Int.mul_le_mul_of_nonneg_right (by omega) (by omega)
      rw [Int.add_mul, Int.one_mul] at hn
      rw [Int.mul_comm (codesAhead ps (late + i)) (p.length : Int)]
      split <;> omega
    · split <;> omega
/-- the face is faceOf -/
theorem face_fold : ∀ (l : List (Nat × Pass)) (st : Int × Int × Int), (l.foldl goStep st).2.2 = l.foldl (fun s jp => if (pk jp.2 jp.1).1 = true then -s else s) st.2.2
  | [], _ => rfl
  | x :: r, st => by
    rw [List.foldl_cons, List.foldl_cons, face_fold r]
    rfl
theorem zip_len {ps : Passes'} {late : Nat} {w : List Nat} (h : ValidW ps late w) : (w.zip (ps.drop late)).length = ps.length - late := by
  rw [List.length_zip, h.len, List.length_drop]; omega
theorem goRun_face {ps : Passes'} {late : Nat} {w : List Nat} (h : ValidW ps late w) : (goRun ps late w (ps.length - late)).2.2 = faceOf ps late w := by
  unfold goRun faceOf
  rw [face_fold, List.take_of_length_le (by rw [zip_len h]; omega)]
theorem wordCode_bound {ps : Passes'} {late : Nat} {w : List Nat} (wf : WfP ps) (h : ValidW ps late w) : 0 ≤ wordCode ps late w ∧ wordCode ps late w < codes ps := by
  have hl := h.lt
  obtain ⟨_, h2, h3, _⟩ := go_inv wf h (ps.length - late) (by omega)
  rw [show late + (ps.length - late) = ps.length by omega] at h3
  exact ⟨h2, h3⟩
theorem faceOf_sign {ps : Passes'} {late : Nat} {w : List Nat} (wf : WfP ps) (h : ValidW ps late w) : faceOf ps late w = 1 ∨ faceOf ps late w = -1 := by
  have hl := h.lt
  obtain ⟨_, _, _, h4⟩ := go_inv wf h (ps.length - late) (by omega)
  rw [goRun_face h] at h4
  exact h4

/-- the way back: i passes are left -/
def backRun (ps : Passes') (late : Nat) (code : Int) (i : Nat) : Int × Int × List Nat := ((ps.drop late).drop i).reverse.foldl cwStep (codes ps, code, [])
theorem backRun_end (ps : Passes') (late : Nat) (code : Int) : backRun ps late code (ps.length - late) = (codes ps, code, []) := by
  unfold backRun
  rw [List.drop_drop, show late + (ps.length - late) = max late ps.length by omega, List.drop_eq_nil_of_le (by omega)]
  rfl
theorem backRun_zero (ps : Passes') (late : Nat) (code : Int) : backRun ps late code 0 = cwRun ps late code := rfl
theorem backRun_step {ps : Passes'} {late i : Nat} {p : Pass} (code : Int) (hp : ps[late + i]? = some p) : backRun ps late code i = cwStep (backRun ps late code (i + 1)) p := by
  unfold backRun
  obtain ⟨hlt, e⟩ := List.getElem?_eq_some_iff.mp hp
  rw [List.drop_drop, List.drop_drop, List.drop_eq_getElem_cons hlt, e, List.reverse_cons, List.foldl_append]
  rfl
theorem div_of {j n c : Int} (hn : 0 < n) (h0 : 0 ≤ c) (h1 : c < n) : (j * n + c) / n = j ∧ (j * n + c) % n = c := by
  constructor
  · rw [Int.add_comm, Int.add_mul_ediv_right _ _ (by omega), Int.ediv_eq_zero_of_lt h0 h1]; omega
  · rw [Int.add_comm, Int.add_mul_emod_self_right, Int.emod_eq_of_lt h0 h1]
/-- the way back of a word's code is the word -/
theorem back_go {ps : Passes'} {late : Nat} {w : List Nat} (wf : WfP ps) (h : ValidW ps late w) : ∀ d i, i + d = ps.length - late →
    backRun ps late (wordCode ps late w) i = ((goRun ps late w i).1, (goRun ps late w i).2.1, (w.drop i).reverse)
  | 0, i, hi => by
    have hl := h.lt
    have ei : i = ps.length - late := by omega
    subst ei
    rw [backRun_end, List.drop_eq_nil_of_le (by rw [h.len]; omega)]
    obtain ⟨h1, _⟩ := go_inv wf h (ps.length - late) (by omega)
    rw [h1, show late + (ps.length - late) = ps.length by omega]
    rfl
  | d + 1, i, hi => by
    have hl := h.lt
    obtain ⟨j, p, hj, hp, hjp⟩ := valid_at h (i := i) (by omega)
    have ih := back_go wf h d (i + 1) (by omega)
    obtain ⟨h1, h2, h3, _⟩ := go_inv wf h i (by omega)
    rw [backRun_step _ hp, ih, goRun_succ hj hp]
    have hlen : 0 < (p.length : Int) := by omega
    have e1 : (goRun ps late w i).1 * (p.length : Int) / (p.length : Int) = (goRun ps late w i).1 := Int.mul_ediv_cancel _ (by omega)
    have hwi : w.drop i = j :: w.drop (i + 1) := by
      obtain ⟨hlt, e⟩ := List.getElem?_eq_some_iff.mp hj
      rw [List.drop_eq_getElem_cons hlt, e]
    unfold cwStep goStep
    dsimp only
    rw [e1, hwi, List.reverse_cons]
    rw [← h1] at h3
    have hc : ∀ c, 0 ≤ c → c < (goRun ps late w i).1 → ((j : Int) * (goRun ps late w i).1 + c) / (goRun ps late w i).1 = (j : Int) ∧ ((j : Int) * (goRun ps late w i).1 + c) % (goRun ps late w i).1 = c := fun c a b => div_of (by omega) a b
    by_cases hb : (pk p j).1 = true
    · rw [if_pos hb]
      obtain ⟨a1, a2⟩ := hc ((goRun ps late w i).1 - 1 - (goRun ps late w i).2.1) (by omega) (by omega)
      rw [a1, a2, Int.toNat_natCast, if_pos hb, show (goRun ps late w i).1 - 1 - ((goRun ps late w i).1 - 1 - (goRun ps late w i).2.1) = (goRun ps late w i).2.1 by omega]
    · rw [if_neg hb]
      obtain ⟨a1, a2⟩ := hc (goRun ps late w i).2.1 (by omega) (by omega)
      rw [a1, a2, Int.toNat_natCast, if_neg hb]
theorem codeWord_of {ps : Passes'} {late : Nat} {w : List Nat} (wf : WfP ps) (h : ValidW ps late w) : codeWord ps late (wordCode ps late w) = some w := by
  have e := back_go wf h (ps.length - late) 0 (by omega)
  rw [backRun_zero] at e
  unfold codeWord
  rw [e, goRun_zero]
  dsimp only
  rw [if_pos rfl, List.drop_zero, List.reverse_reverse]

/-- on the way back: the count of codes, a code below it, the word of what was left behind -/
theorem back_inv {ps : Passes'} {late : Nat} {code : Int} (wf : WfP ps) (hl : late ≤ ps.length) (h0 : 0 ≤ code) (h1 : code < codes ps) : ∀ d i, i + d = ps.length - late →
    (backRun ps late code i).1 = codesAhead ps (late + i) ∧ 0 ≤ (backRun ps late code i).2.1 ∧ (backRun ps late code i).2.1 < codesAhead ps (late + i) ∧ (backRun ps late code i).2.2.length = d ∧
    ∀ (m j : Nat) (p : Pass), (backRun ps late code i).2.2[m]? = some j → ps[ps.length - 1 - m]? = some p → j < p.length
  | 0, i, hi => by
    have ei : i = ps.length - late := by omega
    subst ei
    rw [backRun_end, show late + (ps.length - late) = ps.length by omega]
    exact ⟨rfl, h0, h1, rfl, fun m j p h => by simp at h⟩
  | d + 1, i, hi => by
    have hlt : late + i < ps.length := by omega
    have hp : ps[late + i]? = some ps[late + i] := List.getElem?_eq_getElem hlt
    generalize ps[late + i] = p at hp
    obtain ⟨a1, a2, a3, a4, a5⟩ := back_inv wf hl h0 h1 d (i + 1) (by omega)
    rw [show late + (i + 1) = late + i + 1 by omega, codesAhead_succ hp] at a1 a3
    have hpos := codesAhead_pos wf (late + i)
    have hlen : 1 ≤ p.length := (wf.pass p (List.mem_of_getElem? hp)).1
    have e1 : codesAhead ps (late + i) * (p.length : Int) / (p.length : Int) = codesAhead ps (late + i) := Int.mul_ediv_cancel _ (by omega)
    rw [backRun_step _ hp]
    unfold cwStep
    dsimp only
    rw [a1, e1]
    have m0 := Int.emod_nonneg (backRun ps late code (i + 1)).2.1 (show codesAhead ps (late + i) ≠ 0 by omega)
    have m1 := Int.emod_lt_of_pos (backRun ps late code (i + 1)).2.1 hpos
    have q0 : 0 ≤ (backRun ps late code (i + 1)).2.1 / codesAhead ps (late + i) := Int.ediv_nonneg a2 (by omega)
    have q1 : (backRun ps late code (i + 1)).2.1 / codesAhead ps (late + i) < (p.length : Int) := Int.ediv_lt_of_lt_mul hpos (by rw [Int.mul_comm]; exact a3)
    refine ⟨rfl, ?_, ?_, ?_, fun m j p' hm hp' => ?_⟩
    · split <;> omega
    · split <;> omega
    · rw [List.length_append, a4]; rfl
    · by_cases hmd : m < d
      · rw [List.getElem?_append_left (by omega)] at hm
        exact a5 m j p' hm hp'
      · rw [List.getElem?_append_right (by omega), a4] at hm
        have em : m - d = 0 := by
          cases e : m - d with
          | zero => rfl
          | succ k => rw [e] at hm; simp at hm
        rw [em] at hm
        have ej := Option.some.inj hm
        have hpp : ps.length - 1 - m = late + i := by omega
        rw [hpp, hp] at hp'
        cases hp'
        omega
theorem getElem?_rev {α : Type} {l : List α} {i : Nat} {x : α} (h : l.reverse[i]? = some x) : l[l.length - 1 - i]? = some x ∧ i < l.length := by
  have hi : i < l.length := by
    have := (List.getElem?_eq_some_iff.mp h).1
    simpa using this
  rw [List.getElem?_reverse hi] at h
  exact ⟨h, hi⟩
/-- what the way back gives is a word -/
theorem codeWord_valid {ps : Passes'} {late : Nat} {code : Int} {w : List Nat} (wf : WfP ps) (hl : late ≤ ps.length) (h0 : 0 ≤ code) (h1 : code < codes ps) (h : codeWord ps late code = some w) : ValidW ps late w := by
  obtain ⟨_, _, _, a4, a5⟩ := back_inv wf hl h0 h1 (ps.length - late) 0 (by omega)
  rw [backRun_zero] at a4 a5
  unfold codeWord at h
  split at h
  · have e := Option.some.inj h
    subst e
    refine ⟨hl, by rw [List.length_reverse, a4], fun i j p hj hp => ?_⟩
    obtain ⟨hj', hi⟩ := getElem?_rev hj
    rw [List.getElem?_drop] at hp
    refine a5 _ j p hj' ?_
    rw [a4]
    rw [a4] at hi
    rw [show ps.length - 1 - (ps.length - late - 1 - i) = late + i by omega]
    exact hp
  · cases h
/-- and its code is the code -/
theorem go_back {ps : Passes'} {late : Nat} {code : Int} {w : List Nat} (wf : WfP ps) (hl : late ≤ ps.length) (h0 : 0 ≤ code) (h1 : code < codes ps) (h : codeWord ps late code = some w) : ∀ i, late + i ≤ ps.length →
    (goRun ps late w i).1 = (backRun ps late code i).1 ∧ (goRun ps late w i).2.1 = (backRun ps late code i).2.1
  | 0, _ => by
    rw [goRun_zero, backRun_zero]
    have a1 := (back_inv wf hl h0 h1 (ps.length - late) 0 (by omega)).1
    rw [backRun_zero] at a1
    unfold codeWord at h
    split at h
    · rename_i e
      exact ⟨a1.symm, by rw [e, a1]; rfl⟩
    · cases h
  | i + 1, hi => by
    obtain ⟨b1, b2⟩ := go_back wf hl h0 h1 h i (by omega)
    have hlt : late + i < ps.length := by omega
    have hp : ps[late + i]? = some ps[late + i] := List.getElem?_eq_getElem hlt
    generalize ps[late + i] = p at hp
    obtain ⟨c1, c2, c3, c4, c5⟩ := back_inv wf hl h0 h1 (ps.length - late - (i + 1)) (i + 1) (by omega)
    obtain ⟨d1, d2, d3, d4, d5⟩ := back_inv wf hl h0 h1 (ps.length - late - i) i (by omega)
    rw [show late + (i + 1) = late + i + 1 by omega, codesAhead_succ hp] at c1 c3
    have hpos := codesAhead_pos wf (late + i)
    have hlen : 1 ≤ p.length := (wf.pass p (List.mem_of_getElem? hp)).1
    have e1 : codesAhead ps (late + i) * (p.length : Int) / (p.length : Int) = codesAhead ps (late + i) := Int.mul_ediv_cancel _ (by omega)
    -- the letter's pocket there
    have hw : w[i]? = some ((backRun ps late code (i + 1)).2.1 / codesAhead ps (late + i)).toNat := by
      have hall : ∀ d' i', i' + d' = ps.length - late → ∀ (m j : Nat), (backRun ps late code i').2.2[m]? = some j → (cwRun ps late code).2.2[m]? = some j := by
        intro d' i'
        induction i' generalizing d' with
        | zero => intro _ m j hj; rw [backRun_zero] at hj; exact hj
        | succ n ih =>
          intro hd m j hj
          have hn : late + n < ps.length := by omega
          refine ih (d' + 1) (by omega) m j ?_
          rw [backRun_step code (List.getElem?_eq_getElem hn)]
          unfold cwStep
          dsimp only
          rw [List.getElem?_append_left (List.getElem?_eq_some_iff.mp hj).1]
          exact hj
      have h5 : (backRun ps late code i).2.2[ps.length - late - (i + 1)]? = some ((backRun ps late code (i + 1)).2.1 / codesAhead ps (late + i)).toNat := by
        rw [backRun_step _ hp]
        unfold cwStep
        dsimp only
        rw [c1, e1, List.getElem?_append_right (by omega), c4, Nat.sub_self]
        rfl
      have h6 := hall (ps.length - late - i) i (by omega) _ _ h5
      have h7 := (back_inv wf hl h0 h1 (ps.length - late) 0 (by omega)).2.2.2.1
      rw [backRun_zero] at h7
      unfold codeWord at h
      split at h
      · have e := Option.some.inj h
        rw [← e, List.getElem?_reverse (by omega), h7, show ps.length - late - 1 - i = ps.length - late - (i + 1) by omega]
        exact h6
      · cases h
    have q0 : 0 ≤ (backRun ps late code (i + 1)).2.1 / codesAhead ps (late + i) := Int.ediv_nonneg c2 (by omega)
    have hst := backRun_step code hp
    unfold cwStep at hst
    rw [c1, e1] at hst
    rw [goRun_succ hw hp]
    unfold goStep
    dsimp only
    rw [b1, d1, b2, c1]
    refine ⟨rfl, ?_⟩
    rw [Int.toNat_of_nonneg q0]
    have hde := Int.mul_ediv_add_emod (backRun ps late code (i + 1)).2.1 (codesAhead ps (late + i))
    rw [Int.mul_comm] at hde
    have hst2 : (backRun ps late code i).2.1 = if (pk p ((backRun ps late code (i + 1)).2.1 / codesAhead ps (late + i)).toNat).1 = true then codesAhead ps (late + i) - 1 - (backRun ps late code (i + 1)).2.1 % codesAhead ps (late + i) else (backRun ps late code (i + 1)).2.1 % codesAhead ps (late + i) := by
      rw [hst]
    rw [hst2]
    by_cases hb : (pk p ((backRun ps late code (i + 1)).2.1 / codesAhead ps (late + i)).toNat).1 = true
    · rw [if_pos hb, if_pos hb]; omega
    · rw [if_neg hb, if_neg hb]; omega
theorem wordCode_of {ps : Passes'} {late : Nat} {code : Int} {w : List Nat} (wf : WfP ps) (hl : late ≤ ps.length) (h0 : 0 ≤ code) (h1 : code < codes ps) (h : codeWord ps late code = some w) : wordCode ps late w = code := by
  obtain ⟨_, b2⟩ := go_back wf hl h0 h1 h (ps.length - late) (by omega)
  unfold wordCode
  rw [b2, backRun_end]
end PM
end

section
set_option Elab.async false
set_option linter.all false
set_option autoImplicit false
/-! Trays: behind each pass the row stands by rising places. No program here. -/
namespace PM
abbrev Letters := List (Int × Nat)
def lateOf (ls : Letters) (k : Nat) : Nat := (ls.getD k (0, 0)).2
def sizeOf' (ls : Letters) (k : Nat) : Int := (ls.getD k (0, 0)).1
def wordOf (plan : List (List Nat)) (k : Nat) : List Nat := plan.getD k []
def passOf (ps : Passes') (t : Nat) : Pass := ps.getD t []
def joinAt (ls : Letters) (line : List Nat) (t : Nat) : List Nat := line ++ (List.range ls.length).filter fun k => decide ((lateOf ls k : Int) = (t : Int))
def pocketOf (ls : Letters) (plan : List (List Nat)) (t k : Nat) : Nat := (wordOf plan k).getD (t - lateOf ls k) 0
def pocketsAt (ls : Letters) (plan : List (List Nat)) (line : List Nat) (t n : Nat) : List (List Nat) := (List.range n).map fun j => line.filter fun k => decide (pocketOf ls plan t k = j)
def emptyOne (pockets : List (List Nat)) (kinds : Pass) (k : Nat) : List Nat := if (pk kinds k).1 = true then (pockets.getD k []).reverse else pockets.getD k []
def emptiedOf (pockets : List (List Nat)) (kinds : Pass) : List Nat := ((List.range pockets.length).map (emptyOne pockets kinds)).flatten
def lineAt (ps : Passes') (ls : Letters) (plan : List (List Nat)) : Nat → List Nat
  | 0 => joinAt ls [] 0
  | t + 1 => joinAt ls (emptiedOf (pocketsAt ls plan (lineAt ps ls plan t) t (passOf ps t).length) (passOf ps t)) (t + 1)
def endRow (ps : Passes') (ls : Letters) (plan : List (List Nat)) : List Nat := lineAt ps ls plan ps.length
/-- letters for a mill -/
structure WfL (ps : Passes') (ls : Letters) : Prop where
  many : ls.length ≤ 24
  size : ∀ l ∈ ls, 1 ≤ l.1 ∧ l.1 ≤ 9
  late : ∀ l ∈ ls, l.2 ≤ ps.length
/-- a plan for them -/
structure GoodP (ps : Passes') (ls : Letters) (plan : List (List Nat)) : Prop where
  len : plan.length = ls.length
  word : ∀ k, k < ls.length → ValidW ps (lateOf ls k) (wordOf plan k)
  fits : ∀ k, k < ls.length → fitsOf ps (lateOf ls k) (wordOf plan k) (sizeOf' ls k) = true
def ltP (p q : Int × Int) : Prop := p.1 < q.1 ∨ (p.1 = q.1 ∧ p.2 < q.2)
instance (p q : Int × Int) : Decidable (ltP p q) := inferInstanceAs (Decidable (_ ∨ _))
theorem ltP_trans {p q r : Int × Int} (h : ltP p q) (k : ltP q r) : ltP p r := by unfold ltP at *; omega
theorem ltP_irr {p : Int × Int} (h : ltP p p) : False := by unfold ltP at h; omega
theorem ltP_asymm {p q : Int × Int} (h : ltP p q) (k : ltP q p) : False := ltP_irr (ltP_trans h k)
def keyOf (ls : Letters) (k : Nat) : Int := (k : Int) + (ls.length : Int) * (lateOf ls k : Int)
/-- the place ahead of pass t -/
def placeAt (ps : Passes') (ls : Letters) (plan : List (List Nat)) (t k : Nat) : Int × Int :=
  ((goRun ps (lateOf ls k) (wordOf plan k) (t - lateOf ls k)).2.1, (goRun ps (lateOf ls k) (wordOf plan k) (t - lateOf ls k)).2.2 * keyOf ls k)
def placeW (ps : Passes') (ls : Letters) (k : Nat) (w : List Nat) : Int × Int := (wordCode ps (lateOf ls k) w, faceOf ps (lateOf ls k) w * keyOf ls k)
def placeOf (ps : Passes') (ls : Letters) (plan : List (List Nat)) (k : Nat) : Int × Int := placeW ps ls k (wordOf plan k)

section
variable {ps : Passes'} {ls : Letters} {plan : List (List Nat)}
theorem late_le (wl : WfL ps ls) {k : Nat} (hk : k < ls.length) : lateOf ls k ≤ ps.length := by
  unfold lateOf
  rw [List.getD_eq_getElem?_getD, List.getElem?_eq_getElem hk]
  exact wl.late _ (List.getElem_mem hk)
theorem key_bound {k : Nat} (hk : k < ls.length) : 0 ≤ keyOf ls k ∧ keyOf ls k < (ls.length : Int) * ((lateOf ls k : Int) + 1) := by
  unfold keyOf
  have h : 0 ≤ (ls.length : Int) * (lateOf ls k : Int) := Int.mul_nonneg (by omega) (by omega)
  rw [Int.mul_add, Int.mul_one]
  omega
/-- a letter ahead of pass t: its code is below the count, its key is small -/
theorem place_inv (wf : WfP ps) (g : GoodP ps ls plan) {t k : Nat} (hk : k < ls.length) (hl : lateOf ls k ≤ t) (ht : t ≤ ps.length) :
    0 ≤ (placeAt ps ls plan t k).1 ∧ (placeAt ps ls plan t k).1 < codesAhead ps t ∧ (placeAt ps ls plan t k).2 < (ls.length : Int) * ((lateOf ls k : Int) + 1) := by
  obtain ⟨_, h2, h3, h4⟩ := go_inv wf (g.word k hk) (t - lateOf ls k) (by omega)
  rw [show lateOf ls k + (t - lateOf ls k) = t by omega] at h3
  obtain ⟨b1, b2⟩ := key_bound hk
  refine ⟨h2, h3, ?_⟩
  show (goRun ps (lateOf ls k) (wordOf plan k) (t - lateOf ls k)).2.2 * keyOf ls k < _
  rcases h4 with e | e
  · rw [e, Int.one_mul]; exact b2
  · rw [e]; omega
theorem place_new (wf : WfP ps) {t k : Nat} (hl : lateOf ls k = t) : placeAt ps ls plan t k = (codesAhead ps t - 1, keyOf ls k) := by
  unfold placeAt
  rw [hl, Nat.sub_self, goRun_zero]
  show (_, 1 * keyOf ls k) = _
  rw [Int.one_mul]
/-- one pass on -/
theorem place_step (g : GoodP ps ls plan) {t k : Nat} (hk : k < ls.length) (hl : lateOf ls k ≤ t) (ht : t < ps.length) : pocketOf ls plan t k < (passOf ps t).length ∧
    placeAt ps ls plan (t + 1) k = ((pocketOf ls plan t k : Int) * (goRun ps (lateOf ls k) (wordOf plan k) (t - lateOf ls k)).1 +
      (if (pk (passOf ps t) (pocketOf ls plan t k)).1 = true then (goRun ps (lateOf ls k) (wordOf plan k) (t - lateOf ls k)).1 - 1 - (placeAt ps ls plan t k).1 else (placeAt ps ls plan t k).1),
      if (pk (passOf ps t) (pocketOf ls plan t k)).1 = true then -(placeAt ps ls plan t k).2 else (placeAt ps ls plan t k).2) := by
  obtain ⟨j, p, hj, hp, hjp⟩ := valid_at (g.word k hk) (i := t - lateOf ls k) (by omega)
  have e1 : lateOf ls k + (t - lateOf ls k) = t := by omega
  have e2 : pocketOf ls plan t k = j := by
    unfold pocketOf
    rw [List.getD_eq_getElem?_getD, hj]; rfl
  have hp' := hp
  rw [e1] at hp'
  have e3 : passOf ps t = p := by
    unfold passOf
    rw [List.getD_eq_getElem?_getD, hp']; rfl
  rw [e2, e3]
  refine ⟨hjp, ?_⟩
  unfold placeAt
  rw [show t + 1 - lateOf ls k = t - lateOf ls k + 1 by omega, goRun_succ hj hp]
  unfold goStep
  dsimp only
  split
  · rw [Int.neg_mul]
  · rfl
theorem n_at (wf : WfP ps) (g : GoodP ps ls plan) {t k : Nat} (hk : k < ls.length) (hl : lateOf ls k ≤ t) (ht : t ≤ ps.length) : (goRun ps (lateOf ls k) (wordOf plan k) (t - lateOf ls k)).1 = codesAhead ps t := by
  obtain ⟨h1, _⟩ := go_inv wf (g.word k hk) (t - lateOf ls k) (by omega)
  rw [h1, show lateOf ls k + (t - lateOf ls k) = t by omega]
abbrev Srt (ps : Passes') (ls : Letters) (plan : List (List Nat)) (t : Nat) (l : List Nat) : Prop := l.Pairwise fun a b => ltP (placeAt ps ls plan t a) (placeAt ps ls plan t b)

theorem mem_new {t k : Nat} : k ∈ (List.range ls.length).filter (fun k => decide ((lateOf ls k : Int) = (t : Int))) ↔ k < ls.length ∧ lateOf ls k = t := by
  rw [List.mem_filter, List.mem_range, decide_eq_true_eq, Int.ofNat_inj]
/-- the letters that join there go behind all others -/
theorem join_srt (wf : WfP ps) (g : GoodP ps ls plan) {t : Nat} {line : List Nat} (ht : t ≤ ps.length) (h : Srt ps ls plan t line) (hm : ∀ k, k ∈ line ↔ k < ls.length ∧ lateOf ls k < t) :
    Srt ps ls plan t (joinAt ls line t) ∧ ∀ k, k ∈ joinAt ls line t ↔ k < ls.length ∧ lateOf ls k ≤ t := by
  refine ⟨List.pairwise_append.mpr ⟨h, ?_, fun a ha b hb => ?_⟩, fun k => ?_⟩
  · refine List.Pairwise.imp_of_mem (fun {a b} ha hb (hab : a < b) => ?_) (List.Pairwise.filter _ (List.pairwise_lt_range (n := ls.length)))
    obtain ⟨_, a2⟩ := mem_new.mp ha
    obtain ⟨_, b2⟩ := mem_new.mp hb
    rw [place_new wf a2, place_new wf b2]
    refine .inr ⟨rfl, ?_⟩
    show keyOf ls a < keyOf ls b
    unfold keyOf
    rw [a2, b2]; omega
  · obtain ⟨a1, a2⟩ := (hm a).mp ha
    obtain ⟨b1, b2⟩ := mem_new.mp hb
    obtain ⟨_, c2, c3⟩ := place_inv wf g a1 (by omega : lateOf ls a ≤ t) ht
    rw [place_new wf b2]
    by_cases e : (placeAt ps ls plan t a).1 = codesAhead ps t - 1
    · refine .inr ⟨e, ?_⟩
      show (placeAt ps ls plan t a).2 < keyOf ls b
      have h1 : (ls.length : Int) * ((lateOf ls a : Int) + 1) ≤ (ls.length : Int) * (lateOf ls b : Int) := Int.mul_le_mul_of_nonneg_left (by omega) (by omega)
      unfold keyOf
      omega
    · refine .inl ?_
      show (placeAt ps ls plan t a).1 < codesAhead ps t - 1
      omega
  · unfold joinAt
    rw [List.mem_append, hm, mem_new]
    omega
theorem mem_pocket {line : List Nat} {t j k : Nat} : k ∈ line.filter (fun k => decide (pocketOf ls plan t k = j)) ↔ k ∈ line ∧ pocketOf ls plan t k = j := by
  rw [List.mem_filter, decide_eq_true_eq]
theorem empty_at {line : List Nat} {t n j : Nat} {kinds : Pass} (hj : j < n) : emptyOne (pocketsAt ls plan line t n) kinds j = if (pk kinds j).1 = true then (line.filter fun k => decide (pocketOf ls plan t k = j)).reverse else line.filter fun k => decide (pocketOf ls plan t k = j) := by
  have e : (pocketsAt ls plan line t n).getD j [] = line.filter fun k => decide (pocketOf ls plan t k = j) := by
    unfold pocketsAt
    rw [List.getD_eq_getElem?_getD, List.getElem?_map, List.getElem?_range hj]
    rfl
  unfold emptyOne
  rw [e]
theorem mem_empty {line : List Nat} {t n j k : Nat} {kinds : Pass} (hj : j < n) : k ∈ emptyOne (pocketsAt ls plan line t n) kinds j ↔ k ∈ line ∧ pocketOf ls plan t k = j := by
  rw [empty_at hj]
  split
  · rw [List.mem_reverse, mem_pocket]
  · exact mem_pocket
/-- through a pass -/
theorem pass_srt (wf : WfP ps) (g : GoodP ps ls plan) {t : Nat} {line : List Nat} (ht : t < ps.length) (h : Srt ps ls plan t line) (hm : ∀ k, k ∈ line ↔ k < ls.length ∧ lateOf ls k ≤ t) :
    Srt ps ls plan (t + 1) (emptiedOf (pocketsAt ls plan line t (passOf ps t).length) (passOf ps t)) ∧
    ∀ k, k ∈ emptiedOf (pocketsAt ls plan line t (passOf ps t).length) (passOf ps t) ↔ k < ls.length ∧ lateOf ls k < t + 1 := by
  have hlen : (pocketsAt ls plan line t (passOf ps t).length).length = (passOf ps t).length := by
    unfold pocketsAt
    rw [List.length_map, List.length_range]
  have hpos := codesAhead_pos wf t
  have hst : ∀ k, k ∈ line → pocketOf ls plan t k < (passOf ps t).length ∧ placeAt ps ls plan (t + 1) k = ((pocketOf ls plan t k : Int) * codesAhead ps t +
      (if (pk (passOf ps t) (pocketOf ls plan t k)).1 = true then codesAhead ps t - 1 - (placeAt ps ls plan t k).1 else (placeAt ps ls plan t k).1),
      if (pk (passOf ps t) (pocketOf ls plan t k)).1 = true then -(placeAt ps ls plan t k).2 else (placeAt ps ls plan t k).2) ∧ 0 ≤ (placeAt ps ls plan t k).1 ∧ (placeAt ps ls plan t k).1 < codesAhead ps t := fun k hk => by
    obtain ⟨k1, k2⟩ := (hm k).mp hk
    obtain ⟨s1, s2⟩ := place_step g k1 k2 ht
    rw [n_at wf g k1 k2 (by omega)] at s2
    obtain ⟨i1, i2, _⟩ := place_inv wf g k1 k2 (by omega)
    exact ⟨s1, s2, i1, i2⟩
  constructor
  · unfold emptiedOf
    rw [hlen]
    refine List.pairwise_flatten.mpr ⟨fun l hl => ?_, ?_⟩
    · obtain ⟨j, hj, rfl⟩ := List.mem_map.mp hl
      have hj' : j < (passOf ps t).length := by simpa using hj
      rw [empty_at hj']
      have hf : Srt ps ls plan t (line.filter fun k => decide (pocketOf ls plan t k = j)) := List.Pairwise.filter _ h
      by_cases hb : (pk (passOf ps t) j).1 = true
      · rw [if_pos hb]
        refine List.pairwise_reverse.mpr (List.Pairwise.imp_of_mem (fun {a b} ha hb' hab => ?_) hf)
        obtain ⟨a1, a2⟩ := mem_pocket.mp ha
        obtain ⟨b1, b2⟩ := mem_pocket.mp hb'
        obtain ⟨_, sa, _⟩ := hst a a1
        obtain ⟨_, sb, _⟩ := hst b b1
        rw [sa, sb, a2, b2, if_pos hb, if_pos hb, if_pos hb, if_pos hb]
        unfold ltP at hab ⊢
        dsimp only
        omega
      · rw [if_neg hb]
        refine List.Pairwise.imp_of_mem (fun {a b} ha hb' hab => ?_) hf
        obtain ⟨a1, a2⟩ := mem_pocket.mp ha
        obtain ⟨b1, b2⟩ := mem_pocket.mp hb'
        obtain ⟨_, sa, _⟩ := hst a a1
        obtain ⟨_, sb, _⟩ := hst b b1
        rw [sa, sb, a2, b2, if_neg hb, if_neg hb, if_neg hb, if_neg hb]
        unfold ltP at hab ⊢
        dsimp only
        omega
    · refine List.pairwise_map.mpr (List.Pairwise.imp_of_mem (fun {i j} hi hj (hij : i < j) a ha b hb => ?_) (List.pairwise_lt_range (n := (passOf ps t).length)))
      rw [mem_empty (by simpa using hi)] at ha
      rw [mem_empty (by simpa using hj)] at hb
      obtain ⟨a1, a2⟩ := ha
      obtain ⟨b1, b2⟩ := hb
      obtain ⟨_, sa, a3, a4⟩ := hst a a1
      obtain ⟨_, sb, b3, b4⟩ := hst b b1
      refine .inl ?_
      rw [sa, sb, a2, b2]
      dsimp only
      have h1 : ((i : Int) + 1) * codesAhead ps t ≤ (j : Int) * codesAhead ps t := Int.mul_le_mul_of_nonneg_right (by omega) (by omega)
      rw [Int.add_mul, Int.one_mul] at h1
      split <;> split <;> omega
  · intro k
    unfold emptiedOf
    rw [hlen, List.mem_flatten]
    constructor
    · rintro ⟨l, hl, hk⟩
      obtain ⟨j, hj, rfl⟩ := List.mem_map.mp hl
      rw [mem_empty (by simpa using hj)] at hk
      obtain ⟨k1, k2⟩ := (hm k).mp hk.1
      exact ⟨k1, by omega⟩
    · rintro ⟨k1, k2⟩
      have hk : k ∈ line := (hm k).mpr ⟨k1, by omega⟩
      obtain ⟨s1, _⟩ := hst k hk
      refine ⟨_, List.mem_map.mpr ⟨pocketOf ls plan t k, List.mem_range.mpr s1, rfl⟩, ?_⟩
      rw [mem_empty s1]
      exact ⟨hk, rfl⟩
theorem line_inv (wf : WfP ps) (g : GoodP ps ls plan) : ∀ t, t ≤ ps.length → Srt ps ls plan t (lineAt ps ls plan t) ∧ ∀ k, k ∈ lineAt ps ls plan t ↔ k < ls.length ∧ lateOf ls k ≤ t
  | 0, h => join_srt wf g h List.Pairwise.nil fun k => by simp
  | t + 1, h => by
    obtain ⟨h1, h2⟩ := line_inv wf g t (by omega)
    obtain ⟨h3, h4⟩ := pass_srt wf g (by omega : t < ps.length) h1 h2
    exact join_srt wf g h h3 h4
theorem place_end (wl : WfL ps ls) (g : GoodP ps ls plan) {k : Nat} (hk : k < ls.length) : placeAt ps ls plan ps.length k = placeOf ps ls plan k := by
  unfold placeAt placeOf placeW
  rw [goRun_face (g.word k hk)]
  rfl
/-- the end row: all letters, by rising places -/
theorem endRow_srt (wf : WfP ps) (wl : WfL ps ls) (g : GoodP ps ls plan) : (endRow ps ls plan).Pairwise (fun a b => ltP (placeOf ps ls plan a) (placeOf ps ls plan b)) ∧ ∀ k, k ∈ endRow ps ls plan ↔ k < ls.length := by
  obtain ⟨h1, h2⟩ := line_inv wf g ps.length (Nat.le_refl _)
  have h3 : ∀ k, k ∈ endRow ps ls plan ↔ k < ls.length := fun k => (h2 k).trans ⟨fun q => q.1, fun q => ⟨q, late_le wl q⟩⟩
  refine ⟨List.Pairwise.imp_of_mem (fun {a b} ha hb hab => ?_) h1, h3⟩
  rw [place_end wl g ((h3 a).mp ha), place_end wl g ((h3 b).mp hb)] at hab
  exact hab

/-! ### a row that keeps the wish -/
def breachOf (lev : Nat → Nat) (row : List Nat) : Option (Nat × Nat) :=
  ((List.range (row.length - 1)).find? fun i => decide (lev (row.getD (i + 1) 0) < lev (row.getD i 0))).map fun i => (row.getD i 0, row.getD (i + 1) 0)
def keptOf (lev : Nat → Nat) (row : List Nat) : Bool := (breachOf lev row).isNone
theorem kept_iff (lev : Nat → Nat) (row : List Nat) : keptOf lev row = true ↔ ∀ i, i + 1 < row.length → lev (row.getD i 0) ≤ lev (row.getD (i + 1) 0) := by
  unfold keptOf breachOf
  rw [Option.isNone_map, Option.isNone_iff_eq_none, List.find?_eq_none]
  constructor
  · intro h i hi
    have := h i (List.mem_range.mpr (by omega))
    rw [decide_eq_true_eq] at this
    omega
  · intro h i hi
    have := h i (by have := List.mem_range.mp hi; omega)
    rw [decide_eq_true_eq]
    omega
theorem adj_pairwise (lev : Nat → Nat) : ∀ l : List Nat, (∀ i, i + 1 < l.length → lev (l.getD i 0) ≤ lev (l.getD (i + 1) 0)) → l.Pairwise fun a b => lev a ≤ lev b
  | [], _ => .nil
  | [a], _ => List.pairwise_singleton _ _
  | a :: b :: r, h => by
    have ih := adj_pairwise lev (b :: r) fun i hi => h (i + 1) (by simp at hi ⊢; omega)
    have h0 : lev a ≤ lev b := h 0 (by simp)
    refine List.Pairwise.cons (fun c hc => ?_) ih
    rcases List.mem_cons.mp hc with e | m
    · rw [e]; exact h0
    · exact Nat.le_trans h0 ((List.pairwise_cons.mp ih).1 c m)
theorem pairwise_adj (lev : Nat → Nat) {l : List Nat} (h : l.Pairwise fun a b => lev a ≤ lev b) (i : Nat) (hi : i + 1 < l.length) : lev (l.getD i 0) ≤ lev (l.getD (i + 1) 0) := by
  rw [List.getD_eq_getElem?_getD, List.getD_eq_getElem?_getD, List.getElem?_eq_getElem (by omega : i < l.length), List.getElem?_eq_getElem hi]
  exact List.pairwise_iff_getElem.mp h i (i + 1) (by omega) hi (by omega)
/-- what a plan that does keeps -/
def DoesP (ps : Passes') (ls : Letters) (plan : List (List Nat)) (lev : Nat → Nat) : Prop := ∀ a b, a < ls.length → b < ls.length → lev a < lev b → ltP (placeOf ps ls plan a) (placeOf ps ls plan b)
theorem kept_does (wf : WfP ps) (wl : WfL ps ls) (g : GoodP ps ls plan) (lev : Nat → Nat) : keptOf lev (endRow ps ls plan) = true ↔ DoesP ps ls plan lev := by
  obtain ⟨h1, h2⟩ := endRow_srt wf wl g
  constructor
  · intro h a b ha hb hab
    have hp := adj_pairwise lev _ ((kept_iff lev _).mp h)
    have ma := (h2 a).mpr ha
    have mb := (h2 b).mpr hb
    obtain ⟨i, hi, ei⟩ := List.mem_iff_getElem.mp ma
    obtain ⟨j, hj, ej⟩ := List.mem_iff_getElem.mp mb
    have key : i < j := by
      rcases Nat.lt_trichotomy i j with q | q | q
      · exact q
      · subst q
        rw [ei] at ej
        subst ej
        omega
      · have := List.pairwise_iff_getElem.mp hp j i hj hi q
        rw [ei, ej] at this
        omega
    have := List.pairwise_iff_getElem.mp h1 i j hi hj key
    rw [ei, ej] at this
    exact this
  · intro h
    refine (kept_iff lev _).mpr fun i hi => ?_
    refine pairwise_adj lev (List.Pairwise.imp_of_mem (fun {a b} ha hb hab => ?_) h1) i hi
    by_cases q : lev a ≤ lev b
    · exact q
    · exact (ltP_asymm hab (h b a ((h2 b).mp hb) ((h2 a).mp ha) (by omega))).elim
end
end PM
end

section
set_option Elab.async false
set_option linter.all false
set_option autoImplicit false
/-! Open places, chains, and what they bar. No program here. -/
namespace PM
def ltB (p q : Int × Int) : Bool := decide (ltP p q)
def openAt (ps : Passes') (ls : Letters) (k : Nat) (code : Nat) : Option (Int × Int) :=
  match codeWord ps (lateOf ls k) (code : Int) with
  | none => none
  | some w => if fitsOf ps (lateOf ls k) w (sizeOf' ls k) = true then some ((code : Int), faceOf ps (lateOf ls k) w * keyOf ls k) else none
def opensOf (ps : Passes') (ls : Letters) (k : Nat) : List (Int × Int) := (List.range (codes ps).toNat).filterMap (openAt ps ls k)
def beyondB (b : Option (Int × Int)) (p : Int × Int) : Bool := match b with
  | none => true
  | some q => ltB q p
def nextOf (ps : Passes') (ls : Letters) (k : Nat) (b : Option (Int × Int)) : Option (Int × Int) := (opensOf ps ls k).find? (beyondB b)
/-- p lies beyond b -/
def Beyond (b : Option (Int × Int)) (p : Int × Int) : Prop := ∀ q, b = some q → ltP q p
theorem beyond_iff {b : Option (Int × Int)} {p : Int × Int} : beyondB b p = true ↔ Beyond b p := by
  unfold beyondB Beyond
  cases b with
  | none => exact ⟨fun _ q h => (nomatch h), fun _ => rfl⟩
  | some q =>
    show ltB q p = true ↔ _
    unfold ltB
    rw [decide_eq_true_eq]
    exact ⟨fun h r e => by rw [← Option.some.inj e]; exact h, fun h => h q rfl⟩
section
variable {ps : Passes'} {ls : Letters} {plan : List (List Nat)}
theorem open_some {k code : Nat} {p : Int × Int} (h : openAt ps ls k code = some p) : p.1 = (code : Int) := by
  unfold openAt at h
  split at h
  · cases h
  · split at h
    · have e := Option.some.inj h
      rw [← e]
    · cases h
theorem opens_srt (k : Nat) : (opensOf ps ls k).Pairwise ltP := by
  unfold opensOf
  refine List.pairwise_filterMap.mpr (List.Pairwise.imp (fun {a b} (hab : a < b) p hp q hq => ?_) (List.pairwise_lt_range (n := (codes ps).toNat)))
  have h1 := open_some hp
  have h2 := open_some hq
  exact .inl (by omega)
theorem open_mem (wf : WfP ps) (wl : WfL ps ls) {k : Nat} (hk : k < ls.length) {p : Int × Int} : p ∈ opensOf ps ls k ↔ ∃ w, ValidW ps (lateOf ls k) w ∧ fitsOf ps (lateOf ls k) w (sizeOf' ls k) = true ∧ p = placeW ps ls k w := by
  unfold opensOf
  rw [List.mem_filterMap]
  constructor
  · rintro ⟨code, hc, h⟩
    have hc' := List.mem_range.mp hc
    unfold openAt at h
    split at h
    · cases h
    · rename_i w e
      split at h
      · rename_i hf
        have ep := Option.some.inj h
        refine ⟨w, codeWord_valid wf (late_le wl hk) (by omega) (by omega) e, hf, ?_⟩
        rw [← ep]
        unfold placeW
        rw [wordCode_of wf (late_le wl hk) (by omega) (by omega) e]
      · cases h
  · rintro ⟨w, hv, hf, rfl⟩
    obtain ⟨h0, h1⟩ := wordCode_bound wf hv
    refine ⟨(wordCode ps (lateOf ls k) w).toNat, List.mem_range.mpr (by omega), ?_⟩
    unfold openAt
    rw [Int.toNat_of_nonneg h0, codeWord_of wf hv]
    dsimp only
    rw [if_pos hf]
    rfl
theorem next_some {k : Nat} {b : Option (Int × Int)} {p : Int × Int} (h : nextOf ps ls k b = some p) : p ∈ opensOf ps ls k ∧ Beyond b p :=
  ⟨List.mem_of_find?_eq_some h, beyond_iff.mp (by have := List.find?_some h; exact this)⟩
theorem find_least : ∀ {l : List (Int × Int)} {b : Option (Int × Int)} {p : Int × Int}, l.Pairwise ltP → p ∈ l → Beyond b p → ∃ p', l.find? (beyondB b) = some p' ∧ (p' = p ∨ ltP p' p)
  | [], _, _, _, h, _ => by cases h
  | a :: r, b, p, hs, h, hb => by
    obtain ⟨h1, h2⟩ := List.pairwise_cons.mp hs
    cases e : beyondB b a with
    | true =>
      refine ⟨a, by rw [List.find?_cons, e], ?_⟩
      rcases List.mem_cons.mp h with q | q
      · exact .inl q.symm
      · exact .inr (h1 p q)
    | false =>
      rcases List.mem_cons.mp h with q | q
      · subst q
        rw [beyond_iff.mpr hb] at e
        cases e
      · obtain ⟨p', f1, f2⟩ := find_least h2 q hb
        exact ⟨p', by rw [List.find?_cons, e]; exact f1, f2⟩
/-- where an open place lies beyond, the next place is no greater -/
theorem next_least {k : Nat} {b : Option (Int × Int)} {p : Int × Int} (h : p ∈ opensOf ps ls k) (hb : Beyond b p) : ∃ p', nextOf ps ls k b = some p' ∧ (p' = p ∨ ltP p' p) := find_least (opens_srt k) h hb
theorem plan_open (wf : WfP ps) (wl : WfL ps ls) (g : GoodP ps ls plan) {k : Nat} (hk : k < ls.length) : placeOf ps ls plan k ∈ opensOf ps ls k := (open_mem wf wl hk).mpr ⟨_, g.word k hk, g.fits k hk, rfl⟩

/-! ### chains -/
def chainPl (ps : Passes') (ls : Letters) : Option (Int × Int) → List Nat → List (Option (Int × Int))
  | _, [] => []
  | b, a :: r => match nextOf ps ls a b with
    | none => [none]
    | some p => some p :: chainPl ps ls (some p) r
theorem chainPl_some {ps : Passes'} {ls : Letters} {a : Nat} {b : Option (Int × Int)} {p : Int × Int} {r : List Nat} (h : nextOf ps ls a b = some p) : chainPl ps ls b (a :: r) = some p :: chainPl ps ls (some p) r := by
  rw [chainPl, h]
theorem chainPl_none {ps : Passes'} {ls : Letters} {a : Nat} {b : Option (Int × Int)} {r : List Nat} (h : nextOf ps ls a b = none) : chainPl ps ls b (a :: r) = [none] := by
  rw [chainPl, h]
def risingB (lev : Nat → Nat) (c : List Nat) : Bool := (c.zip (c.drop 1)).all fun p => decide (lev p.1 < lev p.2)
def lastNone (l : List (Option (Int × Int))) : Bool := match l.getLast? with
  | some none => true
  | _ => false
def barsOf (ps : Passes') (ls : Letters) (lev : Nat → Nat) (c : List Nat) : Bool := risingB lev c && (decide (0 < c.length) && (decide ((chainPl ps ls none c).length = c.length) && lastNone (chainPl ps ls none c)))
/-- from b on the places of c go to e -/
def Goes' (ps : Passes') (ls : Letters) : Option (Int × Int) → List Nat → Option (Int × Int) → Prop
  | b, [], e => b = e
  | b, a :: r, e => ∃ p, nextOf ps ls a b = some p ∧ Goes' ps ls (some p) r e
theorem goes_snoc {a : Nat} {p : Int × Int} : ∀ {c : List Nat} {b e : Option (Int × Int)}, Goes' ps ls b c e → nextOf ps ls a e = some p → Goes' ps ls b (c ++ [a]) (some p)
  | [], b, e, h, k => by
    have h' : b = e := h
    subst h'
    exact ⟨p, k, rfl⟩
  | x :: r, b, e, ⟨q, h1, h2⟩, k => ⟨q, h1, goes_snoc h2 k⟩
theorem chain_goes : ∀ {c : List Nat} {b e : Option (Int × Int)} (r : List Nat), Goes' ps ls b c e → ∃ l, l.length = c.length ∧ chainPl ps ls b (c ++ r) = l ++ chainPl ps ls e r
  | [], b, e, r, h => by
    have h' : b = e := h
    subst h'
    exact ⟨[], rfl, rfl⟩
  | x :: c, b, e, r, ⟨q, h1, h2⟩ => by
    obtain ⟨l, l1, l2⟩ := chain_goes r h2
    refine ⟨some q :: l, by simp [l1], ?_⟩
    rw [List.cons_append, chainPl_some h1, l2]
    rfl
/-- a chain whose last letter has no place -/
theorem bars_told {lev : Nat → Nat} {c : List Nat} {a : Nat} {e : Option (Int × Int)} (h : Goes' ps ls none c e) (hn : nextOf ps ls a e = none) (hr : risingB lev (c ++ [a]) = true) : barsOf ps ls lev (c ++ [a]) = true := by
  obtain ⟨l, l1, l2⟩ := chain_goes [a] h
  have e1 : chainPl ps ls e [a] = [none] := by unfold chainPl; rw [hn]
  rw [e1] at l2
  unfold barsOf
  rw [hr, l2]
  have e2 : lastNone (l ++ [none]) = true := by unfold lastNone; rw [List.getLast?_concat]
  rw [e2]
  simp [l1]
/-- L1: where a plan does, each chain of rising levels has all its places -/
theorem chain_has (wf : WfP ps) (wl : WfL ps ls) (g : GoodP ps ls plan) {lev : Nat → Nat} (d : DoesP ps ls plan lev) : ∀ (c : List Nat) (b : Option (Int × Int)), (∀ a ∈ c, a < ls.length) → risingB lev c = true →
    (∀ a, c.head? = some a → Beyond b (placeOf ps ls plan a)) → (chainPl ps ls b c).length = c.length ∧ ∀ x ∈ chainPl ps ls b c, x ≠ none
  | [], b, _, _, _ => ⟨rfl, fun x h => by cases h⟩
  | a :: r, b, hm, hr, hb => by
    have ha := hm a (by simp)
    obtain ⟨p, n1, n2⟩ := next_least (plan_open wf wl g ha) (hb a rfl)
    have ih := chain_has wf wl g d r (some p) (fun x m => hm x (by simp [m])) (by
      cases r with
      | nil => rfl
      | cons b' r' =>
        unfold risingB at hr ⊢
        simp only [List.drop_succ_cons, List.drop_zero, List.zip_cons_cons, List.all_cons, Bool.and_eq_true] at hr
        exact hr.2) fun x hx q hq => by
      have e := Option.some.inj hq
      subst e
      cases r with
      | nil => cases hx
      | cons b' r' =>
        have e := Option.some.inj hx
        subst e
        unfold risingB at hr
        simp only [List.drop_succ_cons, List.drop_zero, List.zip_cons_cons, List.all_cons, Bool.and_eq_true, decide_eq_true_eq] at hr
        have h1 := d a b' ha (hm b' (by simp)) hr.1
        rcases n2 with e | l
        · rw [e]; exact h1
        · exact ltP_trans l h1
    unfold chainPl
    rw [n1]
    dsimp only
    refine ⟨by rw [List.length_cons, List.length_cons, ih.1], fun x hx => ?_⟩
    rcases List.mem_cons.mp hx with e | m
    · rw [e]; exact fun z => nomatch z
    · exact ih.2 x m
theorem bars_no (wf : WfP ps) (wl : WfL ps ls) (g : GoodP ps ls plan) {lev : Nat → Nat} (d : DoesP ps ls plan lev) {c : List Nat} (hm : ∀ a ∈ c, a < ls.length) : barsOf ps ls lev c = false := by
  cases h : barsOf ps ls lev c with
  | false => rfl
  | true =>
    unfold barsOf at h
    simp only [Bool.and_eq_true] at h
    obtain ⟨h1, _, _, h4⟩ := h
    obtain ⟨_, c2⟩ := chain_has wf wl g d c none hm h1 fun _ _ q hq => nomatch hq
    unfold lastNone at h4
    cases e : (chainPl ps ls none c).getLast? with
    | none => rw [e] at h4; cases h4
    | some x =>
      rw [e] at h4
      cases x with
      | some y => cases h4
      | none => exact (c2 none (List.mem_of_getLast? e) rfl).elim
/-- where a chain bars no plan does -/
theorem does_no (wf : WfP ps) (wl : WfL ps ls) (g : GoodP ps ls plan) {lev : Nat → Nat} {c : List Nat} (hm : ∀ a ∈ c, a < ls.length) (hb : barsOf ps ls lev c = true) : keptOf lev (endRow ps ls plan) = false := by
  cases h : keptOf lev (endRow ps ls plan) with
  | false => rfl
  | true =>
    have := bars_no wf wl g ((kept_does wf wl g lev).mp h) hm
    rw [hb] at this
    cases this
end

/-! ### groups and levels -/
inductive Kd where
  | any | row | come
  deriving DecidableEq
def leqP (p q : Nat × Nat) : Bool := decide (p.1 < q.1 ∨ (p.1 = q.1 ∧ p.2 ≤ q.2))
def sortN (l : List Nat) : List Nat := l.mergeSort fun a b => decide (a ≤ b)
def sortP (l : List (Nat × Nat)) : List (Nat × Nat) := l.mergeSort leqP
def groupLevels (ls : Letters) (kd : Kd) (told : List Nat) : List (List Nat) := match kd with
  | .any => [sortN told]
  | .row => told.map fun a => [a]
  | .come => (sortP (told.map fun a => (lateOf ls a, a))).map fun p => [p.2]
def levelsOf (ls : Letters) (gs : List (Kd × List Nat)) : List (List Nat) := (gs.map fun g => groupLevels ls g.1 g.2).flatten
/-- a sorted list is told by its items -/
theorem sorted_uniq {α : Type} {le : α → α → Prop} (anti : ∀ a b, le a b → le b a → a = b) : ∀ {l m : List α}, l.Perm m → l.Pairwise le → m.Pairwise le → l = m
  | [], m, h, _, _ => (List.Perm.eq_nil h.symm).symm
  | a :: l, [], h, _, _ => by have := h.length_eq; simp at this
  | a :: l, b :: m, h, hl, hm => by
    obtain ⟨l1, l2⟩ := List.pairwise_cons.mp hl
    obtain ⟨m1, m2⟩ := List.pairwise_cons.mp hm
    have e : a = b := by
      have ha : a ∈ b :: m := h.mem_iff.mp (by simp)
      have hb : b ∈ a :: l := h.mem_iff.mpr (by simp)
      rcases List.mem_cons.mp ha with q | q
      · exact q
      · rcases List.mem_cons.mp hb with r | r
        · exact r.symm
        · exact anti _ _ (l1 b r) (m1 a q)
    subst e
    rw [sorted_uniq anti (List.Perm.cons_inv h) l2 m2]
theorem sortN_perm (l : List Nat) : (sortN l).Perm l := List.mergeSort_perm _ _
theorem sortN_srt (l : List Nat) : (sortN l).Pairwise (· ≤ ·) := by
  have := List.pairwise_mergeSort (le := fun (a b : Nat) => decide (a ≤ b)) (by intro a b c; simp; omega) (by intro a b; simp; omega) l
  exact this.imp (by intro a b h; simpa using h)
theorem sortP_perm (l : List (Nat × Nat)) : (sortP l).Perm l := List.mergeSort_perm _ _
theorem sortP_srt (l : List (Nat × Nat)) : (sortP l).Pairwise fun p q => leqP p q = true := by
  refine List.pairwise_mergeSort (le := leqP) ?_ ?_ l
  · intro a b c; unfold leqP; simp only [decide_eq_true_eq]; omega
  · intro a b; unfold leqP; simp only [Bool.or_eq_true, decide_eq_true_eq]; omega
theorem leqP_anti (p q : Nat × Nat) (h : leqP p q = true) (k : leqP q p = true) : p = q := by
  unfold leqP at h k
  simp only [decide_eq_true_eq] at h k
  exact Prod.ext (by omega) (by omega)
theorem group_perm (ls : Letters) (kd : Kd) (told : List Nat) : (groupLevels ls kd told).flatten.Perm told := by
  cases kd with
  | any =>
    show ([sortN told] : List (List Nat)).flatten.Perm told
    rw [List.flatten_cons, List.flatten_nil, List.append_nil]
    exact sortN_perm told
  | row =>
    show (told.map fun a => [a]).flatten.Perm told
    rw [← List.flatMap_def, List.flatMap_singleton']
  | come =>
    show ((sortP (told.map fun a => (lateOf ls a, a))).map fun p => [p.2]).flatten.Perm told
    have e : ((sortP (told.map fun a => (lateOf ls a, a))).map fun p => [p.2]).flatten = (sortP (told.map fun a => (lateOf ls a, a))).map Prod.snd := by
      rw [← List.flatMap_def]
      induction sortP (told.map fun a => (lateOf ls a, a)) with
      | nil => rfl
      | cons p r ih => rw [List.flatMap_cons, ih]; rfl
    rw [e]
    refine ((sortP_perm _).map Prod.snd).trans ?_
    rw [List.map_map]
    have : (Prod.snd ∘ fun a => (lateOf ls a, a)) = (id : Nat → Nat) := rfl
    rw [this, List.map_id]
theorem levels_perm (ls : Letters) : ∀ gs : List (Kd × List Nat), (levelsOf ls gs).flatten.Perm (gs.map (·.2)).flatten
  | [] => .nil
  | g :: r => by
    unfold levelsOf
    rw [List.map_cons, List.flatten_cons, List.flatten_append, List.map_cons, List.flatten_cons]
    exact (group_perm ls g.1 g.2).append (levels_perm ls r)
/-- the number of a letter's level -/
def levOf (ll : List (List Nat)) (a : Nat) : Nat := ll.findIdx fun l => decide (a ∈ l)
theorem levOf_at : ∀ {ll : List (List Nat)} {i a : Nat} {l : List Nat}, ll.flatten.Nodup → ll[i]? = some l → a ∈ l → levOf ll a = i
  | [], _, _, _, _, h, _ => by simp at h
  | x :: r, 0, a, l, _, h, ha => by
    have e : x = l := by simpa using h
    subst e
    unfold levOf
    rw [List.findIdx_cons, decide_eq_true ha]; rfl
  | x :: r, i + 1, a, l, nd, h, ha => by
    rw [List.flatten_cons, List.nodup_append] at nd
    have hr : r[i]? = some l := by simpa using h
    have hx : a ∉ x := fun q => nd.2.2 a q a (List.mem_flatten.mpr ⟨l, List.mem_of_getElem? hr, ha⟩) rfl
    have ih := levOf_at nd.2.1 hr ha
    unfold levOf at ih ⊢
    rw [List.findIdx_cons, decide_eq_false hx, ih]; rfl
/-- groups that part the letters -/
structure WfG (m : Nat) (gs : List (Kd × List Nat)) : Prop where
  some : ∀ g ∈ gs, g.2 ≠ []
  perm : (gs.map (·.2)).flatten.Perm (List.range m)
end PM
end

section
set_option Elab.async false
set_option linter.all false
set_option maxRecDepth 100000
set_option maxHeartbeats 2000000
/-! The text by places; defs as they stand; their calls; the program's own facts. -/
namespace PM
open PySem PySem.Spec PyProof.Rows L2
def top (i : Nat) : Stmt := PySem.Challenge.pw_pocketmill_k26_whole_plan_or_chain.main.body.getD i (.Pass ⟨0, 0, 0, 0⟩)

/-- what a caller has of a def -/
structure HasF (P : Program) (w : World) (K : PySem.W.Frag) (mg : Str → Option Value) (base : Heap) (x : Str) (k : Nat) (ps : List Str) (sp : Sp) : Prop where
  ex : ∃ (f : Addr) (fd : FuncData), mg x = some (.ref f) ∧ PySem.W.keepIn K (.ref f) = true ∧ Binds K fd ps [] ∧ FnOk P w K mg base CX0 k f fd ps sp
/-- .. of a method -/
structure HasM (P : Program) (w : World) (K : PySem.W.Frag) (mg : Str → Option Value) (base : Heap) (C : Addr) (m : Str) (k : Nat) (ps : List Str) (sp : Sp) : Prop where
  ex : ∃ (f : Addr) (fd : FuncData), Meth K C m f ∧ Binds K fd ps [] ∧ FnOk P w K mg base CX0 k f fd ps sp
/-- a def as it stands -/
structure Df (K : PySem.W.Frag) (mg : Str → Option Value) (x : Str) (st : Stmt) : Prop where
  ex : ∃ (f : Addr) (fd : FuncData), mg x = some (.ref f) ∧ Fun K x x st f fd
structure Dm (K : PySem.W.Frag) (C : Addr) (m q : Str) (st : Stmt) : Prop where
  ex : ∃ (f : Addr) (fd : FuncData), Meth K C m f ∧ Fun K m q st f fd
/-- .. of a class's __init__ -/
structure HasI (P : Program) (w : World) (K : PySem.W.Frag) (mg : Str → Option Value) (base : Heap) (C : Addr) (k : Nat) (ps : List Str) (sp : Sp) : Prop where
  ex : ∃ (f : Addr) (fd : FuncData), Mk K C f ∧ Binds K fd ps [] ∧ FnOk P w K mg base CX0 k f fd ps sp
structure Di (K : PySem.W.Frag) (C : Addr) (q : Str) (st : Stmt) : Prop where
  ex : ∃ (f : Addr) (fd : FuncData), Mk K C f ∧ Fun K "__init__" q st f fd
section
variable {X : Cx} {CX : CXT} {k : Nat} {f C : Addr} {fd : FuncData} {ps : List Str} {sp : Sp} {x m : Str} {p pos apos : Pos} {e o : Expr} {es : List Expr} {ta : TE} {t : TA}
theorem pe_hf (h : HasF X.prog X.w X.K X.mg X.base x k ps sp) (hr : Room k X.A) (hg : Gl X x) (ha : PA X (e :: es) t) (hdb : (x == ("__debug__" : Str)) = false := by decide)
    (he : starEach (e :: es) X.env = (false, eval e X.env) :: starEach es X.env := by rfl) (hpl : (backTo pos (starEach es X.env)).any (·.1) = false := by rfl) : PE X (.Call (.Name x p) (e :: es) [] pos) (tCall sp [] E0 t) := by
  obtain ⟨f, fd, h1, h2, h3, h4⟩ := h.ex
  exact pe_call h4 hr hg h1 h2 h3 .nil pass0 ha hdb he hpl
theorem pe_hm {pl : Sem Bool} (he : PE X o ta) (c : Cls X.K C) (h : HasM X.prog X.w X.K X.mg X.base C m k ps sp) (hr : Room k X.A) (ha : PA X (e :: es) t)
    (hst : starEach (e :: es) X.env = (false, eval e X.env) :: starEach es X.env := by rfl) (hpl : (backTo pos (starEach es X.env)).any (·.1) = false := by rfl)
    (ht : eval (.Call (.Attribute o m apos) (e :: es) [] pos) X.env = (do
      let ov ← eval o X.env
      standAt apos.atName
      let (f, first) ← holding [ov] (getMethod ov m pl)
      callWith pos f first (backTo pos (starEach (e :: es) X.env)) (backToKw pos (keywordEach [] X.env))) := by rfl) :
    PE X (.Call (.Attribute o m apos) (e :: es) [] pos) (tMeth C m sp [] E0 ta t) := by
  obtain ⟨f, fd, h1, h2, h3⟩ := h.ex
  exact pe_meth he c h1 h3 hr h2 .nil pass0 ha hst hpl ht
theorem pe_hm0 {pl : Sem Bool} (he : PE X o ta) (c : Cls X.K C) (h : HasM X.prog X.w X.K X.mg X.base C m k ps sp) (hr : Room k X.A)
    (ht : eval (.Call (.Attribute o m apos) [] [] pos) X.env = (do
      let ov ← eval o X.env
      standAt apos.atName
      let (f, first) ← holding [ov] (getMethod ov m pl)
      callWith pos f first (backTo pos (starEach [] X.env)) (backToKw pos (keywordEach [] X.env))) := by rfl) :
    PE X (.Call (.Attribute o m apos) [] [] pos) (tMeth C m sp [] E0 ta tNil) := by
  obtain ⟨f, fd, h1, h2, h3⟩ := h.ex
  exact pe_meth0 he c h1 h3 hr h2 .nil pass0 ht
theorem pe_hmk (h : HasI X.prog X.w X.K X.mg X.base C k ps sp) (hr : Room (k + 1) X.A) (hg : Gl X x) (hm : X.mg x = some (.ref C)) (ha : PA X (e :: es) t) (hdb : (x == ("__debug__" : Str)) = false := by decide)
    (he : starEach (e :: es) X.env = (false, eval e X.env) :: starEach es X.env := by rfl) (hpl : (backTo pos (starEach es X.env)).any (·.1) = false := by rfl) : PE X (.Call (.Name x p) (e :: es) [] pos) (tMake C sp [] E0 t) := by
  obtain ⟨f, fd, h1, h2, h3⟩ := h.ex
  exact pe_make h1 h3 hr hg hm h2 .nil pass0 ha hdb he hpl
/-- a whole number of the module's -/
theorem pe_gint {n : Int} (hg : Gl X x) (h : ∃ t, X.mg x = some (.int n t)) (hd : (x == ("__debug__" : Str)) = false := by decide) : PE X (.Name x pos) (tC (.int n)) := by
  obtain ⟨t, h⟩ := h
  exact pe_glob hg h ⟨t, rfl⟩ hd
end

/-! ### what the text's top has left -/
structure Tx (K : PySem.W.Frag) (mg : Str → Option Value) (Cm Cw ak bk : Addr) : Prop where
  z_len : mg "len" = none
  z_range : mg "range" = none
  z_zip : mg "zip" = none
  z_tuple : mg "tuple" = none
  z_list : mg "list" = none
  z_reversed : mg "reversed" = none
  z_divmod : mg "divmod" = none
  z_all : mg "all" = none
  z_min : mg "min" = none
  z_sorted : mg "sorted" = none
  z_enumerate : mg "enumerate" = none
  c_MOST_PASSES : ∃ t, mg "MOST_PASSES" = some (.int 6 t)
  c_MOST_POCKETS : ∃ t, mg "MOST_POCKETS" = some (.int 6 t)
  c_MOST_CODES : ∃ t, mg "MOST_CODES" = some (.int 1000 t)
  c_WIDEST : ∃ t, mg "WIDEST" = some (.int 9 t)
  c_MOST_LETTERS : ∃ t, mg "MOST_LETTERS" = some (.int 24 t)
  c_KINDS_mills : mg "KINDS_mills" = some (.ref ak)
  c_KINDS_wishes : mg "KINDS_wishes" = some (.ref bk)
  v_mills : ∀ H, SqT K H ak [.str "queue", .str "pile"]
  v_wishes : ∀ H, SqL K H bk [.str "any", .str "come", .str "row"]
  k_Mill : Cls K Cm
  k_Wish : Cls K Cw
  a_passes : NoAttr K Cm "passes"
  a_groups : NoAttr K Cw "groups"
  a_levels : NoAttr K Cw "kept_levels"
  a_numbers : NoAttr K Cw "numbers"
  g_Mill : mg "Mill" = some (.ref Cm)
  g_Wish : mg "Wish" = some (.ref Cw)

/-! ### a def's proof -/
section
variable {P : Program} {w : World} {K : PySem.W.Frag} {mg : Str → Option Value} {base : Heap} {ι β : Type}
/-- the reading of a body that hands back what represents x -/
def BodyF (t : TS) (σ : L2.St) (F H : Hp) (R : Rep β) (x : β) : Prop := ∀ Q : VK, (∀ v F' H', Up F H F' H' → R.r F' v x → Q v H') → t { nx := fun _ H' => Q .non H', rt := Q } σ H
theorem ok_def {x : Str} {st : Stmt} {N ps : List Str} {k : Nat} {pre : ι → Prop} {A : ι → Ap} {R : ι → Rep β} {g : ι → β} (d : Df K mg x st) (S : FnScope N ps (defScope st))
    (b : ∀ (kV doc pm : Value) (an : Option Addr) (cdv ct : Value) (us : List Value), us.length = ps.length → bindArgs (PySem.W.fnOf x x (defArgs st) (defBody st) (defScope st) .none kV doc pm an cdv ct) ⟨us, []⟩ = pure (ps.zip us))
    (len : ∀ i F vs, (A i).p F vs → vs.length = ps.length)
    (hb : ∀ (f : Addr) (cdv : Value) (A0 : Around) (outer : List Env) (s : Shared) (H0 : Hp) (E : XK), Room k (A0.deeper (envOfC x (defScope st) s.heap.objs.size f cdv)) →
      ∃ t, PSs (cxOf CX0 P w K mg base N x (defScope st) f cdv A0 outer s H0 E).nox (defBody st) t ∧ ∀ i F H vs, pre i → Same F H → (A i).p F vs → BodyF t (start N vs) F H (R i) (g i)) :
    HasF P w K mg base x (k + 1) ps (SpF pre A R g) := by
  obtain ⟨f, fd, h1, h2⟩ := d.ex
  refine ⟨f, fd, h1, h2.kp, h2.binds b, h2.ok S (fun vs H Q E h => ?_) fun cdv A0 outer s H vs Q E hr h => ?_⟩
  · obtain ⟨i, F, _, _, h, _⟩ := h
    exact len i F vs h
  · obtain ⟨i, F, hp, hF, ha, q⟩ := h
    obtain ⟨t, ht, hk⟩ := hb f cdv A0 outer s H E hr
    exact ⟨t, ht, hk i F H vs hp hF ha Q q⟩
theorem ok_meth {C : Addr} {x q : Str} {st : Stmt} {N ps : List Str} {k : Nat} {pre : ι → Prop} {A : ι → Ap} {R : ι → Rep β} {g : ι → β} (d : Dm K C x q st) (S : FnScope N ps (defScope st))
    (b : ∀ (kV doc pm : Value) (an : Option Addr) (cdv ct : Value) (us : List Value), us.length = ps.length → bindArgs (PySem.W.fnOf x q (defArgs st) (defBody st) (defScope st) .none kV doc pm an cdv ct) ⟨us, []⟩ = pure (ps.zip us))
    (len : ∀ i F vs, (A i).p F vs → vs.length = ps.length)
    (hb : ∀ (f : Addr) (cdv : Value) (A0 : Around) (outer : List Env) (s : Shared) (H0 : Hp) (E : XK), Room k (A0.deeper (envOfC q (defScope st) s.heap.objs.size f cdv)) →
      ∃ t, PSs (cxOf CX0 P w K mg base N q (defScope st) f cdv A0 outer s H0 E).nox (defBody st) t ∧ ∀ i F H vs, pre i → Same F H → (A i).p F vs → BodyF t (start N vs) F H (R i) (g i)) :
    HasM P w K mg base C x (k + 1) ps (SpF pre A R g) := by
  obtain ⟨f, fd, h1, h2⟩ := d.ex
  refine ⟨f, fd, h1, h2.binds b, h2.ok S (fun vs H Q E h => ?_) fun cdv A0 outer s H vs Q E hr h => ?_⟩
  · obtain ⟨i, F, _, _, h, _⟩ := h
    exact len i F vs h
  · obtain ⟨i, F, hp, hF, ha, q⟩ := h
    obtain ⟨t, ht, hk⟩ := hb f cdv A0 outer s H E hr
    exact ⟨t, ht, hk i F H vs hp hF ha Q q⟩
theorem ok_init {C : Addr} {q : Str} {st : Stmt} {N ps : List Str} {k : Nat} {sp : Sp} (d : Di K C q st) (S : FnScope N ps (defScope st))
    (b : ∀ (kV doc pm : Value) (an : Option Addr) (cdv ct : Value) (us : List Value), us.length = ps.length → bindArgs (PySem.W.fnOf "__init__" q (defArgs st) (defBody st) (defScope st) .none kV doc pm an cdv ct) ⟨us, []⟩ = pure (ps.zip us))
    (len : ∀ vs H Q E, sp vs H Q E → vs.length = ps.length)
    (hb : ∀ (f : Addr) (cdv : Value) (A0 : Around) (outer : List Env) (s : Shared) (H0 : Hp) (E : XK), Room k (A0.deeper (envOfC q (defScope st) s.heap.objs.size f cdv)) →
      ∃ t, PSs (cxOf CX0 P w K mg base N q (defScope st) f cdv A0 outer s H0 E).nox (defBody st) t ∧ ∀ vs H Q, sp vs H Q E → t { nx := fun _ H' => Q .non H', rt := Q } (start N vs) H) :
    HasI P w K mg base C (k + 1) ps sp := by
  obtain ⟨f, fd, h1, h2⟩ := d.ex
  refine ⟨f, fd, h1, h2.binds b, h2.ok S len fun cdv A0 outer s H vs Q E hr h => ?_⟩
  obtain ⟨t, ht, hk⟩ := hb f cdv A0 outer s H E hr
  exact ⟨t, ht, hk vs H Q h⟩
end

/-! ### the program's own data -/
/-- a kind: is it a pile -/
def kindS (b : Bool) : Str := if b then "pile" else "queue"
def rKind : Rep Bool := ⟨fun _ v b => v = .str (kindS b), fun _ h => h⟩
def rPocket : Rep Pocket := rTup2 rKind rInt
/-- the law's passes: lists; the mill's: tuples -/
def rPassL : Rep Pass := rLst rPocket
def rPassT : Rep Pass := rTupL rPocket
def rPassesL : Rep Passes' := rLst rPassL
def rPassesT : Rep Passes' := rTupL rPassT
def rMill (Cm : Addr) : Rep Passes' := ⟨fun F v ps => ∃ a dx t, v = .ref a ∧ F a = some (.ins Cm dx [("passes", t)]) ∧ rPassesT.r F t ps, fun e h => by
  obtain ⟨a, dx, t, h1, h2, h3⟩ := h
  exact ⟨a, dx, t, h1, e _ _ h2, rPassesT.mono e h3⟩⟩
def rLetter : Rep (Int × Nat) := rTup2 rInt rNat
def rLet : Rep Letters := rLst rLetter
def rWord : Rep (List Nat) := rTupL rNat
def rPlan : Rep (List (List Nat)) := rLst rWord
def rPlace : Rep (Int × Int) := rTup2 rInt rInt
def rRow : Rep (List Nat) := rLst rNat
def rLevels : Rep (List (List Nat)) := rLst rRow
def kdS : Kd → Str
  | .any => "any"
  | .row => "row"
  | .come => "come"
def rKd : Rep Kd := ⟨fun _ v b => v = .str (kdS b), fun _ h => h⟩
def rGroups : Rep (List (Kd × List Nat)) := rLst (rTup2 rKd rRow)
def rWish (Cw : Addr) : Rep (List (List Nat)) := ⟨fun F v ll => ∃ a dx g l d kvs, v = .ref a ∧ F a = some (.ins Cw dx [("groups", g), ("kept_levels", l), ("numbers", .ref d)]) ∧ rLevels.r F l ll ∧
  F d = some (.dK kvs) ∧ ∀ x ∈ ll.flatten, valV kvs (.inl (x : Int)) = some (.int (levOf ll x : Int)), fun e h => by
  obtain ⟨a, dx, g, l, d, kvs, h1, h2, h3, h4, h5⟩ := h
  exact ⟨a, dx, g, l, d, kvs, h1, e _ _ h2, rLevels.mono e h3, e _ _ h4, h5⟩⟩
end PM
end

section
set_option Elab.async false
set_option linter.all false
set_option maxRecDepth 100000
set_option maxHeartbeats 4000000
/-! Own rule: list(reversed(x)), x a list. -/
namespace PM
open PySem PySem.Spec PyProof.Rows L2
section
variable {prog : Program} {w : World} {A : Around} {E : Value → Shared → Prop} {s : Shared}
theorem extend_rev {it l S : Addr} {items : Array Value} {R : Result → Shared → Prop} {res : Value} {c0 : Nat} (hh : A.handled = none) (hit : s.heap.IsRevIter it l ((items.size : Int) - 1)) (hl : s.heap.IsList l items) (hne : l ≠ it) (hn : items.size ≤ sizeLine)
    (hSi : S ≠ it) (hSl : S ≠ l) (hS : s.heap.get? S = some { cls := .type "list", data := .seq #[] c0 })
    (hR : ∀ (h' : Heap) (tk : Nat) (acc' : Array Value) (c' : Nat), (∀ b o, b ≠ S → b ≠ it → s.heap.get? b = some o → h'.get? b = some o) → h'.get? S = some { cls := .type "list", dict := none, data := .seq acc' c', slots := #[] } →
      ItemsOf (fun i v => items[items.size - 1 - i]? = some v) acc' items.size → R (.ok (.ret res)) { s with heap := h', toks := tk }) :
    wpAny (model prog w) A.in1 (Builtin.List.listExtendWith (.ref S) (.ref it) res)
      (fun fin s' => match fin with | .done f => R (.ok f) s' | .again c' => c'.quiet = true ∧ codeAny (model prog w) A c' R s') (fun e s' => R (.error e) s') s := by
  have W := (Walks.listRev (prog := prog) (w := w) (A := A.in1) hh it l hne items).toS
  have hSf : S ∉ [it, l] := by simp only [List.mem_cons, List.not_mem_nil, or_false, not_or]; exact ⟨hSi, hSl⟩
  have hT : s.TypeIs (.ref it) "list_reverseiterator" := hit.typeIs
  have h1 : Builtin.List.listSameRef (.ref S) (.ref it) = false := by simp [Builtin.List.listSameRef, hSi]
  unfold Builtin.List.listExtendWith
  refine wpAny_bind (wpAny_typeOf hT ?_)
  rw [if_neg (by rw [h1]; decide)]
  refine wpAny_bind (wpAny_pyIter_revIter hit ?_)
  refine wpAny_bind (wpAny_holding ?_)
  unfold Builtin.List.listLengthHint
  refine wpAny_bind (wpAny_specialOf hT RT.nolen_lri ?_)
  show wpAny _ A.in1 (specialOf (Value.ref it) (Str.ofString "__length_hint__") >>= _) _ _ _
  refine wpAny_bind (wpAny_specialOf hT RT.hint_lri ?_)
  generalize hid : ("list_reverseiterator.__length_hint__" : String) = id0
  wp_delta
  rw [show splitId id0 = some ("list_reverseiterator", "__length_hint__") from by subst hid; decide +kernel]
  subst hid
  refine wpAny_bind (wpAny_isInstance (b := true) hT (by rw [isSubtype_type]; kernel_rfl) ?_)
  refine wpAny_pure ?_
  rw [if_neg (by decide)]
  have e0 : ((items.size : Nat) : Int) - 1 - ((0 : Nat) : Int) = (items.size : Int) - 1 := by omega
  refine wpAny_pure ⟨plainId_quiet F.plain_extend_loop _, codeAny_extend_loopS W hn _ hSf _ items.size 0 _ _ _ rfl (Nat.zero_le _) ⟨Nat.zero_le _, by rw [e0]; exact hit, hl⟩ hS (ItemsOf.nil _) fun s' acc' c' hm hS' hacc => ?_⟩
  rw [Moved.eq_with hm]
  refine hR s'.heap s'.toks acc' c' (fun b o hb hb2 e => hm.heap b o (fun hmem => ?_) e) hS' hacc
  rcases List.mem_cons.mp hmem with e' | hmem
  · exact hb e'
  · exact hb2 (List.mem_singleton.mp hmem)
theorem list_init_rev {it l S : Addr} {items : Array Value} {R : Result → Shared → Prop} (hh : A.handled = none) (hit : s.heap.IsRevIter it l ((items.size : Int) - 1)) (hl : s.heap.IsList l items) (hne : l ≠ it) (hn : items.size ≤ sizeLine)
    (hSi : S ≠ it) (hSl : S ≠ l) (hS : s.heap.get? S = some { cls := .type "list", data := .seq #[] })
    (hR : ∀ (h' : Heap) (tk : Nat) (acc' : Array Value) (c' : Nat), (∀ b o, b ≠ S → b ≠ it → s.heap.get? b = some o → h'.get? b = some o) → h'.get? S = some { cls := .type "list", dict := none, data := .seq acc' c', slots := #[] } →
      ItemsOf (fun i v => items[items.size - 1 - i]? = some v) acc' items.size → R (.ok (.ret .none)) { s with heap := h', toks := tk }) :
    wpAny (model prog w) A.in1 (Builtin.«list.__init__» ⟨[.ref S, .ref it], []⟩)
      (fun fin s' => match fin with | .done f => R (.ok f) s' | .again c' => c'.quiet = true ∧ codeAny (model prog w) A c' R s') (fun e s' => R (.error e) s') s := by
  show wpAny _ A.in1 (do let old ← Builtin.List.listItems (.ref S); Builtin.List.listUpdate (.ref S) (fun _ => #[]); letGo old.toList.reverse; Builtin.List.listExtendWith (.ref S) (.ref it) .none) _ _ s
  refine wpAny_bind ?_
  unfold Builtin.List.listItems
  refine wpAny_bind (wpAny_seqItems hS rfl (wpAny_pure ?_))
  show wpAny _ A.in1 (updateSeq S (fun _ => #[]) >>= fun _ => letGo (#[] : Array Value).toList.reverse >>= fun _ => Builtin.List.listExtendWith (.ref S) (.ref it) .none) _ _ s
  refine wpAny_bind (wpAny_updateSeq hS rfl ?_)
  have hS₂ := Heap.get?_update_self (Obj.mapSeq (fun _ => (#[] : Array Value))) hS rfl
  have oth : ∀ b o, b ≠ S → s.heap.get? b = some o → (s.heap.update S (Obj.mapSeq (fun _ => (#[] : Array Value)))).get? b = some o :=
    fun b o hb e => (Heap.get?_update_other _ _ (Ne.symm hb)).trans e
  refine wpAny_bind (wpAny_letGo ?_)
  have hit2 : (s.heap.update S (Obj.mapSeq (fun _ => (#[] : Array Value)))).IsRevIter it l ((items.size : Int) - 1) := hit.at fun o e => oth it o (Ne.symm hSi) e
  have hl2 : (s.heap.update S (Obj.mapSeq (fun _ => (#[] : Array Value)))).IsList l items := by
    obtain ⟨o, e, r⟩ := hl
    exact ⟨o, oth l o (Ne.symm hSl) e, r⟩
  refine extend_rev (s := { s with heap := s.heap.update S (Obj.mapSeq (fun _ => (#[] : Array Value))) }) hh hit2 hl2 hne hn hSi hSl hS₂ fun h' tk acc' c' hk hS' hacc => ?_
  exact hR h' tk acc' c' (fun b o hb hb2 e => hk b o hb hb2 (oth b o hb e)) hS' hacc
theorem call_list_rev {it l : Addr} {items : Array Value} {Q : Value → Shared → Prop} (hh : A.handled = none) (hit : s.heap.IsRevIter it l ((items.size : Int) - 1)) (hl : s.heap.IsList l items) (hne : l ≠ it) (hn : items.size ≤ sizeLine)
    (hQ : ∀ (h' : Heap) (tk : Nat) (acc' : Array Value) (c' : Nat), (∀ b o, b ≠ it → s.heap.get? b = some o → h'.get? b = some o) → h'.get? s.heap.objs.size = some { cls := .type "list", dict := none, data := .seq acc' c', slots := #[] } →
      ItemsOf (fun i v => items[items.size - 1 - i]? = some v) acc' items.size → Q (.ref s.heap.objs.size) { s with heap := h', toks := tk }) :
    wpAny (model prog w) A (call (.type "list") [.ref it]) Q E s := by
  refine callType_codes (Q₁ := fun obj s₁ => obj = .ref s.heap.objs.size ∧ s₁ = { s with heap := s.heap.push { cls := .type "list", data := .seq #[] } }) F.called_list (F.typeCall_list_1 _) F.entry_list_init
    (code_list_new _ ⟨rfl, rfl⟩) fun obj s₁ h₁ => ?_
  obtain ⟨rfl, rfl⟩ := h₁
  have hS : (s.heap.push { cls := .type "list", data := .seq #[] }).get? s.heap.objs.size = some { cls := .type "list", data := .seq #[] } := Heap.get?_push_size _ rfl
  have hSi : s.heap.objs.size ≠ it := by
    obtain ⟨o, e, _⟩ := hit
    exact Nat.ne_of_gt (Heap.lt_size e)
  have hSl : s.heap.objs.size ≠ l := by
    obtain ⟨o, e, _⟩ := hl
    exact Nat.ne_of_gt (Heap.lt_size e)
  refine ⟨⟨_, hS, rfl⟩, F.args_list_init_2 _ _, list_init_rev (A := A.in1) (s := { s with heap := s.heap.push { cls := .type "list", data := .seq #[] } }) hh (hit.at fun o e => Heap.get?_push_of_some _ e) (hl.push _) hne hn hSi hSl hS fun h' tk acc' c' hk hS' hacc => ?_⟩
  exact ⟨rfl, hQ h' tk acc' c' (fun b o hb e => hk b o (Nat.ne_of_lt (Heap.lt_size e)) hb (Heap.get?_push_of_some _ e)) hS' hacc⟩
end
/-- list(reversed(x)), x a list: a new list -/
def tLstRev (K : PySem.W.Frag) (te : TE) : TE := fun σ H Q => te σ H fun v H1 => ∃ (a : Addr) (xs : List V), v = .ref a ∧ SqL K H1 a xs ∧ ∀ q, H1 q = none → Q (.ref q) (upd H1 q (.lst xs.reverse))
section
variable {X : Cx}
theorem pe_listRev {e : Expr} {te : TE} {p p2 pos pos2 : Pos} (hc : X.calm = true) (hg : Gl X "list") (hm : X.mg "list" = none) (hg2 : Gl X "reversed") (hm2 : X.mg "reversed" = none) (he : PE X e te)
    (hs : starEach [e] X.env = (false, eval e X.env) :: starEach [] X.env := by rfl)
    (hs2 : starEach [.Call (.Name "reversed" p2) [e] [] pos2] X.env = (false, eval (.Call (.Name "reversed" p2) [e] [] pos2) X.env) :: starEach [] X.env := by rfl) :
    PE X (.Call (.Name "list" p) [.Call (.Name "reversed" p2) [e] [] pos2] [] pos) (tLstRev X.K te) := by
  refine ⟨fun pins s σ H Q I h => ?_⟩
  refine Call_ (ld_blt I hg hm boot_list (PyProof.Rows.callWith_type1 (args_cons (Call_ (ld_blt I hg2 hm2 PyProof.Rows.boot_reversed (PyProof.Rows.callWith_type1 (args_cons (thn (he.run pins s σ H _ I h) fun u s1 ⟨v, H1, I1, r1, q1⟩ => args_nil ?_) hs) hs rfl))) hs2) hs2 rfl))
  obtain ⟨a, xs, ev, hq, q⟩ := q1
  subst ev
  obtain rfl : u = Value.ref a := r1
  obtain ⟨its, rv, p', hz⟩ := I1.list hq
  refine call_reversed_list p'.isList (args_nil ?_)
  have k0 : ∀ b o, s1.heap.get? b = some o → (s1.heap.push (revObj a ((its.toArray.size : Int) - 1))).get? b = some o := fun b o e => Heap.get?_push_of_some _ e
  have I2 : Inv X pins σ H1 { s1 with heap := s1.heap.push (revObj a ((its.toArray.size : Int) - 1)) } := I1.kept (t' := s1.toks) k0
  obtain ⟨f0, f1, f2, f3, f4, f5⟩ := I1.fpOk (H' := H1) (b := s1.heap.objs.size) (Nat.le_refl _) (I1.hok.fresh (Nat.le_refl _))
  have hl := p'.isList
  obtain ⟨ol, hol, _⟩ := id hl
  have hne : a ≠ s1.heap.objs.size := Nat.ne_of_lt (Heap.lt_size hol)
  have hn : its.toArray.size ≤ sizeLine := by rw [List.size_toArray, ← rv.length]; exact hz
  refine call_list_rev (s := { s1 with heap := s1.heap.push (revObj a ((its.toArray.size : Int) - 1)) }) (I1.ok.hd hc) ⟨_, Heap.get?_push_size _ rfl, rfl, rfl⟩ (hl.push _) hne hn fun h' tk acc c' hk hS hi => ?_
  have hsz : (s1.heap.push (revObj a ((its.toArray.size : Int) - 1))).objs.size = s1.heap.objs.size + 1 := by rw [Heap.size_push]
  rw [hsz] at hS ⊢
  have hge : (s1.heap.push (revObj a ((its.toArray.size : Int) - 1))).objs.size ≤ s1.heap.objs.size + 1 := Nat.le_of_eq hsz
  have hf : H1 (s1.heap.objs.size + 1) = none := I1.hok.fresh (Nat.le_succ _)
  refine ⟨.ref (s1.heap.objs.size + 1), upd H1 (s1.heap.objs.size + 1) (.lst xs.reverse), ?_, rfl, q _ hf⟩
  have I3 : Inv X pins σ (upd H1 (s1.heap.objs.size + 1) (.lst xs.reverse)) { s1 with heap := (s1.heap.push (revObj a ((its.toArray.size : Int) - 1))).push { cls := .type "list", dict := none, data := .seq acc c', slots := #[] }, toks := tk } :=
    I2.laid (t' := tk) (fun b o e => Heap.get?_push_of_some _ e) hge ⟨by rw [List.length_reverse]; exact hz, acc.toList, c', RT.vals_rev rv hi, by rw [Array.toArray_toList, ← hsz]; exact Heap.get?_push_size _ rfl⟩
  have f0' : upd H1 (s1.heap.objs.size + 1) (.lst xs.reverse) s1.heap.objs.size = none := by
    rw [upd_ne (show s1.heap.objs.size ≠ s1.heap.objs.size + 1 from Nat.ne_of_lt (Nat.lt_succ_self _))]
    exact f0
  exact I3.turned (t' := tk) (fun b o hb e => by
    rcases Heap.get?_push_cases e with ⟨e1, e2⟩ | e1
    · rw [e1, hsz, e2]; exact hS
    · exact hk b o hb e1) f0' f1 f3 f4 f5
end
end PM
end

section
set_option Elab.async false
set_option linter.all false
set_option maxRecDepth 100000
set_option maxHeartbeats 4000000
/-! Own rules: t > u of two tuples of whole numbers; sorted of a list of tuples of data that can be compared. -/
namespace PM
open PySem PySem.Spec PyProof.Rows L2
def rGtT (K : PySem.W.Frag) : R2 := fun x y H Q => ∃ (a b : Addr) (ns ms : List Int), x = .ref a ∧ y = .ref b ∧ SqT K H a (ns.map V.int) ∧ SqT K H b (ms.map V.int) ∧
  Q (.bl (Ob.lexAt (fun j => decide (ns.getD j 0 = ms.getD j 0)) (fun j => decide (ms.getD j 0 < ns.getD j 0)) (decide (ms.length < ns.length)) 0 (min ns.length ms.length))) H
theorem op_gtT {X : Cx} (hu : X.A.units < cLine) : OpR X (compareOp .Gt) (rGtT X.K) := by
  intro pins s σ H x y v u Q I rx ry h
  obtain ⟨a, b, ns, ms, rfl, rfl, ha, hb, q⟩ := h
  cases rx
  cases ry
  obtain ⟨its, r1, p1, _⟩ := I.tuple ha
  obtain ⟨its2, r2, p2, _⟩ := I.tuple hb
  have i1 : IntsAre its ns := Vals.ints r1
  have i2 : IntsAre its2 ms := Vals.ints r2
  have e1 : its.toArray.size = ns.length := by rw [List.size_toArray]; exact i1.length
  have e2 : its2.toArray.size = ms.length := by rw [List.size_toArray]; exact i2.length
  have at1 : ∀ j (h1 : j < its.toArray.size), ∃ t, its.toArray[j] = .int (ns.getD j 0) t := fun j h1 => PyProof.Rows.IntsAre.int_at i1 _ _ (by simp at h1; simp [h1])
  have at2 : ∀ j (h1 : j < its2.toArray.size), ∃ t, its2.toArray[j] = .int (ms.getD j 0) t := fun j h1 => PyProof.Rows.IntsAre.int_at i2 _ _ (by simp at h1; simp [h1])
  have R := Ob.RcOp.tuples_gt (A := X.A) (s := s) (e := fun j => decide (ns.getD j 0 = ms.getD j 0)) (r := fun j => decide (ms.getD j 0 < ns.getD j 0)) p1 p2 hu (fun j h1 h2 => by
    obtain ⟨t, et⟩ := at1 j h1
    obtain ⟨t', et'⟩ := at2 j h2
    rw [et, et']
    have z : (ns.getD j 0 == ms.getD j 0) = decide (ns.getD j 0 = ms.getD j 0) := by
      by_cases q : ns.getD j 0 = ms.getD j 0
      · rw [decide_eq_true q]; exact beq_iff_eq.mpr q
      · rw [decide_eq_false q]; exact beq_eq_false_iff_ne.mpr q
    rw [← z]
    exact SeqAt.EqAt.int_int _ _ _ _) (fun j h1 h2 _ => by
    obtain ⟨t, et⟩ := at1 j h1
    obtain ⟨t', et'⟩ := at2 j h2
    rw [et, et']
    exact Ob.RcOp.gt_int _ _ _ _)
  rw [e1, e2] at R
  have z : wpAny (model X.prog X.w) X.A (compareOp .Gt (.ref a) (.ref b)) (EP X pins σ Q) X.xe s := R X.prog X.w X.xe (EP X pins σ Q) ⟨.bl _, H, I, rfl, q⟩
  exact z
/-- sorted(xs), the items tuples that can be compared: the same items in some order -/
def rSortedAny (K : PySem.W.Frag) : List V → Hp → VK → Prop := fun vs H Q => ∃ (a : Addr) (xs : List V) (ds : List PyData), vs = [V.ref a] ∧ SqL K H a xs ∧ DpAll K H xs ds ∧ PySem.W.AllAlike ds ∧ (∀ d ∈ ds, ∃ x r, d = .tuple (x :: r)) ∧ (∀ d ∈ ds, d.depth ≤ 60) ∧
  ∀ ys p, ys.Perm xs → H p = none → Q (.ref p) (upd H p (.lst ys))
theorem each_of_reads {h : Heap} : ∀ {us : List Value} {ds : List PyData} {as : List Addr}, ReadsAll h us ds as → PySem.W.EachIs (fun v d => ∃ as, Reads h v d as) us ds
  | _, _, _, .nil => .nil
  | _, _, _, .cons r t => .cons ⟨_, r⟩ (each_of_reads t)
theorem zip_self_perm {α : Type} : ∀ l : List α, (l.zip l).map Prod.snd = l
  | [] => rfl
  | x :: r => by rw [List.zip_cons_cons, List.map_cons, zip_self_perm r]
theorem sortVals_perm (κ : PyProof.Rows.KeyKind) (vs : List Value) : (PySem.W.sortVals κ false vs vs).Perm vs := by
  have h : (PySem.W.sortVals κ false vs vs).Perm ((vs.zip vs).map Prod.snd) := (List.mergeSort_perm _ _).map Prod.snd
  rw [zip_self_perm] at h
  exact h
theorem dp_refs {K : PySem.W.Frag} {H : Hp} : ∀ {xs : List V} {ds : List PyData}, DpAll K H xs ds → (∀ d ∈ ds, ∃ x r, d = PyData.tuple (x :: r)) → ∀ x ∈ xs, ∃ a, x = V.ref a
  | [], _, _, _, x, hx => by cases hx
  | y :: ys, _, .cons h t, hd, x, hx => by
    rcases List.mem_cons.mp hx with e | m
    · subst e
      obtain ⟨_, _, e2⟩ := hd _ List.mem_cons_self
      subst e2
      cases h with
      | tup _ _ => exact ⟨_, rfl⟩
    · exact dp_refs t (fun d m => hd d (List.mem_cons_of_mem _ m)) x m
section
variable {X : Cx}
theorem cr_sortedAny (hu : X.A.units + 64 < cLine) : CallR X (.builtin "sorted") (rSortedAny X.K) := by
  intro pins s σ H vs us Q I r h
  obtain ⟨a, xs, ds, rfl, hs, hd, hal, ht, hdep, q⟩ := h
  obtain ⟨its, rv, hl, hz⟩ := I.list hs
  obtain ⟨u, rfl, ru⟩ := vals1 r
  obtain rfl : u = Value.ref a := ru
  obtain ⟨e1, e2⟩ := refs_back rv (dp_refs hd ht)
  obtain ⟨as, hr⟩ := Dp.readsAll I ds xs its hd rv
  have hz' : its.length ≤ sizeLine := by rw [← rv.length]; exact hz
  have hr2 : ReadsAll (PySem.W.sortingHeap (PySem.W.copyHeap s.heap its) (s.heap.objs.size + 1) its) its ds as := ReadsAll.keeps (fun b o e => PySem.W.sorting_copy_old e) hr
  have S : PySem.W.SortsAt X.prog X.w X.A.in1.in1 { s with heap := PySem.W.sortingHeap (PySem.W.copyHeap s.heap its) (s.heap.objs.size + 1) its } (PySem.W.dataKind (PySem.W.sortingHeap (PySem.W.copyHeap s.heap its) (s.heap.objs.size + 1) its) ds) its :=
    PySem.W.SortsAt.data (s := { s with heap := PySem.W.sortingHeap (PySem.W.copyHeap s.heap its) (s.heap.objs.size + 1) its }) (each_of_reads hr2) hal (.inl ht) fun d m => by
      have := hdep d m
      show X.A.units + 1 + 1 + d.depth < cLine
      omega
  refine PySem.W.sorted_vals hl.isList S hz' ?_
  generalize hout : PySem.W.sortVals _ false its its = out
  have hp : out.Perm its := by rw [← hout]; exact sortVals_perm _ _
  have h3 : ∀ u ∈ out, ∃ a, u = Value.ref a := fun u hu => e2 u (hp.mem_iff.mp hu)
  obtain ⟨n, hn⟩ := sortedAll_at s.heap its out.toArray
  have hb : (out.map backV).Perm xs := by rw [e1]; exact hp.map backV
  refine ⟨.ref (s.heap.objs.size + 1), upd H (s.heap.objs.size + 1) (.lst (out.map backV)), I.laid (t' := s.toks) (fun b o e => sortedAll_old e) (Nat.le_succ _) ⟨?_, out, n, vals_back h3, hn⟩, rfl, q _ _ hb (I.hok.fresh (Nat.le_succ _))⟩
  rw [hb.length_eq]
  exact hz
end
end PM
end

section
set_option Elab.async false
set_option linter.all false
set_option maxRecDepth 100000
set_option maxHeartbeats 2000000
/-! Own framework: the own rules, and sorts, as evaluations. -/
namespace PM
open PySem PySem.Spec PyProof.Rows L2
section
variable {α β γ : Type}
variable {K : PySem.W.Frag} {σ : L2.St} {F H F0 H0 : Hp} {te ta tb tc : TE} {R : Rep α}
theorem ev_listRev {xs : List α} (ha : Ev ta σ F H (rLst R) xs) : Ev (tLstRev K ta) σ F H (rLst R) xs.reverse := fun H1 a b Q q =>
  ha H1 a b _ fun v F2 H2 u2 r2 => by
    obtain ⟨p, vs, rfl, h2, h3⟩ := r2
    exact ⟨p, vs, rfl, SqL.of (u2.s _ _ h2), fun l hl => q _ _ _ (u2.trans (Up.new u2.s hl)) ⟨l, _, rfl, upd_same, h3.reverse.up (Same.new (u2.s.free hl))⟩⟩
theorem ev_gtP {p q : Int × Int} (ha : Ev ta σ F H rPlace p) (hb : Ev tb σ F H rPlace q) : Ev (tOp (rGtT K) ta tb) σ F H rBl (ltB q p) :=
  ev_two ha hb fun F1 H1 a b _ e1 _ ra rb Q k => by
    obtain ⟨o, x, y, rfl, h2, h3, h4⟩ := ra
    obtain ⟨o', x', y', rfl, h2', h3', h4'⟩ := rb
    have z1 : x = .int p.1 := h3
    have z2 : y = .int p.2 := h4
    have z3 : x' = .int q.1 := h3'
    have z4 : y' = .int q.2 := h4'
    subst z1; subst z2; subst z3; subst z4
    refine ⟨o, o', [p.1, p.2], [q.1, q.2], rfl, rfl, SqT.of (e1 _ _ h2), SqT.of (e1 _ _ h2'), k _ F1 H1 (Up.refl e1) ?_⟩
    show V.bl _ = V.bl (ltB q p)
    congr 1
    show (if decide (p.1 = q.1) = true then (if decide (p.2 = q.2) = true then decide (2 < 2) else decide (q.2 < p.2)) else decide (q.1 < p.1)) = ltB q p
    rw [Bool.eq_iff_iff]
    have hr : ltB q p = true ↔ q.1 < p.1 ∨ (q.1 = p.1 ∧ q.2 < p.2) := by
      unfold ltB
      rw [decide_eq_true_eq]
      exact Iff.rfl
    rw [hr]
    by_cases e1 : p.1 = q.1
    · rw [if_pos (decide_eq_true e1)]
      by_cases e2 : p.2 = q.2
      · rw [if_pos (decide_eq_true e2)]
        simp
        omega
      · rw [if_neg (by rw [decide_eq_true_eq]; exact e2), decide_eq_true_eq]
        omega
    · rw [if_neg (by rw [decide_eq_true_eq]; exact e1), decide_eq_true_eq]
      omega
theorem all2_perm {P : V → α → Prop} : ∀ {vs ws : List V} {xs : List α}, ws.Perm vs → All2 P vs xs → ∃ ys, ys.Perm xs ∧ All2 P ws ys := by
  intro vs ws xs hp
  induction hp generalizing xs with
  | nil => intro h; exact ⟨xs, .refl _, h⟩
  | cons x _ ih =>
    intro h
    cases h with
    | cons h1 h2 =>
      obtain ⟨ys, p1, p2⟩ := ih h2
      exact ⟨_ :: ys, p1.cons _, .cons h1 p2⟩
  | swap x y l =>
    intro h
    cases h with
    | cons h1 h2 =>
      cases h2 with
      | cons h3 h4 => exact ⟨_, List.Perm.swap _ _ _, .cons h3 (.cons h1 h4)⟩
  | trans _ _ ih1 ih2 =>
    intro h
    obtain ⟨ys, p1, p2⟩ := ih2 h
    obtain ⟨zs, p3, p4⟩ := ih1 p2
    exact ⟨zs, p3.trans p1, p4⟩
theorem cast_perm_sort {ns' : List Int} {ns : List Nat} (hp : ns'.Perm (ns.map fun (n : Nat) => (n : Int))) (hs : ns'.Pairwise (· ≤ ·)) : ns' = (sortN ns).map fun (n : Nat) => (n : Int) := by
  refine sorted_uniq (le := fun (a b : Int) => a ≤ b) (fun a b h k => by omega) (hp.trans ((sortN_perm ns).symm.map _)) hs ?_
  exact List.pairwise_map.mpr ((sortN_srt ns).imp fun h => by omega)
theorem ev_sortedN {xs : List Nat} (ha : Ev ta σ F H (rLst rNat) xs) : Ev (tCB (rSortedI K) (tCons ta tNil)) σ F H (rLst rNat) (sortN xs) :=
  ev_cb (ea_cons ha ea_nil) fun F1 H1 vs _ e1 _ h Q q => by
    obtain ⟨v, rfl, hh⟩ := ap1 h
    obtain ⟨p, vs, rfl, h2, h3⟩ := hh
    have e := all2_nat h3
    subst e
    refine ⟨p, _, rfl, SqL.of (e1 _ _ h2), fun ns' l hp hs hl => q _ _ _ (Up.new e1 hl) ⟨l, _, rfl, upd_same, ?_⟩⟩
    rw [cast_perm_sort hp hs]
    exact all2_of_nat _
def pairK (p : Nat × Nat) : Int × Int := ((p.1 : Int), (p.2 : Int))
open Classical in
/-- what a value of pairs stands for, by the pairs at hand -/
noncomputable def pairOf (F : Hp) (v : V) : Int × Int := if h : ∃ p : Nat × Nat, (rTup2 rNat rNat).r F v p then pairK h.choose else (0, 0)
theorem pairOf_eq {F : Hp} {v : V} {p : Nat × Nat} (h : (rTup2 rNat rNat).r F v p) : pairOf F v = pairK p := by
  have hx : ∃ p : Nat × Nat, (rTup2 rNat rNat).r F v p := ⟨p, h⟩
  unfold pairOf
  rw [dif_pos hx]
  obtain ⟨a, x, y, e1, e2, e3, e4⟩ := hx.choose_spec
  obtain ⟨b, x', y', f1, f2, f3, f4⟩ := h
  rw [f1] at e1
  have ea : b = a := V.ref.inj e1
  subst ea
  rw [f2] at e2
  have e5 := HO.tup.inj (Option.some.inj e2)
  have e6 : x' = x := (List.cons.inj e5).1
  have e7 : y' = y := (List.cons.inj (List.cons.inj e5).2).1
  subst e6; subst e7
  have g1 := V.int.inj ((show x' = V.int _ from e3).symm.trans (show x' = V.int _ from f3))
  have g2 := V.int.inj ((show y' = V.int _ from e4).symm.trans (show y' = V.int _ from f4))
  unfold pairK
  rw [g1, g2]
theorem pairs_srt {F : Hp} : ∀ {ws : List V} {ys : List (Nat × Nat)}, All2 ((rTup2 rNat rNat).r F) ws ys → SrtO.Srtd (L2.ltP (pairOf F)) ws → ys.Pairwise fun p q => leqP p q = true
  | _, _, .nil, _ => .nil
  | w :: ws, y :: ys, .cons h1 h2, hs => by
    obtain ⟨s1, s2⟩ := List.pairwise_cons.mp hs
    refine List.Pairwise.cons (fun q hq => ?_) (pairs_srt h2 s2)
    obtain ⟨i, hi⟩ := List.getElem?_of_mem hq
    obtain ⟨w', e1, e2⟩ := h2.getR hi
    have h3 := s1 w' (List.mem_of_getElem? e1)
    have h4 := SrtO.lexB_no.mp h3
    rw [pairOf_eq e2, pairOf_eq h1] at h4
    unfold pairK at h4
    unfold leqP
    rw [decide_eq_true_eq]
    dsimp only at h4
    omega
theorem ev_sortedPr {xs : List (Nat × Nat)} (ha : Ev ta σ F H (rLst (rTup2 rNat rNat)) xs) : Ev (tCB (rSortedPO K) (tCons ta tNil)) σ F H (rLst (rTup2 rNat rNat)) (sortP xs) :=
  ev_cb (ea_cons ha ea_nil) fun F1 H1 vs _ e1 _ h Q q => by
    obtain ⟨v, rfl, hh⟩ := ap1 h
    obtain ⟨p, vs, rfl, h2, h3⟩ := hh
    refine ⟨p, vs, pairOf F1, rfl, SqL.of (e1 _ _ h2), fun x hx => ?_, fun ws l hs hb hl => ?_⟩
    · obtain ⟨i, hi⟩ := List.getElem?_of_mem hx
      obtain ⟨b, _, r⟩ := h3.getL hi
      obtain ⟨t, x1, y1, f1, f2, f3, f4⟩ := id r
      rw [pairOf_eq r]
      refine ⟨t, f1, ?_⟩
      rw [e1 _ _ f2]
      have g1 : x1 = V.int (b.1 : Int) := f3
      have g2 : y1 = V.int (b.2 : Int) := f4
      rw [g1, g2]
      rfl
    · obtain ⟨ys, p1, p2⟩ := all2_perm hb.perm h3
      have e := sorted_uniq (fun a b h k => leqP_anti a b h k) (p1.trans (sortP_perm xs).symm) (pairs_srt p2 hs) (sortP_srt xs)
      subst e
      exact q _ _ _ (Up.new e1 hl) ⟨l, ws, rfl, upd_same, p2.up (Same.new (e1.free hl))⟩
end
end PM
end

section
set_option Elab.async false
set_option linter.all false
set_option maxRecDepth 100000
set_option maxHeartbeats 2000000
/-! mills -/
namespace PM
open PySem PySem.Spec PyProof.Rows L2
abbrev s_codes_ahead : Stmt := top 19
abbrev N_codes_ahead : List Str := ["mill", "late", "product", "pockets"]
theorem sc_codes_ahead : FnScope N_codes_ahead ["mill", "late"] (defScope s_codes_ahead) := ⟨rfl, rfl, rfl, by decide +kernel, rfl, by decide +kernel, by decide +kernel⟩
abbrev s_Mill_codes : Stmt := inClass (top 18) 1
abbrev N_Mill_codes : List Str := ["self"]
theorem sc_Mill_codes : FnScope N_Mill_codes ["self"] (defScope s_Mill_codes) := ⟨rfl, rfl, rfl, by decide +kernel, rfl, by decide +kernel, by decide +kernel⟩
abbrev s_Mill_many : Stmt := inClass (top 18) 2
abbrev N_Mill_many : List Str := ["self"]
theorem sc_Mill_many : FnScope N_Mill_many ["self"] (defScope s_Mill_many) := ⟨rfl, rfl, rfl, by decide +kernel, rfl, by decide +kernel, by decide +kernel⟩
abbrev s_look_at_late : Stmt := top 20
abbrev N_look_at_late : List Str := ["mill", "late"]
theorem sc_look_at_late : FnScope N_look_at_late ["mill", "late"] (defScope s_look_at_late) := ⟨rfl, rfl, rfl, by decide +kernel, rfl, by decide +kernel, by decide +kernel⟩
abbrev s_look_at_word : Stmt := top 21
abbrev N_look_at_word : List Str := ["mill", "late", "word", "pocket", "pockets"]
theorem sc_look_at_word : FnScope N_look_at_word ["mill", "late", "word"] (defScope s_look_at_word) := ⟨rfl, rfl, rfl, by decide +kernel, rfl, by decide +kernel, by decide +kernel⟩
abbrev s_face : Stmt := top 22
abbrev N_face : List Str := ["mill", "late", "word", "found", "pocket", "pockets"]
theorem sc_face : FnScope N_face ["mill", "late", "word"] (defScope s_face) := ⟨rfl, rfl, rfl, by decide +kernel, rfl, by decide +kernel, by decide +kernel⟩
abbrev s_fits : Stmt := top 23
abbrev N_fits : List Str := ["mill", "late", "word", "size", "pocket", "pockets"]
theorem sc_fits : FnScope N_fits ["mill", "late", "word", "size"] (defScope s_fits) := ⟨rfl, rfl, rfl, by decide +kernel, rfl, by decide +kernel, by decide +kernel⟩
abbrev s_code_word : Stmt := top 24
abbrev N_code_word : List Str := ["mill", "late", "code", "many", "word", "pockets", "pocket"]
theorem sc_code_word : FnScope N_code_word ["mill", "late", "code"] (defScope s_code_word) := ⟨rfl, rfl, rfl, by decide +kernel, rfl, by decide +kernel, by decide +kernel⟩

section
variable {P : Program} {w : World} {K : PySem.W.Frag} {mg : Str → Option Value} {base : Heap} {Cm Cw ak bk : Addr} {σ : L2.St} {F H : Hp} {te : TE} {ps : Passes'}
theorem ev_passes (X : Tx K mg Cm Cw ak bk) (h : Ev te σ F H (rMill Cm) ps) : Ev (tFld K te "passes") σ F H rPassesT ps := fun H1 a b Q q =>
  h H1 a b _ fun v F2 H2 u2 r2 => by
    obtain ⟨o, dx, t, rfl, h2, h3⟩ := r2
    exact ⟨o, Cm, dx, _, t, rfl, u2.s _ _ h2, X.k_Mill, X.a_passes, rfl, q t F2 H2 u2 h3⟩
theorem mill_ins {F : Hp} {v : V} {m : Str} (hm : ¬ m = "passes") (h : (rMill Cm).r F v ps) : ∃ a dx fs, v = .ref a ∧ F a = some (.ins Cm dx fs) ∧ fs.lookup m = none := by
  obtain ⟨a, dx, t, h1, h2, h3⟩ := h
  refine ⟨a, dx, _, h1, h2, ?_⟩
  rw [List.lookup_cons, show (m == ("passes" : Str)) = false from beq_eq_false_iff_ne.mpr hm]
  rfl
def sp_codes_ahead (Cm : Addr) : Sp := SpF (ι := Passes' × Nat) (fun i => WfP i.1) (fun i => apCons (rMill Cm) i.1 (apCons rNat i.2 apNil)) (fun _ => rInt) (fun i => codesAhead i.1 i.2)
theorem fold_step {α β : Type} {l : List α} {i : Nat} {x : α} {f : β → α → β} {b : β} (h : l[i]? = some x) : (l.take (i + 1)).foldl f b = f ((l.take i).foldl f b) x := by
  rw [List.take_add_one, h, List.foldl_append]
  rfl
theorem ok_codes_ahead (X : Tx K mg Cm Cw ak bk) (d : Df K mg "codes_ahead" s_codes_ahead) : HasF P w K mg base "codes_ahead" 1 ["mill", "late"] (sp_codes_ahead Cm) := by
  refine ok_def d sc_codes_ahead (fun _ _ _ _ _ _ us hl => match us, hl with | [_, _], _ => rfl) (fun i F vs h => ?_) fun f cdv A0 outer s H0 E hr => ⟨_, (pss_cons (ps_set (i := 2) sc_codes_ahead.nd rfl (.inl rfl) pe_int)
      (pss_cons (ps_for PassesOwn.never rfl (pi_tup (pe_slice sl_tupA (pe_fld (pv 0) rfl) po_none (po_some (pv 1)))) (pg_name (i := 3) sc_codes_ahead.nd rfl (Or.inl rfl))
      (pss_one (ps_set (i := 2) sc_codes_ahead.nd rfl (.inl rfl) (pe_op op_mul (pv 2) (pe_callB (r := rLenS K) call_len_seq (by rfl) X.z_len (by decide +kernel) (pa_cons (pv 3) pa_nil))))))
      (pss_one (ps_ret (pv 2))))), ?_⟩
  · obtain ⟨_, _, rfl, _⟩ := ap2 h
    rfl
  · rintro ⟨ps, late⟩ F H vs wf eF h Q k
    dsimp only at wf h k
    obtain ⟨a, b, rfl, ra, rb⟩ := ap2 h
    refine q_set ev_int eF fun v F1 H1 u1 r1 => ?_
    have r1' : v = .int 1 := r1
    subst r1'
    refine q_for (R := rPassT) (xs := cutG ps none (some (late : Int))) (ei_tup (ev_slT (ev_passes X (ev_var rfl ((rMill Cm).mono u1.f ra))) eo_none (eo_some (ev_var rfl rb)))) u1.s
      (fun i σ F' H' => Up F H F' H' ∧ ∃ y, σ = [some a, some b, some (.int (((cutG ps none (some (late : Int))).take i).foldl (fun p q => p * (q.length : Int)) 1)), y])
      (fun F2 H2 u2 => ⟨u1.trans u2, _, rfl⟩) (fun i σ F2 H2 p => p.1.s) ?_ ?_
    · rintro i q σ F2 H2 v hq ⟨U, y, rfl⟩ rq
      rw [cutG_to (Int.natCast_nonneg _), Int.toNat_natCast] at hq ⊢
      have hm : q ∈ ps := List.mem_of_mem_take (List.mem_of_getElem? hq)
      refine s_set (ev_mul (ev_var rfl rfl) (ev_lenT (ev_var (R := rPassT) rfl rq)) (.inr ?_)) U.s fun v3 F3 H3 u3 r3 => ?_
      · have := (wf.pass q hm).2
        omega
      · refine ⟨F3, u3.f, U.trans u3, some v, ?_⟩
        have r3' : v3 = .int _ := r3
        rw [r3', fold_step hq]
        rfl
    · rintro σ F2 H2 ⟨U, y, rfl⟩
      refine s_ret (R := rInt) (x := codesAhead ps late) (ev_var rfl ?_) U.s fun v F3 H3 u3 r3 => k v F3 H3 (U.trans u3) r3
      rw [List.take_length, cutG_to (Int.natCast_nonneg _), Int.toNat_natCast]
      rfl
/-! many, codes -/
def sp_many (Cm : Addr) : Sp := SpF (ι := Passes') (fun _ => True) (fun i => apCons (rMill Cm) i apNil) (fun _ => rInt) (fun i => (i.length : Int))
theorem ok_many (X : Tx K mg Cm Cw ak bk) (d : Dm K Cm "many" "Mill.many" s_Mill_many) : HasM P w K mg base Cm "many" 1 ["self"] (sp_many Cm) := by
  refine ok_meth d sc_Mill_many (fun _ _ _ _ _ _ us hl => match us, hl with | [_], _ => rfl) (fun i F vs h => ?_) fun f cdv A0 outer s H0 E hr => ⟨_, (pss_one (ps_ret (pe_callB (r := rLenS K) call_len_seq (by rfl) X.z_len (by decide +kernel) (pa_cons (pe_fld (pv 0) rfl) pa_nil)))), ?_⟩
  · obtain ⟨_, rfl, _⟩ := ap1 h
    rfl
  · rintro ps F H vs _ eF h Q k
    obtain ⟨a, rfl, ra⟩ := ap1 h
    exact s_ret (ev_lenT (ev_passes X (ev_var rfl ra))) eF fun v F2 H2 u r => k v F2 H2 u r
theorem ev_many {E : XK} (h : Ev te σ F H (rMill Cm) ps) : Ev (tMeth Cm "many" (sp_many Cm) [] E te tNil) σ F H rInt (ps.length : Int) :=
  ev_meth (A0 := apNil) ps h (fun _ _ r => mill_ins (by decide +kernel) r) ea_nil (fun _ _ _ r1 r2 => ⟨_, _, rfl, r1, r2⟩) trivial
def sp_codes (Cm : Addr) : Sp := SpF (ι := Passes') WfP (fun i => apCons (rMill Cm) i apNil) (fun _ => rInt) (fun i => codes i)
theorem ok_codes (X : Tx K mg Cm Cw ak bk) (d : Dm K Cm "codes" "Mill.codes" s_Mill_codes) (h_codes_ahead : HasF P w K mg base "codes_ahead" 1 ["mill", "late"] (sp_codes_ahead Cm)) (h_Mill_many : HasM P w K mg base Cm "many" 1 ["self"] (sp_many Cm)) :
    HasM P w K mg base Cm "codes" 2 ["self"] (sp_codes Cm) := by
  refine ok_meth d sc_Mill_codes (fun _ _ _ _ _ _ us hl => match us, hl with | [_], _ => rfl) (fun i F vs h => ?_) fun f cdv A0 outer s H0 E hr => ⟨_, (pss_one (ps_ret (pe_hf h_codes_ahead (hr.mono (by decide)) (by rfl) (pa_cons (pv 0) (pa_cons (pe_hm0 (pv 0) X.k_Mill h_Mill_many (hr.mono (by decide))) pa_nil))))), ?_⟩
  · obtain ⟨_, rfl, _⟩ := ap1 h
    rfl
  · rintro ps F H vs wf eF h Q k
    obtain ⟨a, rfl, ra⟩ := ap1 h
    exact s_ret (ev_call (ps, ps.length) (ea_cons (ev_var rfl ra) (ea_cons ((ev_many (ev_var rfl ra)).toNat rfl) ea_nil)) wf) eF fun v F2 H2 u r => k v F2 H2 u r
theorem ev_codes {E : XK} (wf : WfP ps) (h : Ev te σ F H (rMill Cm) ps) : Ev (tMeth Cm "codes" (sp_codes Cm) [] E te tNil) σ F H rInt (codes ps) :=
  ev_meth (A0 := apNil) ps h (fun _ _ r => mill_ins (by decide +kernel) r) ea_nil (fun _ _ _ r1 r2 => ⟨_, _, rfl, r1, r2⟩) wf
/-! look_at_late, look_at_word -/
def sp_look_at_late (Cm : Addr) : Sp := SpF (ι := Passes' × Nat) (fun i => i.2 ≤ i.1.length) (fun i => apCons (rMill Cm) i.1 (apCons rNat i.2 apNil)) (fun _ => rNon) (fun _ => ())
theorem ok_look_at_late (X : Tx K mg Cm Cw ak bk) (d : Df K mg "look_at_late" s_look_at_late) (h_Mill_many : HasM P w K mg base Cm "many" 1 ["self"] (sp_many Cm)) :
    HasF P w K mg base "look_at_late" 2 ["mill", "late"] (sp_look_at_late Cm) := by
  refine ok_def d sc_look_at_late (fun _ _ _ _ _ _ us hl => match us, hl with | [_, _], _ => rfl) (fun i F vs h => ?_) fun f cdv A0 outer s H0 E hr => ⟨_, (pss_one (ps_if (PW.pt (pw_or (pt_cmpR op_lt (pv 1) pe_int (nomark _)) (pw_or1 (pt_cmpR op_gt (pv 1) (pe_hm0 (pv 0) X.k_Mill h_Mill_many (hr.mono (by decide))) (nomark _))))) (pss_one ps_never) pss_nil)), ?_⟩
  · obtain ⟨_, _, rfl, _⟩ := ap2 h
    rfl
  · rintro ⟨ps, late⟩ F H vs hl' eF h Q k
    dsimp only at hl' h k
    obtain ⟨a, b, rfl, ra, rb⟩ := ap2 h
    exact s_guard (eb_or0 ((eb_test (ev_lt (Ev.ofNat (ev_var rfl rb)) ev_int)).is (decide_eq_false (by omega))) ((eb_test (ev_gt (Ev.ofNat (ev_var rfl rb)) (ev_many (ev_var rfl ra)))).is (decide_eq_false (by omega)))) eF fun H1 u => k _ _ _ u rfl
abbrev iW := Passes' × Nat × List Nat
abbrev aW (Cm : Addr) (i : iW) : Ap := apCons (rMill Cm) i.1 (apCons rNat i.2.1 (apCons rWord i.2.2 apNil))
def sp_look_at_word (Cm : Addr) : Sp := SpF (ι := iW) (fun i => ValidW i.1 i.2.1 i.2.2) (aW Cm) (fun _ => rNon) (fun _ => ())
theorem cut_late {late : Nat} : cutG ps (some (late : Int)) none = ps.drop late := by
  rw [cutG_from (Int.natCast_nonneg _), Int.toNat_natCast]
theorem ei_word {late : Nat} {wd : List Nat} {i j k : Nat} {a b c : V} (X : Tx K mg Cm Cw ak bk) (e1 : σ[i]? = some (some a)) (e2 : σ[j]? = some (some b)) (e3 : σ[k]? = some (some c)) (ra : (rMill Cm).r F a ps) (rb : rNat.r F b late) (rc : rWord.r F c wd) :
    EvI (RZ.iZipA K (tCons (tVar k) (tCons (tSl (rSlA K) (tFld K (tVar i) "passes") (tPart (tVar j)) tNoPart) tNil))) σ F H (rTup2 rNat rPassT) (wd.zip (ps.drop late)) False := by
  have h := ei_zipT (K := K) (R := rNat) (S := rPassT) (xs := wd) (ys := cutG ps (some (late : Int)) none) (ea_cons (ev_var (H := H) e3 rc) (ea_cons (ev_slT (K := K) (ev_passes X (ev_var e1 ra)) (eo_some (Ev.ofNat (ev_var e2 rb))) eo_none) ea_nil))
  rw [cut_late] at h
  exact h
theorem zip_at {late i : Nat} {wd : List Nat} {jp : Nat × Pass} (hv : ValidW ps late wd) (h : (wd.zip (ps.drop late))[i]? = some jp) : jp.1 < jp.2.length := by
  obtain ⟨h1, h2⟩ := zip_get h
  exact hv.ok i _ _ h1 h2
theorem ok_look_at_word (X : Tx K mg Cm Cw ak bk) (d : Df K mg "look_at_word" s_look_at_word) (h_look_at_late : HasF P w K mg base "look_at_late" 2 ["mill", "late"] (sp_look_at_late Cm)) (h_Mill_many : HasM P w K mg base Cm "many" 1 ["self"] (sp_many Cm)) :
    HasF P w K mg base "look_at_word" 3 ["mill", "late", "word"] (sp_look_at_word Cm) := by
  refine ok_def d sc_look_at_word (fun _ _ _ _ _ _ us hl => match us, hl with | [_, _, _], _ => rfl) (fun i F vs h => ?_) fun f cdv A0 outer s H0 E hr => ⟨_, (pss_cons (ps_expr (pe_hf h_look_at_late (hr.mono (by decide)) (by rfl) (pa_cons (pv 0) (pa_cons (pv 1) pa_nil))))
      (pss_cons (ps_if (pt_cmpR op_ne (pe_callB (r := rLenS K) call_len_seq (by rfl) X.z_len (by decide +kernel) (pa_cons (pv 2) pa_nil)) (pe_op op_sub (pe_hm0 (pv 0) X.k_Mill h_Mill_many (hr.mono (by decide))) (pv 1)) (nomark _)) (pss_one ps_never) pss_nil)
      (pss_one (ps_for PassesOwn.never rfl (RZ.pi_zipA (by rfl) X.z_zip (pa_cons (pv 2) (pa_cons (pe_slice sl_tupA (pe_fld (pv 0) rfl) (po_some (pv 1)) po_none) pa_nil))) (pg_tup rfl (pgs_cons (pg_name (i := 3) sc_look_at_word.nd rfl (Or.inl rfl)) (pgs_cons (pg_name (i := 4) sc_look_at_word.nd rfl (Or.inl rfl)) pgs_nil)))
      (pss_one (ps_if (PW.pt (pw_or (pt_cmpR op_lt (pv 3) pe_int (nomark _)) (pw_or1 (pt_cmpR op_ge (pv 3) (pe_callB (r := rLenS K) call_len_seq (by rfl) X.z_len (by decide +kernel) (pa_cons (pv 4) pa_nil)) (nomark _))))) (pss_one ps_never) pss_nil)))))), ?_⟩
  · obtain ⟨_, _, _, rfl, _⟩ := ap3 h
    rfl
  · rintro ⟨ps, late, wd⟩ F H vs hv' eF h Q k
    dsimp only [aW] at hv' h k
    obtain ⟨a, b, c, rfl, ra, rb, rc⟩ := ap3 h
    have hlt := hv'.lt
    have hlen := hv'.len
    refine q_drop (ev_call (ps, late) (ea_cons (ev_var rfl ra) (ea_cons (ev_var rfl rb) ea_nil)) hlt) eF fun _ F1 H1 u1 _ => ?_
    replace ra := (rMill Cm).mono u1.f ra
    replace rc := rWord.mono u1.f rc
    refine q_guard ((eb_test (ev_neI (ev_lenT (R := rNat) (ev_var rfl rc)) (ev_sub (ev_many (ev_var rfl ra)) (Ev.ofNat (ev_var rfl rb))))).is (by simp; omega)) u1.s fun H2 u2 => ?_
    have U := u1.trans u2
    refine s_forZ (ei_word X rfl rfl rfl ra rb rc) U.s (fun i σ F' H' => Up F H F' H' ∧ ∃ x y, σ = [some a, some b, some c, x, y]) (fun F3 H3 u3 => ⟨U.trans u3, none, none, rfl⟩) (fun _ _ _ _ p => p.1.s) ?_ ?_
    · rintro i jp σ F3 H3 F4 H4 v hjp ⟨U3, x, y, rfl⟩ u4 rv
      obtain ⟨x', y', h1, h2, h3⟩ := gt_tup2 (K := K) (i := 3) (j := 4) (σ := [some a, some b, some c, x, y]) rv
      refine h3 H4 u4.s _ ?_
      have hj := zip_at hv' hjp
      refine s_guard (eb_or0 ((eb_test (ev_lt (Ev.ofNat (ev_var rfl h1)) ev_int)).is (decide_eq_false (by omega))) ((eb_test (ev_ge (Ev.ofNat (ev_var rfl h1)) (ev_lenT (R := rPocket) (ev_var rfl h2)))).is (decide_eq_false (by omega)))) u4.s fun H5 u5 => ?_
      exact ⟨F4, u4.f, (U3.trans u4).trans u5, _, _, rfl⟩
    · rintro σ F3 H3 ⟨U3, _⟩
      exact k _ _ _ U3 rfl
/-! face -/
def sp_face (Cm : Addr) : Sp := SpF (ι := iW) (fun i => ValidW i.1 i.2.1 i.2.2) (aW Cm) (fun _ => rInt) (fun i => faceOf i.1 i.2.1 i.2.2)
theorem kindS_pile (b : Bool) : decide (kindS b = ("pile" : Str)) = b := by
  cases b with
  | true => exact decide_eq_true rfl
  | false => decide +kernel
theorem rKind_str {F : Hp} {v : V} {b : Bool} (h : rKind.r F v b) : rStr.r F v (kindS b) := h
theorem pk_at {p : Pass} {j : Nat} (hj : j < p.length) : p[((j : Int)).toNat]? = some (pk p j) := by
  unfold pk
  rw [Int.toNat_natCast, List.getD_eq_getElem?_getD, List.getElem?_eq_getElem hj]; rfl
/-- pockets[pocket][0] == "pile" -/
theorem eb_pile {ta tb : TE} {p : Pass} {j : Nat} (ha : Ev ta σ F H rPassT p) (hb : Ev tb σ F H rNat j) (hj : j < p.length) : EvB (tTest (tOp rEq (tOp (rIxT K) (tOp (rIxT K) ta tb) (tC (.int 0))) (tC (.str "pile")))) σ F H (pk p j).1 := by
  have h1 := pk_at hj
  refine (eb_test (ev_eqS ((ev_fst (R := rKind) (S := rInt) (ev_ixT (R := rPocket) ha (Ev.ofNat hb) (by omega) h1)).as fun _ _ q => rKind_str q) ev_str)).is ?_
  exact kindS_pile _
/-- kinds[k][0] == "pile" -/
theorem eb_pile1 {ta tb : TE} {p : Pass} {j : Nat} (ha : Ev ta σ F H rPassT p) (hb : Ev tb σ F H rNat j) (hj : j < p.length) : EvB (tTest (tOp rEq (tOp (rIxT K) (tOp (rIxT K) ta tb) (tC (.int 0))) (tC (.str "pile")))) σ F H (pk p j).1 := eb_pile ha hb hj
theorem ok_face (X : Tx K mg Cm Cw ak bk) (d : Df K mg "face" s_face) (h_look_at_word : HasF P w K mg base "look_at_word" 3 ["mill", "late", "word"] (sp_look_at_word Cm)) :
    HasF P w K mg base "face" 4 ["mill", "late", "word"] (sp_face Cm) := by
  refine ok_def d sc_face (fun _ _ _ _ _ _ us hl => match us, hl with | [_, _, _], _ => rfl) (fun i F vs h => ?_) fun f cdv A0 outer s H0 E hr => ⟨_, (pss_cons (ps_expr (pe_hf h_look_at_word (hr.mono (by decide)) (by rfl) (pa_cons (pv 0) (pa_cons (pv 1) (pa_cons (pv 2) pa_nil)))))
      (pss_cons (ps_set (i := 3) sc_face.nd rfl (.inl rfl) pe_int)
      (pss_cons (ps_for PassesOwn.never rfl (RZ.pi_zipA (by rfl) X.z_zip (pa_cons (pv 2) (pa_cons (pe_slice sl_tupA (pe_fld (pv 0) rfl) (po_some (pv 1)) po_none) pa_nil))) (pg_tup rfl (pgs_cons (pg_name (i := 4) sc_face.nd rfl (Or.inl rfl)) (pgs_cons (pg_name (i := 5) sc_face.nd rfl (Or.inl rfl)) pgs_nil)))
      (pss_one (ps_if (pt_cmpR op_eq (pe_ix (r := rIxT K) ix_tup (pe_ix (r := rIxT K) ix_tup (pv 5) (pv 4) (fun _ _ => rfl)) pe_int (fun _ _ => rfl)) pe_str (nomark _)) (pss_one (ps_set (i := 3) sc_face.nd rfl (.inl rfl) (pe_un un_neg (pv 3)))) pss_nil)))
      (pss_one (ps_ret (pv 3)))))), ?_⟩
  · obtain ⟨_, _, _, rfl, _⟩ := ap3 h
    rfl
  · rintro ⟨ps, late, wd⟩ F H vs hv' eF h Q k
    dsimp only [aW] at hv' h k
    obtain ⟨a, b, c, rfl, ra, rb, rc⟩ := ap3 h
    refine q_drop (ev_call (ps, late, wd) (ea_cons (ev_var rfl ra) (ea_cons (ev_var rfl rb) (ea_cons (ev_var rfl rc) ea_nil))) hv') eF fun _ F1 H1 u1 _ => ?_
    refine q_set ev_int u1.s fun v F2 H2 u2 r2 => ?_
    have r2' : v = .int 1 := r2
    subst r2'
    have U := u1.trans u2
    replace ra := (rMill Cm).mono U.f ra
    replace rc := rWord.mono U.f rc
    refine q_forZ (ei_word X rfl rfl rfl ra rb rc) U.s (fun i σ F' H' => Up F H F' H' ∧ ∃ x y, σ = [some a, some b, some c, some (.int (((wd.zip (ps.drop late)).take i).foldl (fun s jp => if (pk jp.2 jp.1).1 = true then -s else s) 1)), x, y])
      (fun F3 H3 u3 => ⟨U.trans u3, none, none, rfl⟩) (fun _ _ _ _ p => p.1.s) ?_ ?_
    · rintro i jp σ F3 H3 F4 H4 v hjp ⟨U3, x, y, rfl⟩ u4 rv
      obtain ⟨x', y', h1, h2, h3⟩ := gt_tup2 (K := K) (i := 4) (j := 5) (σ := [some a, some b, some c, some (.int (((wd.zip (ps.drop late)).take i).foldl (fun s jp => if (pk jp.2 jp.1).1 = true then -s else s) 1)), x, y]) rv
      refine h3 H4 u4.s _ ?_
      have hj := zip_at hv' hjp
      refine s_ifSet (R := rInt) (x := ((wd.zip (ps.drop late)).take (i + 1)).foldl (fun s jp => if (pk jp.2 jp.1).1 = true then -s else s) 1) (eb_pile (ev_var rfl h2) (ev_var rfl h1) hj) u4.s (fun hb => ?_) (fun hb => ?_) fun v5 F5 H5 u5 r5 => ?_
      · rw [fold_step hjp, if_pos hb]
        exact ev_neg (ev_var rfl rfl)
      · refine ⟨_, rfl, ?_⟩
        rw [fold_step hjp, if_neg (by rw [hb]; decide)]
        rfl
      · have r5' : v5 = .int _ := r5
        subst r5'
        exact ⟨F5, u4.f.trans u5.f, (U3.trans u4).trans u5, _, _, rfl⟩
    · rintro σ F3 H3 ⟨U3, x, y, rfl⟩
      refine s_ret (R := rInt) (x := faceOf ps late wd) (ev_var rfl ?_) U3.s fun v F4 H4 u4 r4 => k v F4 H4 (U3.trans u4) r4
      rw [List.take_length]
      rfl
/-! fits -/
def sp_fits (Cm : Addr) : Sp := SpF (ι := Passes' × Nat × List Nat × Int) (fun i => WfP i.1 ∧ ValidW i.1 i.2.1 i.2.2.1 ∧ 1 ≤ i.2.2.2 ∧ i.2.2.2 ≤ 9) (fun i => apCons (rMill Cm) i.1 (apCons rNat i.2.1 (apCons rWord i.2.2.1 (apCons rInt i.2.2.2 apNil)))) (fun _ => rBl) (fun i => fitsOf i.1 i.2.1 i.2.2.1 i.2.2.2)
theorem ok_fits (X : Tx K mg Cm Cw ak bk) (d : Df K mg "fits" s_fits) (h_look_at_word : HasF P w K mg base "look_at_word" 3 ["mill", "late", "word"] (sp_look_at_word Cm)) :
    HasF P w K mg base "fits" 4 ["mill", "late", "word", "size"] (sp_fits Cm) := by
  refine ok_def d sc_fits (fun _ _ _ _ _ _ us hl => match us, hl with | [_, _, _, _], _ => rfl) (fun i F vs h => ?_) fun f cdv A0 outer s H0 E hr => ⟨_, (pss_cons (ps_expr (pe_hf h_look_at_word (hr.mono (by decide)) (by rfl) (pa_cons (pv 0) (pa_cons (pv 1) (pa_cons (pv 2) pa_nil)))))
      (pss_cons (ps_if (PW.pt (pw_or (pt_cmpR op_lt (pv 3) pe_int (nomark _)) (pw_or1 (pt_cmpR op_gt (pv 3) (pe_gint rfl X.c_WIDEST) (nomark _))))) (pss_one ps_never) pss_nil)
      (pss_one (ps_ret (pe_callB (cr_all rfl) (by rfl) X.z_all (by decide +kernel) (pa_cons (pe_lc (own := [("pocket", 4), ("pockets", 5)]) (g := (gTup K 2 (gCons (gName 4) (gCons (gName 5) gNil)))) (tt := tYes) rfl sc_fits.nd (RZ.pi_zipA (by rfl) X.z_zip (pa_cons (pv 2) (pa_cons (pe_slice sl_tupA (pe_fld (pv 0) rfl) (po_some (pv 1)) po_none) pa_nil))) (blkOk_by (N := N_fits) (sc := defScope s_fits) (by decide +kernel)) (fun _ _ _ _ _ => (pg_tup rfl (pgs_cons (pg_name (i := 4) sc_fits.nd rfl (Or.inl rfl)) (pgs_cons (pg_name (i := 5) sc_fits.nd rfl (Or.inl rfl)) pgs_nil)))) (fun _ _ _ _ _ => pts_nil) (fun _ _ _ _ _ => (pe_cmpR op_ge (pe_ix (r := rIxT K) ix_tup (pe_ix (r := rIxT K) ix_tup (pv 5) (pv 4) (fun _ _ => rfl)) pe_int (fun _ _ => rfl)) (pv 3) (nomark _)))) pa_nil)))))), ?_⟩
  · obtain ⟨_, _, _, _, rfl, _⟩ := ap4 h
    rfl
  · rintro ⟨ps, late, wd, size⟩ F H vs hp eF h Q k
    dsimp only at hp h k
    obtain ⟨hw, hv', hs'⟩ := hp
    obtain ⟨a, b, c, e, rfl, ra, rb, rc, re⟩ := ap4 h
    refine q_drop (ev_call (ps, late, wd) (ea_cons (ev_var rfl ra) (ea_cons (ev_var rfl rb) (ea_cons (ev_var rfl rc) ea_nil))) hv') eF fun _ F1 H1 u1 _ => ?_
    replace re := rInt.mono u1.f re
    refine q_guard (eb_or0 ((eb_test (ev_lt (ev_var (R := rInt) (x := size) rfl re) ev_int)).is (decide_eq_false (by omega))) ((eb_test (ev_gt (ev_var (R := rInt) (x := size) rfl re) ev_int)).is (decide_eq_false (by omega)))) u1.s fun H2 u2 => ?_
    have U := u1.trans u2
    replace ra := (rMill Cm).mono U.f ra
    replace rc := rWord.mono U.f rc
    refine s_ret (ev_all (bs := (wd.zip (ps.drop late)).map fun (jp : Nat × Pass) => decide (size ≤ (pk jp.2 jp.1).2)) (ev_lcT2 (f := fun (jp : Nat × Pass) => decide (size ≤ (pk jp.2 jp.1).2)) (ei_word X rfl rfl rfl ra rb rc) ?_ (fun _ _ => rfl) fun jp x y F3 hm e3 rx ry => ?_)) U.s fun v F4 H4 u4 r4 => k v F4 H4 (U.trans u4) r4
    · rw [List.length_zip, hv'.len]
      have := hw.many
      omega
    · obtain ⟨i, hi⟩ := List.getElem?_of_mem hm
      have hj := zip_at hv' hi
      exact ev_ge (ev_snd (R := rKind) (S := rInt) (ev_ixT (R := rPocket) (ev_var rfl ry) (Ev.ofNat (ev_var rfl rx)) (by omega) (pk_at hj))) (ev_var (R := rInt) (x := size) rfl (rInt.mono e3 re))
/-! code_word -/
def sp_code_word (Cm : Addr) : Sp := SpF (ι := Passes' × Nat × Int) (fun i => WfP i.1 ∧ i.2.1 ≤ i.1.length ∧ 0 ≤ i.2.2 ∧ i.2.2 < codes i.1) (fun i => apCons (rMill Cm) i.1 (apCons rNat i.2.1 (apCons rInt i.2.2 apNil))) (fun _ => rOpt rWord) (fun i => codeWord i.1 i.2.1 i.2.2)
theorem back_take {late i : Nat} (code : Int) (hi : i ≤ ps.length - late) : backRun ps late code (ps.length - late - i) = ((ps.drop late).reverse.take i).foldl cwStep (codes ps, code, []) := by
  unfold backRun
  have e : ((ps.drop late).drop (ps.length - late - i)).reverse = (ps.drop late).reverse.take i := by
    rw [List.reverse_drop, List.length_drop]
    congr 1
    omega
  rw [e]
theorem ok_code_word (X : Tx K mg Cm Cw ak bk) (d : Df K mg "code_word" s_code_word) (h_look_at_late : HasF P w K mg base "look_at_late" 2 ["mill", "late"] (sp_look_at_late Cm)) (h_Mill_codes : HasM P w K mg base Cm "codes" 2 ["self"] (sp_codes Cm)) :
    HasF P w K mg base "code_word" 3 ["mill", "late", "code"] (sp_code_word Cm) := by
  refine ok_def d sc_code_word (fun _ _ _ _ _ _ us hl => match us, hl with | [_, _, _], _ => rfl) (fun i F vs h => ?_) fun f cdv A0 outer s H0 E hr => ⟨_, (pss_cons (ps_expr (pe_hf h_look_at_late (hr.mono (by decide)) (by rfl) (pa_cons (pv 0) (pa_cons (pv 1) pa_nil))))
      (pss_cons (ps_set (i := 3) sc_code_word.nd rfl (.inl rfl) (pe_hm0 (pv 0) X.k_Mill h_Mill_codes (hr.mono (by decide))))
      (pss_cons (ps_if (PW.pt (pw_or (pt_cmpR op_lt (pv 2) pe_int (nomark _)) (pw_or1 (pt_cmpR op_ge (pv 2) (pv 3) (nomark _))))) (pss_one ps_never) pss_nil)
      (pss_cons (ps_set (i := 4) sc_code_word.nd rfl (.inl rfl) (pe_lst pa_nil))
      (pss_cons (ps_for PassesOwn.never rfl (RT.pi_revA (by rfl) X.z_reversed (pe_slice sl_tupA (pe_fld (pv 0) rfl) (po_some (pv 1)) po_none)) (pg_name (i := 5) sc_code_word.nd rfl (Or.inl rfl))
      (pss_cons (ps_set (i := 3) sc_code_word.nd rfl (.inl rfl) (pe_op op_fdiv (pv 3) (pe_callB (r := rLenS K) call_len_seq (by rfl) X.z_len (by decide +kernel) (pa_cons (pv 5) pa_nil))))
      (pss_cons (ps_asg (pe_callB call_divmod (by rfl) X.z_divmod (by decide +kernel) (pa_cons (pv 2) (pa_cons (pv 3) pa_nil))) (pg_tup rfl (pgs_cons (pg_name (i := 6) sc_code_word.nd rfl (Or.inl rfl)) (pgs_cons (pg_name (i := 2) sc_code_word.nd rfl (Or.inl rfl)) pgs_nil))))
      (pss_cons (ps_if (pt_cmpR op_eq (pe_ix (r := rIxT K) ix_tup (pe_ix (r := rIxT K) ix_tup (pv 5) (pv 6) (fun _ _ => rfl)) pe_int (fun _ _ => rfl)) pe_str (nomark _)) (pss_one (ps_set (i := 2) sc_code_word.nd rfl (.inl rfl) (pe_op op_sub (pe_op op_sub (pv 3) pe_int) (pv 2)))) pss_nil)
      (pss_one (ps_expr (pe_bm PySem.F.plainAttrs_list PySem.F.slot_list_append PySem.F.type_list_append mt_append (pv 4) (pa_cons (pv 6) pa_nil))))))))
      (pss_cons (ps_if (pt_cmpR op_ne (pv 2) (pe_op op_sub (pv 3) pe_int) (nomark _)) (pss_one (ps_ret pe_non)) pss_nil)
      (pss_one (ps_ret (RT.pe_tupRev rfl (by rfl) X.z_tuple (by rfl) X.z_reversed (pv 4)))))))))), ?_⟩
  · obtain ⟨_, _, _, rfl, _⟩ := ap3 h
    rfl
  · rintro ⟨ps, late, code⟩ F H vs hp eF h Q k
    dsimp only at hp h k
    obtain ⟨wf', hl', c0', c1'⟩ := hp
    obtain ⟨a, b, c, rfl, ra, rb, rc⟩ := ap3 h
    have rc' : c = .int code := rc
    subst rc'
    refine q_drop (ev_call (ps, late) (ea_cons (ev_var rfl ra) (ea_cons (ev_var rfl rb) ea_nil)) hl') eF fun _ F1 H1 u1 _ => ?_
    replace ra := (rMill Cm).mono u1.f ra
    refine q_set (ev_codes wf' (ev_var rfl ra)) u1.s fun v F2 H2 u2 r2 => ?_
    have r2' : v = .int (codes ps) := r2
    subst r2'
    have U := u1.trans u2
    replace ra := (rMill Cm).mono u2.f ra
    refine q_guard (eb_or0 ((eb_test (ev_lt (ev_var (R := rInt) (x := code) rfl rfl) ev_int)).is (decide_eq_false (by omega))) ((eb_test (ev_ge (ev_var (R := rInt) (x := code) rfl rfl) (ev_var (R := rInt) (x := codes ps) rfl rfl))).is (decide_eq_false (by omega)))) U.s fun H3 u3 => ?_
    have U3 := U.trans u3
    refine q_newL rNat U3 fun l H4 hl4 u4 U4 m4 => ?_
    have hei := (ei_revT (K := K) (H := H4) (σ := [some a, some b, some (.int code), some (.int (codes ps)), some (.ref l), none, none]) (ev_slT (K := K) (ev_passes X (ev_var (i := 0) rfl ra)) (eo_some (Ev.ofNat (ev_var (i := 1) (R := rNat) (x := late) rfl rb))) eo_none))
    rw [cut_late] at hei
    refine q_for hei U4.s (fun i σ F' H' => Up F H F' H' ∧ ∃ x y, ML H F' H' l rNat (((ps.drop late).reverse.take i).foldl cwStep (codes ps, code, [])).2.2 ∧
        σ = [some a, some b, some (.int (((ps.drop late).reverse.take i).foldl cwStep (codes ps, code, [])).2.1), some (.int (((ps.drop late).reverse.take i).foldl cwStep (codes ps, code, [])).1), some (.ref l), x, y])
      (fun F5 H5 u5 => ⟨U4.trans u5, none, none, m4.up u5, rfl⟩) (fun _ _ _ _ p => p.1.s) ?_ ?_
    · rintro i p σ F5 H5 v hp ⟨U5, x, y, m5, rfl⟩ rp
      obtain ⟨hp', hi⟩ := getElem?_rev hp
      rw [List.length_drop] at hp' hi
      rw [List.getElem?_drop] at hp'
      have hpm : p ∈ ps := List.mem_of_getElem? hp'
      have hlen := wf'.pass p hpm
      have bi := back_inv wf' hl' c0' c1' i (ps.length - late - i) (by omega)
      have bi1 := back_inv wf' hl' c0' c1' (i + 1) (ps.length - late - (i + 1)) (by omega)
      rw [back_take code (by omega)] at bi bi1
      have st := fold_step (f := cwStep) (b := (codes ps, code, [])) hp
      rw [st] at bi1
      have hpos := codesAhead_pos wf' (late + (ps.length - late - (i + 1)))
      generalize ((ps.drop late).reverse.take i).foldl cwStep (codes ps, code, []) = stt at *
      obtain ⟨many, cd, wd⟩ := stt
      obtain ⟨b1, b2, b3, b4, _⟩ := bi
      obtain ⟨b5, b6, b7, _, _⟩ := bi1
      dsimp only at b1 b2 b3 b4 b5 m5
      rw [show late + (ps.length - late - i) = late + (ps.length - late - (i + 1)) + 1 by omega, codesAhead_succ (q := p) (by rw [← hp']; congr 1; omega)] at b1 b3
      have em : many / (p.length : Int) = codesAhead ps (late + (ps.length - late - (i + 1))) := b5
      have cb := codesAhead_le_codes wf' (t := late + (ps.length - late - (i + 1))) (by omega)
      have wc := wf'.codes
      have q0 : 0 ≤ cd / (many / (p.length : Int)) := by rw [em]; exact Int.ediv_nonneg b2 (by omega)
      have q1 : cd / (many / (p.length : Int)) < (p.length : Int) := by rw [em]; exact Int.ediv_lt_of_lt_mul hpos (by rw [Int.mul_comm]; exact b3)
      -- many = many // len(pockets)
      refine q_set (ev_fdiv (ev_var (R := rInt) (x := many) rfl rfl) (ev_lenT (R := rPocket) (ev_var rfl rp)) ⟨by omega, by omega⟩) U5.s fun v6 F6 H6 u6 r6 => ?_
      have r6' : v6 = .int _ := r6
      subst r6'
      -- pocket, code = divmod(code, many)
      refine q_asg2 (ev_divmod (ev_var (R := rInt) (x := cd) rfl rfl) (ev_var (R := rInt) (x := many / (p.length : Int)) rfl rfl) ⟨by omega, by omega⟩) u6.s fun v7 v8 F7 H7 u7 r7 r8 => ?_
      have r7' : v7 = .int _ := r7
      have r8' : v8 = .int _ := r8
      subst r7'; subst r8'
      have rp7 := rPassT.mono (u6.f.trans u7.f) rp
      have hq : rNat.r F7 (.int (cd / (many / (p.length : Int)))) (cd / (many / (p.length : Int))).toNat := by
        show V.int _ = V.int _
        rw [Int.toNat_of_nonneg q0]
      -- if pockets[pocket][0] == "pile": code = many - 1 - code
      refine q_ifSet (R := rInt) (x := (cwStep (many, cd, wd) p).2.1) (eb_pile (ev_var rfl rp7) (ev_var rfl hq) (by omega)) u7.s (fun hb => ?_) (fun hb => ?_) fun v9 F9 H9 u9 r9 => ?_
      · unfold cwStep
        dsimp only
        rw [if_pos hb]
        exact ev_sub (ev_sub (ev_var (R := rInt) rfl rfl) ev_int) (ev_var (R := rInt) rfl rfl)
      · refine ⟨_, rfl, ?_⟩
        unfold cwStep
        dsimp only
        rw [if_neg (by rw [hb]; decide)]
        rfl
      have r9' : v9 = .int _ := r9
      subst r9'
      have U9 := U5.trans ((u6.trans u7).trans u9)
      refine s_app U9 (m5.up ((u6.trans u7).trans u9)) rfl (ev_var (R := rNat) (x := (cd / (many / (p.length : Int))).toNat) rfl (rNat.mono u9.f hq)) (by have := wf'.many; omega) fun F10 H10 ws u10 U10 m10 => ?_
      refine ⟨F10, ((u6.trans u7).trans u9).f.trans u10.f, U10, some v, some (.int (cd / (many / (p.length : Int)))), ?_, ?_⟩
      · rw [st]; exact m10
      · rw [st]; rfl
    · rintro σ F5 H5 ⟨U5, x, y, m5, rfl⟩
      rw [List.take_length]
      rw [List.take_length] at m5
      have ecw : ((ps.drop late).reverse).foldl cwStep (codes ps, code, []) = cwRun ps late code := rfl
      rw [ecw] at m5 ⊢
      refine q_if (eb_test (ev_neI (ev_var (R := rInt) (x := (cwRun ps late code).2.1) rfl rfl) (ev_sub (ev_var (R := rInt) (x := (cwRun ps late code).1) rfl rfl) ev_int))) U5.s (fun hb H6 u6 => ?_) (fun hb H6 u6 => ?_)
      · have hne : ¬ (cwRun ps late code).2.1 = (cwRun ps late code).1 - 1 := by simpa using hb
        refine s_ret (R := rOpt rWord) ev_non u6.s fun v F7 H7 u7 r7 => k v F7 H7 (U5.trans (u6.trans u7)) ?_
        show (rOpt rWord).r F7 v (codeWord ps late code)
        unfold codeWord
        rw [if_neg hne]
        exact r7
      · have he : (cwRun ps late code).2.1 = (cwRun ps late code).1 - 1 := by simpa using hb
        obtain ⟨F7, f7, U7, r7, _⟩ := (m5.up u6).freeze (U5.trans u6)
        refine s_ret (R := rOpt rWord) (Ev.some (ev_tupRev (R := rNat) (ev_var rfl r7)) fun _ _ q => rTupL_not q) U7.s fun v F8 H8 u8 r8 => k v F8 H8 (U7.trans u8) ?_
        show (rOpt rWord).r F8 v (codeWord ps late code)
        unfold codeWord
        rw [if_pos he]
        exact r8
end
end PM
end

section
set_option Elab.async false
set_option linter.all false
set_option maxRecDepth 100000
set_option maxHeartbeats 2000000
/-! mills: how one is made -/
namespace PM
open PySem PySem.Spec PyProof.Rows L2
abbrev s_pockets_kept : Stmt := top 17
abbrev N_pockets_kept : List Str := ["pockets", "kept", "kind", "width"]
theorem sc_pockets_kept : FnScope N_pockets_kept ["pockets"] (defScope s_pockets_kept) := ⟨rfl, rfl, rfl, by decide +kernel, rfl, by decide +kernel, by decide +kernel⟩
abbrev s_Mill___init__ : Stmt := inClass (top 18) 0
abbrev N_Mill___init__ : List Str := ["self", "passes", "pockets"]
theorem sc_Mill___init__ : FnScope N_Mill___init__ ["self", "passes"] (defScope s_Mill___init__) := ⟨rfl, rfl, rfl, by decide +kernel, rfl, by decide +kernel, by decide +kernel⟩
section
variable {P : Program} {w : World} {K : PySem.W.Frag} {mg : Str → Option Value} {base : Heap} {Cm Cw ak bk : Addr} {σ : L2.St} {F H : Hp} {te : TE} {ps : Passes'}
theorem eb_kind (X : Tx K mg Cm Cw ak bk) {b : Bool} (h : Ev te σ F H rKind b) : EvB (tTest (tOp (rIn K true) te (tC (.ref ak)))) σ F H false :=
  eb_test (ev_two (S := rV) (y := .ref ak) (T := rBl) h (ev_c rfl) fun F1 H1 x y _ e1 _ rx ry Q q => by
    have rx' : x = .str (kindS b) := rx
    have ry' : y = .ref ak := ry
    subst rx'; subst ry'
    refine ⟨ak, _, rfl, .inr (X.v_mills H1), rfl, rfl, q _ F1 H1 (Up.refl e1) ?_⟩
    show V.bl _ = V.bl false
    cases b <;> decide +kernel)
def WfPass (p : Pass) : Prop := (1 ≤ p.length ∧ p.length ≤ 6) ∧ ∀ k ∈ p, 0 ≤ k.2 ∧ k.2 ≤ 9
def sp_pockets_kept : Sp := SpF (ι := Pass) WfPass (fun i => apCons rPassL i apNil) (fun _ => rPassT) (fun i => i)
theorem ok_pockets_kept (X : Tx K mg Cm Cw ak bk) (d : Df K mg "pockets_kept" s_pockets_kept) : HasF P w K mg base "pockets_kept" 1 ["pockets"] sp_pockets_kept := by
  refine ok_def d sc_pockets_kept (fun _ _ _ _ _ _ us hl => match us, hl with | [_], _ => rfl) (fun i F vs h => ?_) fun f cdv A0 outer s H0 E hr => ⟨_, (pss_cons (ps_if (PW.pt (pw_or (pt_cmpR op_lt (pe_callB (r := rLenS K) call_len_seq (by rfl) X.z_len (by decide +kernel) (pa_cons (pv 0) pa_nil)) pe_int (nomark _)) (pw_or1 (pt_cmpR op_gt (pe_callB (r := rLenS K) call_len_seq (by rfl) X.z_len (by decide +kernel) (pa_cons (pv 0) pa_nil)) (pe_gint rfl X.c_MOST_POCKETS) (nomark _))))) (pss_one ps_never) pss_nil)
      (pss_cons (ps_set (i := 1) sc_pockets_kept.nd rfl (.inl rfl) (pe_lst pa_nil))
      (pss_cons (ps_for PassesOwn.never rfl (pi_list (pv 0)) (pg_tup rfl (pgs_cons (pg_name (i := 2) sc_pockets_kept.nd rfl (Or.inl rfl)) (pgs_cons (pg_name (i := 3) sc_pockets_kept.nd rfl (Or.inl rfl)) pgs_nil)))
      (pss_cons (ps_if (PW.pt (pw_or (pt_cmpR op_notIn_seq (pv 2) (pe_glob (v := .ref ak) rfl X.c_KINDS_mills rfl) (by rfl)) (pw_or (pt_cmpR op_lt (pv 3) pe_int (nomark _)) (pw_or1 (pt_cmpR op_gt (pv 3) (pe_gint rfl X.c_WIDEST) (nomark _)))))) (pss_one ps_never) pss_nil)
      (pss_one (ps_expr (pe_bm PySem.F.plainAttrs_list PySem.F.slot_list_append PySem.F.type_list_append mt_append (pv 1) (pa_cons (pe_tup (pa_cons (pv 2) (pa_cons (pv 3) pa_nil))) pa_nil))))))
      (pss_one (ps_ret (pe_callTy (r := rTupleOf K) call_tuple_of (by rfl) X.z_tuple (by decide +kernel) (pa_cons (pv 1) pa_nil))))))), ?_⟩
  · obtain ⟨_, rfl, _⟩ := ap1 h
    rfl
  · rintro p F H vs hp eF h Q k
    obtain ⟨a, rfl, ra⟩ := ap1 h
    obtain ⟨⟨l1, l2⟩, l3⟩ := hp
    refine q_guard (eb_or0 ((eb_test (ev_lt (ev_lenL (R := rPocket) (ev_var rfl ra)) ev_int)).is (decide_eq_false (by omega))) ((eb_test (ev_gt (ev_lenL (R := rPocket) (ev_var rfl ra)) ev_int)).is (decide_eq_false (by omega)))) eF fun H1 u1 => ?_
    refine q_newL rPocket u1 fun l H2 hl u2 U2 m2 => ?_
    refine q_for (ei_list (R := rPocket) (ev_var rfl (rPassL.mono u2.f ra))) U2.s (fun i σ F' H' => Up F H F' H' ∧ ∃ x y, ML H F' H' l rPocket (p.take i) ∧ σ = [some a, some (.ref l), x, y])
      (fun F3 H3 u3 => ⟨U2.trans u3, none, none, m2.up u3, rfl⟩) (fun _ _ _ _ p => p.1.s) ?_ ?_
    · rintro i kw σ F3 H3 v hk ⟨U3, x, y, m3, rfl⟩ rv
      obtain ⟨x', y', h1, h2, h3⟩ := gt_tup2 (K := K) (i := 2) (j := 3) (σ := [some a, some (.ref l), x, y]) rv
      refine h3 H3 U3.s _ ?_
      have hb := l3 kw (List.mem_of_getElem? hk)
      refine q_guard (eb_or0 (eb_kind X (ev_var rfl h1)) (eb_or0 ((eb_test (ev_lt (ev_var (R := rInt) rfl h2) ev_int)).is (decide_eq_false (by omega))) ((eb_test (ev_gt (ev_var (R := rInt) rfl h2) ev_int)).is (decide_eq_false (by omega))))) U3.s fun H4 u4 => ?_
      refine s_app (x := kw) (U3.trans u4) (m3.up u4) rfl (ev_tup2 (R := rKind) (S := rInt) (ev_var rfl h1) (ev_var rfl h2)) (by rw [List.length_take]; omega) fun F5 H5 ws u5 U5 m5 => ?_
      refine ⟨F5, u5.f, U5, _, _, ?_, rfl⟩
      rw [List.take_add_one, hk]
      exact m5
    · rintro σ F3 H3 ⟨U3, x, y, m3, rfl⟩
      rw [List.take_length] at m3
      obtain ⟨F4, f4, U4, r4, _⟩ := m3.freeze U3
      exact s_ret (ev_tupleOf (R := rPocket) (ev_var rfl r4)) U4.s fun v F5 H5 u5 r5 => k v F5 H5 (U4.trans u5) r5
def sp_Mill_init (Cm : Addr) : Sp := fun vs H Q _ => ∃ (F H1 : Hp) (x dx : Addr) (v : V) (ps : Passes'), vs = [.ref x, v] ∧ H = upd (upd H1 dx (.own x)) x (.ins Cm dx []) ∧ H1 x = none ∧ H1 dx = none ∧ dx ≠ x ∧ Same F H1 ∧ rPassesL.r F v ps ∧ WfP ps ∧
  ∀ F' H', Up F H1 F' H' → (rMill Cm).r F' (.ref x) ps → Q .non H'
theorem made_up {H1 : Hp} {C x dx : Addr} (e : Same F H1) (nx : H1 x = none) (ndx : H1 dx = none) : Up F H1 F (upd (upd H1 dx (.own x)) x (.ins C dx [])) ∧ Mut H1 F (upd (upd H1 dx (.own x)) x (.ins C dx [])) x (.ins C dx []) := by
  have s1 : Same H1 (upd (upd H1 dx (.own x)) x (.ins C dx [])) := (Same.new ndx).put nx
  exact ⟨Up.real e s1, nx, e.free nx, upd_same⟩
theorem ok_Mill_init (X : Tx K mg Cm Cw ak bk) (d : Di K Cm "Mill.__init__" s_Mill___init__) (h_pockets_kept : HasF P w K mg base "pockets_kept" 1 ["pockets"] sp_pockets_kept) (h_Mill_codes : HasM P w K mg base Cm "codes" 2 ["self"] (sp_codes Cm)) :
    HasI P w K mg base Cm 3 ["self", "passes"] (sp_Mill_init Cm) := by
  refine ok_init d sc_Mill___init__ (fun _ _ _ _ _ _ us hl => match us, hl with | [_, _], _ => rfl) (fun vs H Q E h => ?_) fun f cdv A0 outer s H0 E hr => ⟨_, (pss_cons (ps_if (pt_cmpR op_gt (pe_callB (r := rLenS K) call_len_seq (by rfl) X.z_len (by decide +kernel) (pa_cons (pv 1) pa_nil)) (pe_gint rfl X.c_MOST_PASSES) (nomark _)) (pss_one ps_never) pss_nil)
      (pss_cons (ps_fld (pv 0) (pe_callTy (r := rTupleOf K) call_tuple_of (by rfl) X.z_tuple (by decide +kernel) (pa_cons (pe_lc (own := [("pockets", 2)]) (g := (gName 2)) (tt := tYes) rfl sc_Mill___init__.nd (pi_list (pv 1)) (blkOk_by (N := N_Mill___init__) (sc := defScope s_Mill___init__) (by decide +kernel)) (fun _ _ _ _ _ => (pg_name (i := 2) sc_Mill___init__.nd rfl (Or.inl rfl))) (fun _ _ _ _ _ => pts_nil) (fun _ _ _ _ _ => (pe_hf h_pockets_kept (hr.mono (by decide)) (by rfl) (pa_cons (pv 2) pa_nil)))) pa_nil)) rfl)
      (pss_one (ps_if (pt_cmpR op_gt (pe_hm0 (pv 0) X.k_Mill h_Mill_codes (hr.mono (by decide))) (pe_gint rfl X.c_MOST_CODES) (nomark _)) (pss_one ps_never) pss_nil)))), ?_⟩
  · obtain ⟨_, _, _, _, _, _, rfl, _⟩ := h
    rfl
  · rintro vs H Q ⟨F, H1, x, dx, v, ps, rfl, rfl, nx, ndx, _, eF, rv, wf, k⟩
    obtain ⟨U, m⟩ := made_up (C := Cm) eF nx ndx
    have hmany := wf.many
    refine q_guard ((eb_test (ev_gt (ev_lenL (R := rPassL) (ev_var rfl rv)) ev_int)).is (decide_eq_false (by omega))) U.s fun H2 u2 => ?_
    have U2 := U.trans u2
    have ee := ev_tupleOf (K := K) (R := rPassT) (H := H2) (F := F) (ev_lcN (S := rPassT) (j := 2) (vs := [2]) (σ := [some (.ref x), some v, none]) (xs := ps) (f := fun p => p) (ei_list (K := K) (R := rPassL) (ev_var (i := 1) rfl rv)) (by omega) (fun _ => rfl) fun p v3 F3 hp e3 r3 =>
      ev_call (E := E0) p (ea_cons (ev_var (i := 2) rfl r3) ea_nil) (show WfPass p from ⟨wf.pass p hp, wf.wide p hp⟩))
    rw [List.map_id'] at ee
    refine ee H2 U2.s (Same.refl _) _ fun v3 F3 H3 u3 r3 => ?_
    have m3 := (m.up u2).up u3
    refine ⟨.ref x, rfl, x, Cm, dx, [], rfl, m3.h, X.k_Mill, X.a_passes, by decide, ?_⟩
    have U3 := (U2.trans u3).put (.ins Cm dx [("passes", v3)]) m3
    have m4 := m3.put (.ins Cm dx [("passes", v3)])
    have U4 := U3.freeze m4
    have r4 : (rMill Cm).r (upd F3 x (.ins Cm dx [("passes", v3)])) (.ref x) ps := ⟨x, dx, v3, rfl, upd_same, rPassesT.mono m4.same r3⟩
    have wc := wf.codes
    refine s_guard (F := upd F3 x (.ins Cm dx [("passes", v3)])) ((eb_test (ev_gt (ev_codes wf (ev_var rfl r4)) ev_int)).is (decide_eq_false (by omega))) U4.s fun H5 u5 => ?_
    exact k _ _ (U4.trans u5) r4
theorem ev_Mill {E : XK} {tr : TA} (wf : WfP ps) (h : EvA tr σ F H (apCons rPassesL ps apNil)) : Ev (tMake Cm (sp_Mill_init Cm) [] E tr) σ F H (rMill Cm) ps := fun H1 a b Q q =>
  h H1 a b _ fun vs F2 H2 u2 r2 x dx nx ndx hne => by
    obtain ⟨v, rfl, r3⟩ := ap1 r2
    exact ⟨F2, H2, x, dx, v, ps, rfl, rfl, nx, ndx, hne, u2.s, r3, wf, fun F3 H3 u3 r4 => ⟨rfl, q _ F3 H3 (u2.trans u3) r4⟩⟩
end
end PM
end

section
set_option Elab.async false
set_option linter.all false
set_option maxRecDepth 100000
set_option maxHeartbeats 2000000
/-! trays, first part -/
namespace PM
open PySem PySem.Spec PyProof.Rows L2
abbrev s_look_at_letters : Stmt := top 27
abbrev N_look_at_letters : List Str := ["mill", "letters", "size", "late"]
theorem sc_look_at_letters : FnScope N_look_at_letters ["mill", "letters"] (defScope s_look_at_letters) := ⟨rfl, rfl, rfl, by decide +kernel, rfl, by decide +kernel, by decide +kernel⟩
abbrev s_word_for : Stmt := top 28
abbrev N_word_for : List Str := ["mill", "letter", "word", "good"]
theorem sc_word_for : FnScope N_word_for ["mill", "letter", "word"] (defScope s_word_for) := ⟨rfl, rfl, rfl, by decide +kernel, rfl, by decide +kernel, by decide +kernel⟩
abbrev s_look_at_plan : Stmt := top 29
abbrev N_look_at_plan : List Str := ["mill", "letters", "plan", "k"]
theorem sc_look_at_plan : FnScope N_look_at_plan ["mill", "letters", "plan"] (defScope s_look_at_plan) := ⟨rfl, rfl, rfl, by decide +kernel, rfl, by decide +kernel, by decide +kernel⟩
abbrev s_emptied : Stmt := top 30
abbrev N_emptied : List Str := ["pockets", "kinds", "out", "k"]
theorem sc_emptied : FnScope N_emptied ["pockets", "kinds"] (defScope s_emptied) := ⟨rfl, rfl, rfl, by decide +kernel, rfl, by decide +kernel, by decide +kernel⟩
section
variable {P : Program} {w : World} {K : PySem.W.Frag} {mg : Str → Option Value} {base : Heap} {Cm Cw ak bk : Addr} {σ : L2.St} {F H : Hp} {te ta tb : TE} {ps : Passes'} {ls : Letters}
abbrev iL := Passes' × Letters
def sp_look_at_letters (Cm : Addr) : Sp := SpF (ι := iL) (fun i => WfL i.1 i.2) (fun i => apCons (rMill Cm) i.1 (apCons rLet i.2 apNil)) (fun _ => rNon) (fun _ => ())
theorem ok_look_at_letters (X : Tx K mg Cm Cw ak bk) (d : Df K mg "look_at_letters" s_look_at_letters) (h_Mill_many : HasM P w K mg base Cm "many" 1 ["self"] (sp_many Cm)) :
    HasF P w K mg base "look_at_letters" 2 ["mill", "letters"] (sp_look_at_letters Cm) := by
  refine ok_def d sc_look_at_letters (fun _ _ _ _ _ _ us hl => match us, hl with | [_, _], _ => rfl) (fun i F vs h => ?_) fun f cdv A0 outer s H0 E hr => ⟨_, (pss_cons (ps_if (pt_cmpR op_gt (pe_callB (r := rLenS K) call_len_seq (by rfl) X.z_len (by decide +kernel) (pa_cons (pv 1) pa_nil)) (pe_gint rfl X.c_MOST_LETTERS) (nomark _)) (pss_one ps_never) pss_nil)
      (pss_one (ps_for PassesOwn.never rfl (pi_list (pv 1)) (pg_tup rfl (pgs_cons (pg_name (i := 2) sc_look_at_letters.nd rfl (Or.inl rfl)) (pgs_cons (pg_name (i := 3) sc_look_at_letters.nd rfl (Or.inl rfl)) pgs_nil)))
      (pss_one (ps_if (PW.pt (pw_or (pt_cmpR op_lt (pv 2) pe_int (nomark _)) (pw_or (pt_cmpR op_gt (pv 2) pe_int (nomark _)) (pw_or (pt_cmpR op_lt (pv 3) pe_int (nomark _)) (pw_or1 (pt_cmpR op_gt (pv 3) (pe_hm0 (pv 0) X.k_Mill h_Mill_many (hr.mono (by decide))) (nomark _))))))) (pss_one ps_never) pss_nil))))), ?_⟩
  · obtain ⟨_, _, rfl, _⟩ := ap2 h
    rfl
  · rintro ⟨ps, ls⟩ F H vs wl eF h Q k
    dsimp only at wl h k
    obtain ⟨a, b, rfl, ra, rb⟩ := ap2 h
    have hm := wl.many
    refine q_guard ((eb_test (ev_gt (ev_lenL (R := rLetter) (ev_var rfl rb)) ev_int)).is (decide_eq_false (by omega))) eF fun H1 u1 => ?_
    refine s_for (ei_list (R := rLetter) (ev_var rfl rb)) u1.s (fun i σ F' H' => Up F H F' H' ∧ ∃ x y, σ = [some a, some b, x, y]) (fun F2 H2 u2 => ⟨u1.trans u2, none, none, rfl⟩) (fun _ _ _ _ p => p.1.s) ?_ ?_
    · rintro i l σ F2 H2 v hl ⟨U2, x, y, rfl⟩ rv
      obtain ⟨x', y', h1, h2, h3⟩ := gt_tup2 (K := K) (i := 2) (j := 3) (σ := [some a, some b, x, y]) rv
      refine h3 H2 U2.s _ ?_
      have h4 := wl.size l (List.mem_of_getElem? hl)
      have h5 := wl.late l (List.mem_of_getElem? hl)
      refine s_guard (eb_or0 ((eb_test (ev_lt (ev_var (R := rInt) rfl h1) ev_int)).is (decide_eq_false (by omega))) (eb_or0 ((eb_test (ev_gt (ev_var (R := rInt) rfl h1) ev_int)).is (decide_eq_false (by omega)))
        (eb_or0 ((eb_test (ev_lt (Ev.ofNat (ev_var (R := rNat) rfl h2)) ev_int)).is (decide_eq_false (by omega))) ((eb_test (ev_gt (Ev.ofNat (ev_var (R := rNat) rfl h2)) (ev_many (ev_var rfl ((rMill Cm).mono U2.f ra))))).is (decide_eq_false (by omega)))))) U2.s fun H3 u3 => ?_
      exact ⟨F2, Same.refl _, U2.trans u3, _, _, rfl⟩
    · rintro σ F2 H2 ⟨U2, x, y, rfl⟩
      exact k _ _ _ U2 rfl
def sp_word_for (Cm : Addr) : Sp := SpF (ι := Passes' × (Int × Nat) × List Nat) (fun i => WfP i.1 ∧ ValidW i.1 i.2.1.2 i.2.2 ∧ 1 ≤ i.2.1.1 ∧ i.2.1.1 ≤ 9) (fun i => apCons (rMill Cm) i.1 (apCons rLetter i.2.1 (apCons rWord i.2.2 apNil))) (fun _ => rBl) (fun i => fitsOf i.1 i.2.1.2 i.2.2 i.2.1.1)
theorem ok_word_for (X : Tx K mg Cm Cw ak bk) (d : Df K mg "word_for" s_word_for) (h_fits : HasF P w K mg base "fits" 4 ["mill", "late", "word", "size"] (sp_fits Cm)) :
    HasF P w K mg base "word_for" 5 ["mill", "letter", "word"] (sp_word_for Cm) := by
  refine ok_def d sc_word_for (fun _ _ _ _ _ _ us hl => match us, hl with | [_, _, _], _ => rfl) (fun i F vs h => ?_) fun f cdv A0 outer s H0 E hr => ⟨_, (pss_cons (ps_set (i := 3) sc_word_for.nd rfl (.inl rfl) pe_bl)
      (pss_cons (ps_try_thru0 (pss_one (ps_set (i := 3) sc_word_for.nd rfl (.inl rfl) (pe_hf h_fits (hr.mono (by decide)) (by rfl) (pa_cons (pv 0) (pa_cons (pe_ix (r := rIxT K) ix_tup (pv 1) pe_int (fun _ _ => rfl)) (pa_cons (pv 2) (pa_cons (pe_ix (r := rIxT K) ix_tup (pv 1) pe_int (fun _ _ => rfl)) pa_nil))))))))
      (pss_one (ps_ret (pv 3))))), ?_⟩
  · obtain ⟨_, _, _, rfl, _⟩ := ap3 h
    rfl
  · rintro ⟨ps, ⟨size, late⟩, wd⟩ F H vs hp eF h Q k
    dsimp only at hp h k
    obtain ⟨a, b, c, rfl, ra, rb, rc⟩ := ap3 h
    refine q_set ev_bl eF fun v F1 H1 u1 r1 => ?_
    replace ra := (rMill Cm).mono u1.f ra
    replace rb := rLetter.mono u1.f rb
    replace rc := rWord.mono u1.f rc
    refine q_set (ev_call (ps, late, wd, size) (ea_cons (ev_var rfl ra) (ea_cons (ev_snd (R := rInt) (S := rNat) (ev_var rfl rb)) (ea_cons (ev_var rfl rc) (ea_cons (ev_fst (R := rInt) (S := rNat) (ev_var rfl rb)) ea_nil)))) hp) u1.s fun v2 F2 H2 u2 r2 => ?_
    exact s_ret (ev_var (R := rBl) rfl r2) u2.s fun v3 F3 H3 u3 r3 => k v3 F3 H3 ((u1.trans u2).trans u3) r3
abbrev iP := Passes' × Letters × List (List Nat)
abbrev aP (Cm : Addr) (i : iP) : Ap := apCons (rMill Cm) i.1 (apCons rLet i.2.1 (apCons rPlan i.2.2 apNil))
structure PreP (i : iP) : Prop where
  wf : WfP i.1
  wl : WfL i.1 i.2.1
  g : GoodP i.1 i.2.1 i.2.2
def sp_look_at_plan (Cm : Addr) : Sp := SpF (ι := iP) PreP (aP Cm) (fun _ => rNon) (fun _ => ())
theorem letter_at {k : Nat} (hk : k < ls.length) : ls[((k : Int)).toNat]? = some (sizeOf' ls k, lateOf ls k) := by
  unfold sizeOf' lateOf
  rw [Int.toNat_natCast, List.getD_eq_getElem?_getD, List.getElem?_eq_getElem hk]; rfl
theorem word_at {plan : List (List Nat)} {k : Nat} (hk : k < plan.length) : plan[((k : Int)).toNat]? = some (wordOf plan k) := by
  unfold wordOf
  rw [Int.toNat_natCast, List.getD_eq_getElem?_getD, List.getElem?_eq_getElem hk]; rfl
theorem size_ok (wl : WfL ps ls) {k : Nat} (hk : k < ls.length) : 1 ≤ sizeOf' ls k ∧ sizeOf' ls k ≤ 9 := by
  unfold sizeOf'
  rw [List.getD_eq_getElem?_getD, List.getElem?_eq_getElem hk]
  exact wl.size _ (List.getElem_mem hk)
theorem ok_look_at_plan (X : Tx K mg Cm Cw ak bk) (d : Df K mg "look_at_plan" s_look_at_plan) (h_look_at_letters : HasF P w K mg base "look_at_letters" 2 ["mill", "letters"] (sp_look_at_letters Cm)) (h_word_for : HasF P w K mg base "word_for" 5 ["mill", "letter", "word"] (sp_word_for Cm)) :
    HasF P w K mg base "look_at_plan" 6 ["mill", "letters", "plan"] (sp_look_at_plan Cm) := by
  refine ok_def d sc_look_at_plan (fun _ _ _ _ _ _ us hl => match us, hl with | [_, _, _], _ => rfl) (fun i F vs h => ?_) fun f cdv A0 outer s H0 E hr => ⟨_, (pss_cons (ps_expr (pe_hf h_look_at_letters (hr.mono (by decide)) (by rfl) (pa_cons (pv 0) (pa_cons (pv 1) pa_nil))))
      (pss_cons (ps_if (pt_cmpR op_ne (pe_callB (r := rLenS K) call_len_seq (by rfl) X.z_len (by decide +kernel) (pa_cons (pv 2) pa_nil)) (pe_callB (r := rLenS K) call_len_seq (by rfl) X.z_len (by decide +kernel) (pa_cons (pv 1) pa_nil)) (nomark _)) (pss_one ps_never) pss_nil)
      (pss_one (ps_for PassesOwn.never rfl (pi_range1 (by rfl) X.z_range (pa_cons (pe_callB (r := rLenS K) call_len_seq (by rfl) X.z_len (by decide +kernel) (pa_cons (pv 1) pa_nil)) pa_nil)) (pg_name (i := 3) sc_look_at_plan.nd rfl (Or.inl rfl))
      (pss_one (ps_if (pt_not (pt_val (pe_hf h_word_for (hr.mono (by decide)) (by rfl) (pa_cons (pv 0) (pa_cons (pe_ix (r := rIxL K) ix_list (pv 1) (pv 3) (fun _ _ => rfl)) (pa_cons (pe_ix (r := rIxL K) ix_list (pv 2) (pv 3) (fun _ _ => rfl)) pa_nil)))))) (pss_one ps_never) pss_nil)))))), ?_⟩
  · obtain ⟨_, _, _, rfl, _⟩ := ap3 h
    rfl
  · rintro ⟨ps, ls, plan⟩ F H vs hp eF h Q k
    obtain ⟨wf, wl, g⟩ := hp
    dsimp only [aP] at wf wl g h k
    obtain ⟨a, b, c, rfl, ra, rb, rc⟩ := ap3 h
    have hlen := g.len
    have hm := wl.many
    refine q_drop (ev_call (ps, ls) (ea_cons (ev_var rfl ra) (ea_cons (ev_var rfl rb) ea_nil)) wl) eF fun _ F1 H1 u1 _ => ?_
    replace ra := (rMill Cm).mono u1.f ra
    replace rb := rLet.mono u1.f rb
    replace rc := rPlan.mono u1.f rc
    refine q_guard ((eb_test (ev_neI (ev_lenL (R := rWord) (ev_var rfl rc)) (ev_lenL (R := rLetter) (ev_var rfl rb)))).is (by simp; omega)) u1.s fun H2 u2 => ?_
    have U := u1.trans u2
    refine s_for (ei_rng1 (n := ls.length) (ea_cons (ev_lenL (R := rLetter) (ev_var rfl rb)) ea_nil) (by omega)) U.s (fun i σ F' H' => Up F H F' H' ∧ Same F1 F' ∧ ∃ x, σ = [some a, some b, some c, x]) (fun F3 H3 u3 => ⟨U.trans u3, u3.f, none, rfl⟩) (fun _ _ _ _ p => p.1.s) ?_ ?_
    · rintro i n σ F3 H3 v hn ⟨U3, f3, x, rfl⟩ rv
      obtain ⟨rfl, hlt⟩ := range_get hn
      have w1 : ValidW ps (lateOf ls n) (wordOf plan n) := g.word n hlt
      refine s_guard ((eb_not (eb_B (ev_call (ps, (sizeOf' ls n, lateOf ls n), wordOf plan n) (ea_cons (ev_var rfl ((rMill Cm).mono f3 ra)) (ea_cons (ev_ixL (R := rLetter) (ev_var rfl (rLet.mono f3 rb)) (Ev.ofNat (ev_var (R := rNat) rfl rv)) (by omega) (letter_at hlt))
        (ea_cons (ev_ixL (R := rWord) (ev_var rfl (rPlan.mono f3 rc)) (Ev.ofNat (ev_var (R := rNat) rfl rv)) (by omega) (word_at (by omega))) ea_nil))) ⟨wf, w1, size_ok wl hlt⟩))).is (by have := g.fits n hlt; simpa using this)) U3.s fun H4 u4 => ?_
      exact ⟨F3, Same.refl _, U3.trans u4, f3, _, rfl⟩
    · rintro σ F2 H2 ⟨U2, _, x, rfl⟩
      exact k _ _ _ U2 rfl
/-! emptied -/
def rRows : Rep (List (List Nat)) := rLst rRow
def sp_emptied : Sp := SpF (ι := List (List Nat) × Pass) (fun i => i.1.length = i.2.length ∧ i.1.length ≤ 6 ∧ i.1.flatten.length ≤ 1000) (fun i => apCons rRows i.1 (apCons rPassT i.2 apNil)) (fun _ => rRow) (fun i => emptiedOf i.1 i.2)
theorem emptied_len (pk : List (List Nat)) (kinds : Pass) (n : Nat) : (((List.range n).map (emptyOne pk kinds)).flatten).length = (((List.range n).map fun j => pk.getD j []).flatten).length := by
  rw [List.length_flatten, List.length_flatten, List.map_map, List.map_map]
  congr 1
  refine List.map_congr_left fun j _ => ?_
  show (emptyOne pk kinds j).length = (pk.getD j []).length
  unfold emptyOne
  split
  · rw [List.length_reverse]
  · rfl
theorem getD_take (l : List (List Nat)) : ∀ n, n ≤ l.length → (List.range n).map (fun j => l.getD j []) = l.take n
  | 0, _ => rfl
  | n + 1, h => by
    rw [List.range_succ, List.map_append, getD_take l n (by omega), List.take_add_one, List.getElem?_eq_getElem (by omega : n < l.length)]
    show _ ++ [l.getD n []] = _
    rw [List.getD_eq_getElem?_getD, List.getElem?_eq_getElem (by omega : n < l.length)]
    rfl
theorem emptied_le {pk : List (List Nat)} {kinds : Pass} {n : Nat} (hn : n ≤ pk.length) : (((List.range n).map (emptyOne pk kinds)).flatten).length ≤ pk.flatten.length := by
  rw [emptied_len, getD_take pk n hn, List.length_flatten, List.length_flatten, ← List.take_append_drop n (pk.map List.length), List.map_take, List.sum_append]
  omega
theorem emptied_step (pk : List (List Nat)) (kinds : Pass) (n : Nat) : ((List.range (n + 1)).map (emptyOne pk kinds)).flatten = ((List.range n).map (emptyOne pk kinds)).flatten ++ emptyOne pk kinds n := by
  rw [List.range_succ, List.map_append, List.flatten_append]
  show _ ++ ([emptyOne pk kinds n] : List (List Nat)).flatten = _
  rw [List.flatten_cons, List.flatten_nil, List.append_nil]
theorem row_at {l : List (List Nat)} {k : Nat} (hk : k < l.length) : l[((k : Int)).toNat]? = some (l.getD k []) := by
  rw [Int.toNat_natCast, List.getD_eq_getElem?_getD, List.getElem?_eq_getElem hk]; rfl
theorem ok_emptied (X : Tx K mg Cm Cw ak bk) (d : Df K mg "emptied" s_emptied) : HasF P w K mg base "emptied" 1 ["pockets", "kinds"] sp_emptied := by
  refine ok_def d sc_emptied (fun _ _ _ _ _ _ us hl => match us, hl with | [_, _], _ => rfl) (fun i F vs h => ?_) fun f cdv A0 outer s H0 E hr => ⟨_, (pss_cons (ps_set (i := 2) sc_emptied.nd rfl (.inl rfl) (pe_lst pa_nil))
      (pss_cons (ps_for PassesOwn.never rfl (pi_range1 (by rfl) X.z_range (pa_cons (pe_callB (r := rLenS K) call_len_seq (by rfl) X.z_len (by decide +kernel) (pa_cons (pv 0) pa_nil)) pa_nil)) (pg_name (i := 3) sc_emptied.nd rfl (Or.inl rfl))
      (pss_one (ps_if (pt_cmpR op_eq (pe_ix (r := rIxT K) ix_tup (pe_ix (r := rIxT K) ix_tup (pv 1) (pv 3) (fun _ _ => rfl)) pe_int (fun _ _ => rfl)) pe_str (nomark _)) (pss_one (ps_expr (pe_bm PySem.F.plainAttrs_list PySem.F.slot_list_extend PySem.F.type_list_extend mt_extend (pv 2) (pa_cons (pe_listRev rfl (by rfl) X.z_list (by rfl) X.z_reversed (pe_ix (r := rIxL K) ix_list (pv 0) (pv 3) (fun _ _ => rfl))) pa_nil)))) (pss_one (ps_expr (pe_bm PySem.F.plainAttrs_list PySem.F.slot_list_extend PySem.F.type_list_extend mt_extend (pv 2) (pa_cons (pe_ix (r := rIxL K) ix_list (pv 0) (pv 3) (fun _ _ => rfl)) pa_nil)))))))
      (pss_one (ps_ret (pv 2))))), ?_⟩
  · obtain ⟨_, _, rfl, _⟩ := ap2 h
    rfl
  · rintro ⟨pk, kinds⟩ F H vs hp eF h Q k
    dsimp only at hp h k
    obtain ⟨a, b, rfl, ra, rb⟩ := ap2 h
    obtain ⟨l1, l2, l3⟩ := hp
    refine q_newL rNat (Up.refl eF) fun l H1 hl u1 U1 m1 => ?_
    refine q_for (ei_rng1 (n := pk.length) (ea_cons (ev_lenL (R := rRow) (ev_var rfl ra)) ea_nil) (by omega)) U1.s (fun i σ F' H' => Up F H F' H' ∧ ∃ x, ML H F' H' l rNat ((List.range i).map (emptyOne pk kinds)).flatten ∧ σ = [some a, some b, some (.ref l), x])
      (fun F2 H2 u2 => ⟨U1.trans u2, none, m1.up u2, rfl⟩) (fun _ _ _ _ p => p.1.s) ?_ ?_
    · rintro i n σ F2 H2 v hn ⟨U2, x, m2, rfl⟩ rv
      obtain ⟨rfl, hlt⟩ := range_get hn
      have ra' := rRows.mono U2.f ra
      have rb' := rPassT.mono U2.f rb
      have hle := emptied_le (pk := pk) (kinds := kinds) (n := n + 1) (by omega)
      rw [emptied_step, List.length_append] at hle
      refine s_if (eb_pile1 (ev_var rfl rb') (ev_var (R := rNat) rfl rv) (by omega)) U2.s (fun hb H3 u3 => ?_) (fun hb H3 u3 => ?_)
      · have ee : emptyOne pk kinds n = (pk.getD n []).reverse := by unfold emptyOne; rw [if_pos hb]
        refine s_ext (ys := (pk.getD n []).reverse) (U2.trans u3) (m2.up u3) rfl (ev_listRev (R := rNat) (ev_ixL (R := rRow) (ev_var rfl ra') (Ev.ofNat (ev_var (R := rNat) rfl rv)) (by omega) (row_at hlt))) (by rw [ee] at hle; omega) fun F4 H4 ws u4 U4 m4 => ?_
        refine ⟨F4, u4.f, U4, _, ?_, rfl⟩
        rw [emptied_step, ee]
        exact m4
      · have ee : emptyOne pk kinds n = pk.getD n [] := by unfold emptyOne; rw [if_neg (by rw [hb]; decide)]
        refine s_ext (ys := pk.getD n []) (U2.trans u3) (m2.up u3) rfl (ev_ixL (R := rRow) (ev_var rfl ra') (Ev.ofNat (ev_var (R := rNat) rfl rv)) (by omega) (row_at hlt)) (by rw [ee] at hle; omega) fun F4 H4 ws u4 U4 m4 => ?_
        refine ⟨F4, u4.f, U4, _, ?_, rfl⟩
        rw [emptied_step, ee]
        exact m4
    · rintro σ F2 H2 ⟨U2, x, m2, rfl⟩
      rw [List.length_range] at m2
      obtain ⟨F3, f3, U3, r3, _⟩ := m2.freeze U2
      exact s_ret (ev_var (R := rRow) rfl r3) U3.s fun v F4 H4 u4 r4 => k v F4 H4 (U3.trans u4) r4
end
end PM
end

section
set_option Elab.async false
set_option linter.all false
set_option maxRecDepth 100000
set_option maxHeartbeats 4000000
/-! trays, the end row -/
namespace PM
open PySem PySem.Spec PyProof.Rows L2
abbrev s_trays : Stmt := top 31
abbrev N_trays : List Str := ["mill", "letters", "plan", "out", "line", "at", "pockets", "k", "pocket"]
theorem sc_trays : FnScope N_trays ["mill", "letters", "plan"] (defScope s_trays) := ⟨rfl, rfl, rfl, by decide +kernel, rfl, by decide +kernel, by decide +kernel⟩
abbrev s_end_row : Stmt := top 32
abbrev N_end_row : List Str := ["mill", "letters", "plan"]
theorem sc_end_row : FnScope N_end_row ["mill", "letters", "plan"] (defScope s_end_row) := ⟨rfl, rfl, rfl, by decide +kernel, rfl, by decide +kernel, by decide +kernel⟩
/-! ### lists in a list, all one's own -/
def natsV (l : List Nat) : List V := (l.map fun (n : Nat) => (n : Int)).map V.int
theorem natsV_snoc (l : List Nat) (k : Nat) : natsV (l ++ [k]) = natsV l ++ [.int (k : Int)] := by
  unfold natsV
  rw [List.map_append, List.map_append]
  rfl
structure Pk (H0 F H : Hp) (p : Addr) (as : List Addr) (rows : List (List Nat)) : Prop where
  len : as.length = rows.length
  nd : as.Nodup
  p0 : p ∉ as
  out : Mut H0 F H p (.lst (as.map V.ref))
  row : ∀ (j : Nat) (a : Addr) (r : List Nat), as[j]? = some a → rows[j]? = some r → Mut H0 F H a (.lst (natsV r))
section
variable {F H F0 H0 F' H' : Hp} {p : Addr} {as : List Addr} {rows : List (List Nat)}
theorem Pk.up (m : Pk H0 F H p as rows) (u : Up F H F' H') : Pk H0 F' H' p as rows := ⟨m.len, m.nd, m.p0, m.out.up u, fun j a r h1 h2 => (m.row j a r h1 h2).up u⟩
theorem Pk.mem (m : Pk H0 F H p as rows) {a : Addr} (h : a ∈ as) : H0 a = none ∧ F a = none ∧ H a ≠ none := by
  obtain ⟨j, hj⟩ := List.getElem?_of_mem h
  have hl := (List.getElem?_eq_some_iff.mp hj).1
  rw [m.len] at hl
  have q := m.row j a _ hj (List.getElem?_eq_getElem hl)
  exact ⟨q.h0, q.f, by rw [q.h]; simp⟩
theorem Pk.app {j k : Nat} {a : Addr} {r : List Nat} (m : Pk H0 F H p as rows) (ha : as[j]? = some a) (hr : rows[j]? = some r) : Pk H0 F (upd H a (.lst (natsV r ++ [.int (k : Int)]))) p as (rows.set j (r ++ [k])) := by
  have hpa : p ≠ a := fun e => m.p0 (by rw [e]; exact List.mem_of_getElem? ha)
  refine ⟨by rw [List.length_set]; exact m.len, m.nd, m.p0, m.out.side hpa, fun i b q hb hq => ?_⟩
  by_cases e : i = j
  · subst e
    rw [ha] at hb
    cases hb
    rw [List.getElem?_set_self (List.getElem?_eq_some_iff.mp hr).1] at hq
    cases hq
    rw [natsV_snoc]
    exact (m.row i a r ha hr).put _
  · rw [List.getElem?_set_ne (Ne.symm e)] at hq
    refine (m.row i b q hb hq).side fun z => e ?_
    subst z
    exact nd_ix m.nd hb ha
theorem Pk.freeze (u : Up F0 H0 F H) (m : Pk H0 F H p as rows) : ∃ F', Same F F' ∧ Up F0 H0 F' H ∧ rRows.r F' (.ref p) rows ∧ ∀ q, q ≠ p → q ∉ as → F q = none → F' q = none := by
  have hin : ∀ a, (a = p ∨ a ∈ as) → H0 a = none ∧ F a = none := fun a h => by
    rcases h with e | e
    · subst e; exact ⟨m.out.h0, m.out.f⟩
    · have := m.mem e; exact ⟨this.1, this.2.1⟩
  have s1 : Same F (fun a => if a = p ∨ a ∈ as then H a else F a) := fun a o e => by
    show (if a = p ∨ a ∈ as then H a else F a) = some o
    rw [if_neg (fun h => by rw [(hin a h).2] at e; cases e)]
    exact e
  refine ⟨fun a => if a = p ∨ a ∈ as then H a else F a, s1, ⟨u.f.trans s1, u.h, fun a o e => ?_, fun a q k => ?_⟩, ⟨p, as.map V.ref, rfl, ?_, ?_⟩, fun q h1 h2 h3 => ?_⟩
  · split at e
    · exact e
    · exact u.s a o e
  · show (if a = p ∨ a ∈ as then H a else F a) = none
    rw [if_neg (fun h => k (hin a h).1)]
    exact u.n a q k
  · show (if p = p ∨ p ∈ as then H p else F p) = _
    rw [if_pos (.inl rfl)]
    exact m.out.h
  · have hall : ∀ (bs : List Addr) (rs : List (List Nat)), bs.length = rs.length → (∀ (j : Nat) (a : Addr) (r : List Nat), bs[j]? = some a → rs[j]? = some r → a ∈ as ∧ H a = some (.lst (natsV r))) → All2 (rRow.r fun a => if a = p ∨ a ∈ as then H a else F a) (bs.map V.ref) rs := by
      intro bs
      induction bs with
      | nil => intro rs hl _; cases rs with | nil => exact .nil | cons x y => simp at hl
      | cons b bs ih =>
        intro rs hl hm
        cases rs with
        | nil => simp at hl
        | cons r rs =>
          obtain ⟨q1, q2⟩ := hm 0 b r rfl rfl
          refine .cons ⟨b, natsV r, rfl, ?_, all2_of_nat r⟩ (ih rs (by simpa using hl) fun j a r' h1 h2 => hm (j + 1) a r' (by simpa using h1) (by simpa using h2))
          show (if b = p ∨ b ∈ as then H b else F b) = _
          rw [if_pos (.inr q1)]
          exact q2
    exact hall as rows m.len fun j a r h1 h2 => ⟨List.mem_of_getElem? h1, (m.row j a r h1 h2).h⟩
  · show (if q = p ∨ q ∈ as then H q else F q) = none
    rw [if_neg (fun h => h.elim h1 h2)]
    exact h3
end
section
variable {α : Type} {K : PySem.W.Frag} {σ : L2.St} {F H F0 H0 : Hp} {R : Rep α}
/-- [[] for x in ..]: new lists in a new list -/
theorem ev_lcNew {wi : TI} {vs : List Nat} {xs : List α} {j : Nat} (U : Up F0 H0 F H) (hI : EvI wi σ F H R xs True) (hz : xs.length < 100000) (hw : ∀ v, wipe ((wipe σ vs).set j (some v)) vs = wipe σ vs) (Q : VK)
    (q : ∀ p as F' H', Up F H F' H' → Pk H0 F' H' p as (List.replicate xs.length []) → (∀ a, a = p ∨ a ∈ as → H a = none) → Q (.ref p) H') : tLc wi (gName j) tYes (tLst tNil) vs σ H Q := by
  refine hI H U.s (Same.refl _) _ fun J F1 H1 u w => ?_
  intro Dl hD
  have U1 := U.trans u
  have hD0 : H Dl = none := u.h.free hD
  refine ⟨fun i m H' => m = xs.length - i ∧ i ≤ xs.length ∧ Same H1 H' ∧ ∃ as, Pk H0 F1 H' Dl as (List.replicate i []) ∧ ∀ a ∈ as, H1 a = none, ⟨xs.length, rfl, Nat.zero_le _, Same.new hD, [], ⟨rfl, List.nodup_nil, by simp, ⟨U1.h.free hD, U1.s.free hD, upd_same⟩, fun j a r h => by simp at h⟩, fun a h => by cases h⟩, ?_⟩
  rintro i m H' ⟨rfl, hi, e1, as, mk, hn⟩
  have hD1 := hD
  by_cases hlt : i < xs.length
  · refine .inr ⟨w.goes i H' hlt (u.s.trans e1), _, fun H2 q => q, fun v H2 y => ?_⟩
    obtain ⟨F2, u2, r2, e2⟩ := w.yields i _ F1 H' v H2 (List.getElem?_eq_getElem hlt) (Same.refl _) (u.s.trans e1) y
    obtain ⟨rfl, rfl⟩ := e2 trivial
    refine ⟨hw v, ?_⟩
    refine ⟨Nat.zero_le _, fun l hl => ?_⟩
    have lne : Dl ≠ l := fun z => by
      have := mk.out.h
      rw [z, hl] at this
      cases this
    have hl1 : H1 l = none := e1.free hl
    have lna : l ∉ as := fun z => (mk.mem z).2.2 hl
    refine ⟨as.map V.ref, by rw [upd_ne lne]; exact mk.out.h, ?_, xs.length - (i + 1), by omega, rfl, hlt, ?_, as ++ [l], ?_, ?_⟩
    · rw [List.length_map, mk.len, List.length_replicate]
      exact line100 (by omega)
    · exact (e1.trans (Same.new hl)).put hD
    · have ml : Mut H0 F2 (upd H2 l (.lst [])) l (.lst (natsV [])) := ⟨U1.h.free hl1, U1.s.free hl1, upd_same⟩
      have mo := (mk.out.side (o' := .lst []) lne).put (.lst (as.map V.ref ++ [.ref l]))
      refine ⟨by rw [List.length_append, mk.len, List.length_replicate, List.length_replicate]; rfl, ?_, ?_, by rw [List.map_append]; exact mo, fun k a r h1 h2 => ?_⟩
      · rw [List.nodup_append]
        exact ⟨mk.nd, by simp, fun x hx y hy z => lna (by rw [List.mem_singleton.mp hy] at z; rw [← z]; exact hx)⟩
      · rw [List.mem_append, not_or]
        exact ⟨mk.p0, by simpa using lne⟩
      · have hr : r = [] := by
          have := List.mem_of_getElem? h2
          exact (List.mem_replicate.mp this).2
        subst hr
        by_cases hk : k < as.length
        · rw [List.getElem?_append_left hk] at h1
          have ha : a ∈ as := List.mem_of_getElem? h1
          have q1 := mk.row k a [] h1 (by rw [mk.len, List.length_replicate] at hk; rw [List.getElem?_replicate, if_pos hk])
          exact (q1.side (fun z => lna (by rw [← z]; exact ha))).side fun z => mk.p0 (by rw [← z]; exact ha)
        · rw [List.getElem?_append_right (by omega)] at h1
          have ek : k - as.length = 0 := by
            cases z : k - as.length with
            | zero => rfl
            | succ n => rw [z] at h1; simp at h1
          rw [ek] at h1
          have ea : l = a := by simpa using h1
          subst ea
          exact ml.side (Ne.symm lne)
    · intro a ha
      rcases List.mem_append.mp ha with h | h
      · exact hn a h
      · rw [List.mem_singleton.mp h]; exact hl1
  · have ei : i = xs.length := by omega
    subst ei
    refine .inl ⟨w.stops H' (u.s.trans e1), ?_⟩
    have hx : Same H H' := u.h.trans e1
    exact q Dl as F1 H' ⟨u.f, hx, u.s.trans e1, u.n⟩ mk fun a h => by
      rcases h with e | e
      · rw [e]; exact hD0
      · exact u.h.free (hn a e)
theorem q_lcNew {wi : TI} {vs : List Nat} {xs : List α} {i j : Nat} {tz : TS} {D : Ends} (U : Up F0 H0 F H) (hI : EvI wi σ F H R xs True) (hz : xs.length < 100000) (hw : ∀ v, wipe ((wipe σ vs).set j (some v)) vs = wipe σ vs)
    (q : ∀ p as F' H', Up F H F' H' → Pk H0 F' H' p as (List.replicate xs.length []) → (∀ a, a = p ∨ a ∈ as → H a = none) → tz D (σ.set i (some (.ref p))) H') : tSeq (tAsg (tLc wi (gName j) tYes (tLst tNil) vs) (gName i)) tz D σ H :=
  ev_lcNew U hI hz hw (fun x H1 => tz D (σ.set i (some x)) H1) q
end

/-! ### plain lists -/
theorem len_of_nodup : ∀ {l m : List Nat}, l.Nodup → (∀ x ∈ l, x ∈ m) → l.length ≤ m.length
  | [], _, _, _ => Nat.zero_le _
  | a :: l, m, h, hs => by
    obtain ⟨h1, h2⟩ := List.nodup_cons.mp h
    have ha := hs a (by simp)
    have ih := len_of_nodup (l := l) (m := m.erase a) h2 fun x hx => by
      have hne : x ≠ a := fun e => h1 (by rw [← e]; exact hx)
      exact (List.mem_erase_of_ne hne).mpr (hs x (by simp [hx]))
    rw [List.length_erase_of_mem ha] at ih
    have : 0 < m.length := List.length_pos_of_mem ha
    rw [List.length_cons]
    omega
section
variable {ps : Passes'} {ls : Letters} {plan : List (List Nat)}
theorem line_len (wf : WfP ps) (g : GoodP ps ls plan) {t : Nat} (ht : t ≤ ps.length) : (lineAt ps ls plan t).length ≤ ls.length := by
  obtain ⟨h1, h2⟩ := line_inv wf g t ht
  have nd : (lineAt ps ls plan t).Nodup := h1.imp fun h e => by rw [e] at h; exact ltP_irr h
  have := len_of_nodup nd (m := List.range ls.length) fun x hx => List.mem_range.mpr ((h2 x).mp hx).1
  rw [List.length_range] at this
  exact this
/-- the row ahead of the joining -/
def preLine (ps : Passes') (ls : Letters) (plan : List (List Nat)) : Nat → List Nat
  | 0 => []
  | t + 1 => if t < ps.length then emptiedOf (pocketsAt ls plan (lineAt ps ls plan t) t (passOf ps t).length) (passOf ps t) else lineAt ps ls plan t
theorem preLine_lt {t : Nat} (h : t < ps.length) : preLine ps ls plan (t + 1) = emptiedOf (pocketsAt ls plan (lineAt ps ls plan t) t (passOf ps t).length) (passOf ps t) := if_pos h
theorem preLine_ge {t : Nat} (h : ¬ t < ps.length) : preLine ps ls plan (t + 1) = lineAt ps ls plan t := if_neg h
theorem line_pre {t : Nat} (ht : t ≤ ps.length) : lineAt ps ls plan t = joinAt ls (preLine ps ls plan t) t := by
  cases t with
  | zero => rfl
  | succ t => rw [preLine_lt (by omega)]; rfl
theorem pre_len (wf : WfP ps) (g : GoodP ps ls plan) {t : Nat} (ht : t ≤ ps.length) : (preLine ps ls plan t).length ≤ ls.length := by
  have := line_len wf g ht
  rw [line_pre ht] at this
  unfold joinAt at this
  rw [List.length_append] at this
  omega
theorem pockets_step {line : List Nat} {t n i k : Nat} (hk : line[i]? = some k) : pocketsAt ls plan (line.take (i + 1)) t n = (pocketsAt ls plan (line.take i) t n).set (pocketOf ls plan t k) ((line.take i).filter (fun k' => decide (pocketOf ls plan t k' = pocketOf ls plan t k)) ++ [k]) := by
  unfold pocketsAt
  apply List.ext_getElem?
  intro j
  rw [List.take_add_one, hk]
  by_cases e : pocketOf ls plan t k = j
  · subst e
    by_cases hj : pocketOf ls plan t k < n
    · rw [List.getElem?_set_self (by simpa using hj), List.getElem?_map, List.getElem?_range hj]
      show some (((line.take i) ++ (some k).toList).filter fun k' => decide (pocketOf ls plan t k' = pocketOf ls plan t k)) = some _
      rw [List.filter_append]
      congr 2
      rw [show (some k).toList = [k] from rfl, List.filter_cons_of_pos (by simp)]
      rfl
    · rw [List.getElem?_eq_none (by simpa using hj), List.getElem?_eq_none (by simpa using hj)]
  · rw [List.getElem?_set_ne e, List.getElem?_map, List.getElem?_map]
    cases q : (List.range n)[j]? with
    | none => rfl
    | some j' =>
      obtain ⟨rfl, _⟩ := range_get q
      show some (((line.take i) ++ (some k).toList).filter fun k' => decide (pocketOf ls plan t k' = j')) = some ((line.take i).filter fun k' => decide (pocketOf ls plan t k' = j'))
      rw [List.filter_append, show (some k).toList = [k] from rfl, List.filter_cons_of_neg (by simpa using e)]
      rw [List.filter_nil, List.append_nil]
theorem pockets_at {line : List Nat} {t n j : Nat} (hj : j < n) : (pocketsAt ls plan line t n)[j]? = some (line.filter fun k => decide (pocketOf ls plan t k = j)) := by
  unfold pocketsAt
  rw [List.getElem?_map, List.getElem?_range hj]; rfl
theorem pockets_nil {t n : Nat} : pocketsAt ls plan [] t n = List.replicate n [] := by
  unfold pocketsAt
  simp only [List.filter_nil]
  rw [List.map_const', List.length_range]
theorem pockets_flat (line : List Nat) (t : Nat) : ∀ n, (pocketsAt ls plan line t n).flatten.length ≤ n * line.length
  | 0 => by unfold pocketsAt; simp
  | n + 1 => by
    have ih := pockets_flat line t n
    unfold pocketsAt at ih ⊢
    rw [List.range_succ, List.map_append, List.flatten_append, List.length_append]
    have h2 := List.length_filter_le (fun k => decide (pocketOf ls plan t k = n)) line
    have h3 : ((List.map (fun j => line.filter fun k => decide (pocketOf ls plan t k = j)) [n]).flatten).length = (line.filter fun k => decide (pocketOf ls plan t k = n)).length := by
      rw [List.map_cons, List.map_nil, List.flatten_cons, List.flatten_nil, List.append_nil]
    rw [h3, Nat.add_mul, Nat.one_mul]
    omega
def traysOf (ps : Passes') (ls : Letters) (plan : List (List Nat)) : List (List Nat) := (List.range (ps.length + 1)).map (lineAt ps ls plan)
end
section
variable {P : Program} {w : World} {K : PySem.W.Frag} {mg : Str → Option Value} {base : Heap} {Cm Cw ak bk : Addr}
def sp_trays (Cm : Addr) : Sp := SpF (ι := iP) PreP (aP Cm) (fun _ => rRows) (fun i => traysOf i.1 i.2.1 i.2.2)
theorem pass_of {ps : Passes'} {t : Nat} (ht : t < ps.length) : ps[((t : Int)).toNat]? = some (passOf ps t) := by
  unfold passOf
  rw [Int.toNat_natCast, List.getD_eq_getElem?_getD, List.getElem?_eq_getElem ht]; rfl
theorem ok_trays (X : Tx K mg Cm Cw ak bk) (d : Df K mg "trays" s_trays) (h_look_at_plan : HasF P w K mg base "look_at_plan" 6 ["mill", "letters", "plan"] (sp_look_at_plan Cm)) (h_Mill_many : HasM P w K mg base Cm "many" 1 ["self"] (sp_many Cm))
    (h_emptied : HasF P w K mg base "emptied" 1 ["pockets", "kinds"] sp_emptied) : HasF P w K mg base "trays" 7 ["mill", "letters", "plan"] (sp_trays Cm) := by
  refine ok_def d sc_trays (fun _ _ _ _ _ _ us hl => match us, hl with | [_, _, _], _ => rfl) (fun i F vs h => ?_) fun f cdv A0 outer s H0 E hr => ⟨_, (pss_cons (ps_expr (pe_hf h_look_at_plan (hr.mono (by decide)) (by rfl) (pa_cons (pv 0) (pa_cons (pv 1) (pa_cons (pv 2) pa_nil)))))
      (pss_cons (ps_set (i := 3) sc_trays.nd rfl (.inl rfl) (pe_lst pa_nil))
      (pss_cons (ps_set (i := 4) sc_trays.nd rfl (.inl rfl) (pe_lst pa_nil))
      (pss_cons (ps_for PassesOwn.never rfl (pi_range1 (by rfl) X.z_range (pa_cons (pe_op op_add (pe_hm0 (pv 0) X.k_Mill h_Mill_many (hr.mono (by decide))) pe_int) pa_nil)) (pg_name (i := 5) sc_trays.nd rfl (Or.inr rfl))
      (pss_cons (ps_set (i := 4) sc_trays.nd rfl (.inl rfl) (pe_op op_cat (pv 4) (pe_lc (own := [("k", 7)]) (g := (gName 7)) rfl sc_trays.nd (pi_range1 (by rfl) X.z_range (pa_cons (pe_callB (r := rLenS K) call_len_seq (by rfl) X.z_len (by decide +kernel) (pa_cons (pv 1) pa_nil)) pa_nil)) (blkOk_by (N := N_trays) (sc := defScope s_trays) (by decide +kernel)) (fun _ _ _ _ _ => (pg_name (i := 7) sc_trays.nd rfl (Or.inl rfl))) (fun _ _ _ _ _ => (pts_one (pt_cmpR op_eq (pe_ix (r := rIxT K) ix_tup (pe_ix (r := rIxL K) ix_list (pv 1) (pv 7) (fun _ _ => rfl)) pe_int (fun _ _ => rfl)) (pv 5) (nomark _)))) (fun _ _ _ _ _ => (pv 7)))))
      (pss_cons (ps_expr (pe_bm PySem.F.plainAttrs_list PySem.F.slot_list_append PySem.F.type_list_append mt_append (pv 3) (pa_cons (pe_callTy (r := rListS K) call_list_of (by rfl) X.z_list (by decide +kernel) (pa_cons (pv 4) pa_nil)) pa_nil)))
      (pss_one (ps_if (pt_cmpR op_lt (pv 5) (pe_hm0 (pv 0) X.k_Mill h_Mill_many (hr.mono (by decide))) (nomark _)) (pss_cons (ps_setLc (i := 6) (own := [("pocket", 8)]) (g := (gName 8)) (tt := tYes) rfl sc_trays.nd rfl rfl (sw_true rfl rfl rfl (by decide +kernel)) (pi_tup (pe_ix (r := rIxT K) ix_tup (pe_fld (pv 0) rfl) (pv 5) (fun _ _ => rfl))) (blkOk_by (N := N_trays) (sc := defScope s_trays) (by decide +kernel)) (fun _ _ _ _ _ => (pg_name (i := 8) sc_trays.nd rfl (Or.inl rfl))) (fun _ _ _ _ _ => pts_nil) (fun _ _ _ _ _ => (pe_lst pa_nil)))
      (pss_cons (ps_for PassesOwn.never rfl (pi_list (pv 4)) (pg_name (i := 7) sc_trays.nd rfl (Or.inl rfl))
      (pss_one (ps_expr (pe_bm PySem.F.plainAttrs_list PySem.F.slot_list_append PySem.F.type_list_append mt_append (pe_ix (r := rIxL K) ix_list (pv 6) (pe_ix (r := rIxT K) ix_tup (pe_ix (r := rIxL K) ix_list (pv 2) (pv 7) (fun _ _ => rfl)) (pe_op op_sub (pv 5) (pe_ix (r := rIxT K) ix_tup (pe_ix (r := rIxL K) ix_list (pv 1) (pv 7) (fun _ _ => rfl)) pe_int (fun _ _ => rfl))) (fun _ _ => rfl)) (fun _ _ => rfl)) (pa_cons (pv 7) pa_nil)))))
      (pss_one (ps_set (i := 4) sc_trays.nd rfl (.inl rfl) (pe_hf h_emptied (hr.mono (by decide)) (by rfl) (pa_cons (pv 6) (pa_cons (pe_ix (r := rIxT K) ix_tup (pe_fld (pv 0) rfl) (pv 5) (fun _ _ => rfl)) pa_nil))))))) pss_nil)))))
      (pss_one (ps_ret (pv 3))))))), ?_⟩
  · obtain ⟨_, _, _, rfl, _⟩ := ap3 h
    rfl
  · rintro ⟨ps, ls, plan⟩ F H vs hp eF h Q k
    have hp' := hp
    obtain ⟨wf, wl, g⟩ := hp
    dsimp only [aP] at wf wl g h k
    obtain ⟨a, b, c, rfl, ra, rb, rc⟩ := ap3 h
    have hlen := g.len
    have hm := wl.many
    have hn6 := wf.many
    refine q_drop (ev_call (ps, ls, plan) (ea_cons (ev_var rfl ra) (ea_cons (ev_var rfl rb) (ea_cons (ev_var rfl rc) ea_nil))) hp') eF fun _ F1 H1 u1 _ => ?_
    refine q_newL rRow u1 fun lo H2 hlo u2 U2 m2 => ?_
    refine q_set (ev_lst (R := rNat) (xs := []) ea_nilL (by simp)) U2.s fun vl F3 H3 u3 r3 => ?_
    have U3 := U2.trans u3
    replace ra := (rMill Cm).mono U3.f ra
    replace rb := rLet.mono U3.f rb
    replace rc := rPlan.mono U3.f rc
    refine q_for (ei_rng1 (n := ps.length + 1) (ea_cons ((ev_add (ev_many (ev_var rfl ra)) ev_int).is (by omega)) ea_nil) (by omega)) U3.s
      (fun i σ F' H' => Up F H F' H' ∧ Same F3 F' ∧ ∃ vl x5 x6 x7, rRow.r F' vl (preLine ps ls plan i) ∧ ML H F' H' lo rRow ((List.range i).map (lineAt ps ls plan)) ∧ σ = [some a, some b, some c, some (.ref lo), some vl, x5, x6, x7, none])
      (fun F4 H4 u4 => ⟨U3.trans u4, u4.f, vl, none, none, none, rRow.mono u4.f r3, (m2.up u3).up u4, rfl⟩) (fun _ _ _ _ p => p.1.s) ?_ ?_
    · rintro i t σ F4 H4 v ht ⟨U4, f4, vl, x5, x6, x7, rl, mo, rfl⟩ rv
      obtain ⟨rfl, hlt⟩ := range_get ht
      have ht' : t ≤ ps.length := by omega
      have ra4 := (rMill Cm).mono f4 ra
      have rb4 := rLet.mono f4 rb
      have rc4 := rPlan.mono f4 rc
      have hpl := pre_len wf g ht'
      have hll := line_len wf g ht'
      -- line = line + [k for k in range(len(letters)) if letters[k][1] == at]
      refine q_set (R := rRow) (x := lineAt ps ls plan t) ((ev_catL (R := rNat) (ev_var rfl rl) (ev_lcNI (R := rNat) (S := rNat) (j := 7) (vs := [7]) (p := fun k => decide ((lateOf ls k : Int) = (t : Int))) (f := fun k => k) (xs := List.range ls.length)
        (ei_rng1 (n := ls.length) (ea_cons (ev_lenL (R := rLetter) (ev_var rfl rb4)) ea_nil) (by omega)) (by rw [List.length_range]; omega) (fun _ => rfl) (fun x v5 F5 hx e5 r5 => ?_) (fun x v5 F5 hx e5 r5 _ => ev_var rfl r5)) ?_).is ?_) U4.s fun vl5 F5 H5 u5 r5 => ?_
      · have hx' : x < ls.length := List.mem_range.mp hx
        exact eb_test (ev_eqI (Ev.ofNat (ev_snd (R := rInt) (S := rNat) (ev_ixL (R := rLetter) (ev_var rfl (rLet.mono e5 rb4)) (Ev.ofNat (ev_var (R := rNat) rfl r5)) (by omega) (letter_at hx')))) (Ev.ofNat (ev_var (R := rNat) (x := t) rfl (rNat.mono e5 rv))))
      · rw [List.length_map]
        have := List.length_filter_le (fun k => decide ((lateOf ls k : Int) = (t : Int))) (List.range ls.length)
        rw [List.length_range] at this
        omega
      · rw [line_pre ht', List.map_id']
        rfl
      have U5 := U4.trans u5
      have mo5 := mo.up u5
      -- out.append(list(line))
      refine q_app U5 mo5 rfl (ev_listOf (R := rNat) (ev_var rfl r5)) (by rw [List.length_map, List.length_range]; omega) fun F6 H6 ws u6 U6 m6 => ?_
      have em : (List.range t).map (lineAt ps ls plan) ++ [lineAt ps ls plan t] = (List.range (t + 1)).map (lineAt ps ls plan) := by
        rw [List.range_succ, List.map_append]; rfl
      rw [em] at m6
      have f6 : Same F4 F6 := u5.f.trans u6.f
      have r6 := rRow.mono u6.f r5
      replace ra4 := (rMill Cm).mono f6 ra4
      replace rb4 := rLet.mono f6 rb4
      replace rc4 := rPlan.mono f6 rc4
      have rv6 : rNat.r F6 v t := rNat.mono f6 rv
      refine s_if (eb_test (ev_lt (Ev.ofNat (ev_var (R := rNat) rfl rv6)) (ev_many (ev_var rfl ra4)))) U6.s (fun hb H7 u7 => ?_) (fun hb H7 u7 => ?_)
      · have htn : t < ps.length := by
          have := of_decide_eq_true hb
          omega
        have U7 := U6.trans u7
        have m7 := m6.up u7
        have hq := wf.pass (passOf ps t) (List.mem_of_getElem? (pass_of htn))
        -- pockets = [[] for pocket in mill.passes[at]]
        refine q_lcNew (R := rPocket) (xs := passOf ps t) (j := 8) (vs := [8]) U7 (ei_tup (R := rPocket) (ev_ixT (R := rPassT) (ev_passes X (ev_var rfl ra4)) (Ev.ofNat (ev_var (R := rNat) rfl rv6)) (by omega) (pass_of htn))) (by omega) (fun _ => rfl) fun p as F8 H8 u8 pk8 hnew => ?_
        have U8 := U7.trans u8
        have m8 := m7.up u8
        have lop : lo ≠ p := m7.ne (hnew p (.inl rfl))
        have loa : lo ∉ as := fun z => m7.ne (hnew lo (.inr z)) rfl
        replace ra4 := (rMill Cm).mono u8.f ra4
        replace rb4 := rLet.mono u8.f rb4
        replace rc4 := rPlan.mono u8.f rc4
        have r8 := rRow.mono u8.f r6
        rw [← pockets_nil (ls := ls) (plan := plan) (t := t)] at pk8
        -- for k in line: pockets[..].append(k)
        refine q_for (R := rNat) (xs := lineAt ps ls plan t) (ei_list (R := rNat) (ev_var rfl r8)) U8.s
          (fun i σ F' H' => Up F H F' H' ∧ Same F8 F' ∧ ML H F' H' lo rRow ((List.range (t + 1)).map (lineAt ps ls plan)) ∧ Pk H F' H' p as (pocketsAt ls plan ((lineAt ps ls plan t).take i) t (passOf ps t).length) ∧
            ∃ x7, σ = [some a, some b, some c, some (.ref lo), some vl5, some v, some (.ref p), x7, none])
          (fun F9 H9 u9 => ⟨U8.trans u9, u9.f, m8.up u9, pk8.up u9, _, rfl⟩) (fun _ _ _ _ p => p.1.s) ?_ ?_
        · rintro i kk σ F9 H9 v9 hkk ⟨U9, f9, m9, pk9, x7, rfl⟩ rv9
          have hkm : kk ∈ lineAt ps ls plan t := List.mem_of_getElem? hkk
          obtain ⟨k1, k2⟩ := ((line_inv wf g t ht').2 kk).mp hkm
          obtain ⟨s1, _⟩ := place_step g k1 k2 htn
          have ev9 : v9 = .int (kk : Int) := rv9
          subst ev9
          -- the pocket's number
          have hw : wordOf plan kk ∈ plan ∨ True := .inr trivial
          have hlw : t - lateOf ls kk < (wordOf plan kk).length := by rw [(g.word kk k1).len]; omega
          have eidx : Ev (tOp (rIxT K) (tOp (rIxL K) (tVar 2) (tVar 7)) (tOp (rI0 fun i j => .int (i - j)) (tVar 5) (tOp (rIxT K) (tOp (rIxL K) (tVar 1) (tVar 7)) (tC (.int 1))))) [some a, some b, some c, some (.ref lo), some vl5, some v, some (.ref p), some (.int (kk : Int)), none] F9 H9 rNat (pocketOf ls plan t kk) := by
            refine ev_ixT (R := rNat) (ev_ixL (R := rWord) (ev_var rfl (rPlan.mono f9 rc4)) (Ev.ofNat (ev_var (R := rNat) (x := kk) rfl rfl)) (by omega) (word_at (by omega)))
              (ev_sub (Ev.ofNat (ev_var (R := rNat) (x := t) rfl (rNat.mono (u8.f.trans f9) rv6))) (Ev.ofNat (ev_snd (R := rInt) (S := rNat) (ev_ixL (R := rLetter) (ev_var rfl (rLet.mono f9 rb4)) (Ev.ofNat (ev_var (R := rNat) (x := kk) rfl rfl)) (by omega) (letter_at k1))))) ?_ ?_
            · show 0 ≤ (t : Int) - (lateOf ls kk : Int)
              omega
            · show (wordOf plan kk)[((t : Int) - (lateOf ls kk : Int)).toNat]? = _
              rw [show ((t : Int) - (lateOf ls kk : Int)).toNat = t - lateOf ls kk by omega, List.getElem?_eq_getElem hlw]
              unfold pocketOf
              rw [List.getD_eq_getElem?_getD, List.getElem?_eq_getElem hlw]; rfl
          have hja : pocketOf ls plan t kk < as.length := by
            rw [pk9.len]
            unfold pocketsAt
            rw [List.length_map, List.length_range]
            exact s1
          obtain ⟨aj, haj⟩ : ∃ aj, as[pocketOf ls plan t kk]? = some aj := ⟨_, List.getElem?_eq_getElem hja⟩
          have hrow := pockets_at (ls := ls) (plan := plan) (line := (lineAt ps ls plan t).take i) (t := t) s1
          refine ⟨.ref p, rfl, eidx H9 U9.s (Same.refl _) _ fun vj F10 H10 u10 r10 => ?_⟩
          have evj : vj = .int ((pocketOf ls plan t kk : Nat) : Int) := r10
          subst evj
          have pk10 := pk9.up u10
          have mj := pk10.row _ aj _ haj hrow
          refine ⟨p, _, _, .ref aj, rfl, rfl, SqL.of pk10.out.h, atI_nat (by rw [List.getElem?_map, haj]; rfl), ?_⟩
          refine ⟨.inl ⟨rfl, _, SqL.of mj.h⟩, _, rfl, aj, _, _, rfl, rfl, mj.h, ?_, ?_⟩
          · unfold natsV
            rw [List.length_map, List.length_map]
            have h1 := List.length_filter_le (fun k => decide (pocketOf ls plan t k = pocketOf ls plan t kk)) ((lineAt ps ls plan t).take i)
            rw [List.length_take] at h1
            exact line100 (by omega)
          · refine ⟨F10, u10.f, (U9.trans u10).put _ mj, f9.trans u10.f, (m9.up u10).side (fun z => loa (by rw [z]; exact List.mem_of_getElem? haj)), ?_, _, rfl⟩
            rw [pockets_step hkk]
            exact pk10.app haj hrow
        · rintro σ F9 H9 ⟨U9, f9, m9, pk9, x7, rfl⟩
          rw [List.take_length] at pk9
          obtain ⟨F10, f10, U10, r10, n10⟩ := pk9.freeze U9
          have m10 : ML H F10 H9 lo rRow ((List.range (t + 1)).map (lineAt ps ls plan)) := by
            obtain ⟨ws', q1, q2⟩ := m9
            exact ⟨ws', q1.know (n10 lo lop loa q1.f), q2.up f10⟩
          have hfl := pockets_flat (ls := ls) (plan := plan) (lineAt ps ls plan t) t (passOf ps t).length
          have hpl2 : (pocketsAt ls plan (lineAt ps ls plan t) t (passOf ps t).length).length = (passOf ps t).length := by
            unfold pocketsAt
            rw [List.length_map, List.length_range]
          have hmul : (passOf ps t).length * (lineAt ps ls plan t).length ≤ 6 * 24 := Nat.mul_le_mul hq.2 (by omega)
          refine s_set (ev_call (pocketsAt ls plan (lineAt ps ls plan t) t (passOf ps t).length, passOf ps t) (ea_cons (ev_var rfl r10) (ea_cons (ev_ixT (R := rPassT) (ev_passes X (ev_var rfl ((rMill Cm).mono (f9.trans f10) ra4))) (Ev.ofNat (ev_var (R := rNat) rfl (rNat.mono (u8.f.trans (f9.trans f10)) rv6))) (by omega) (pass_of htn)) ea_nil))
            ⟨hpl2, (by dsimp only; rw [hpl2]; exact hq.2), (by dsimp only; omega)⟩) U10.s fun v11 F11 H11 u11 r11 => ?_
          refine ⟨F11, f6.trans (u8.f.trans (f9.trans (f10.trans u11.f))), U10.trans u11, f4.trans (f6.trans (u8.f.trans (f9.trans (f10.trans u11.f)))), v11, _, _, _, ?_, m10.up u11, rfl⟩
          rw [preLine_lt htn]
          exact r11
      · have htn : ¬ t < ps.length := fun q => by
          have := of_decide_eq_false hb
          omega
        refine ⟨F6, f6, U6.trans u7, f4.trans f6, vl5, _, _, _, ?_, m6.up u7, rfl⟩
        rw [preLine_ge htn]
        exact r6
    · rintro σ F4 H4 ⟨U4, f4, vl, x5, x6, x7, rl, mo, rfl⟩
      rw [List.length_range] at mo
      obtain ⟨F5, f5, U5, r5, _⟩ := mo.freeze U4
      exact s_ret (ev_var (R := rRows) rfl r5) U5.s fun v F6 H6 u6 r6 => k v F6 H6 (U5.trans u6) r6
def sp_end_row (Cm : Addr) : Sp := SpF (ι := iP) PreP (aP Cm) (fun _ => rRow) (fun i => endRow i.1 i.2.1 i.2.2)
theorem ok_end_row (X : Tx K mg Cm Cw ak bk) (d : Df K mg "end_row" s_end_row) (h_trays : HasF P w K mg base "trays" 7 ["mill", "letters", "plan"] (sp_trays Cm)) (h_Mill_many : HasM P w K mg base Cm "many" 1 ["self"] (sp_many Cm)) :
    HasF P w K mg base "end_row" 8 ["mill", "letters", "plan"] (sp_end_row Cm) := by
  refine ok_def d sc_end_row (fun _ _ _ _ _ _ us hl => match us, hl with | [_, _, _], _ => rfl) (fun i F vs h => ?_) fun f cdv A0 outer s H0 E hr => ⟨_, (pss_one (ps_ret (pe_ix (r := rIxL K) ix_list (pe_hf h_trays (hr.mono (by decide)) (by rfl) (pa_cons (pv 0) (pa_cons (pv 1) (pa_cons (pv 2) pa_nil)))) (pe_hm0 (pv 0) X.k_Mill h_Mill_many (hr.mono (by decide))) (fun _ _ => rfl)))), ?_⟩
  · obtain ⟨_, _, _, rfl, _⟩ := ap3 h
    rfl
  · rintro ⟨ps, ls, plan⟩ F H vs hp eF h Q k
    dsimp only [aP] at h k
    obtain ⟨a, b, c, rfl, ra, rb, rc⟩ := ap3 h
    refine s_ret (ev_ixL (R := rRow) (y := endRow ps ls plan) (ev_call (ps, ls, plan) (ea_cons (ev_var rfl ra) (ea_cons (ev_var rfl rb) (ea_cons (ev_var rfl rc) ea_nil))) hp) (ev_many (ev_var rfl ra)) (by omega) ?_) eF fun v F2 H2 u r => k v F2 H2 u r
    show (traysOf ps ls plan)[((ps.length : Nat) : Int).toNat]? = _
    unfold traysOf
    rw [Int.toNat_natCast, List.getElem?_map, List.getElem?_range (by omega)]
    rfl
end
end PM
end

section
set_option Elab.async false
set_option linter.all false
set_option maxRecDepth 100000
set_option maxHeartbeats 2000000
/-! wishes, first part: groups -/
namespace PM
open PySem PySem.Spec PyProof.Rows L2
abbrev s_look_at_groups : Stmt := top 45
abbrev N_look_at_groups : List Str := ["count", "groups", "seen", "kind", "told", "letter"]
theorem sc_look_at_groups : FnScope N_look_at_groups ["count", "groups"] (defScope s_look_at_groups) := ⟨rfl, rfl, rfl, by decide +kernel, rfl, by decide +kernel, by decide +kernel⟩
abbrev s_group_levels : Stmt := top 46
abbrev N_group_levels : List Str := ["letters", "kind", "told", "by_coming", "letter", "pair"]
theorem sc_group_levels : FnScope N_group_levels ["letters", "kind", "told"] (defScope s_group_levels) := ⟨rfl, rfl, rfl, by decide +kernel, rfl, by decide +kernel, by decide +kernel⟩
/-! ### dicts whose keys are letters -/
def dOf (f : Nat → V) (l : List Nat) : List (Key × V) := l.map fun (x : Nat) => ((Sum.inl (x : Int) : Key), f x)
theorem key_inj {x y : Nat} (h : (Sum.inl (x : Int) : Key) = Sum.inl (y : Int)) : x = y := by
  have := Sum.inl.inj h
  omega
theorem valV_in (f : Nat → V) {x : Nat} : ∀ {l : List Nat}, x ∈ l → valV (dOf f l) (.inl (x : Int)) = some (f x)
  | [], h => by cases h
  | y :: l, h => by
    by_cases e : y = x
    · subst e
      exact valV_pos rfl
    · have hm : x ∈ l := by
        rcases List.mem_cons.mp h with q | q
        · exact absurd q.symm e
        · exact q
      exact (valV_neg (fun z => e (key_inj z))).trans (valV_in f hm)
theorem valV_out (f : Nat → V) {x : Nat} : ∀ {l : List Nat}, x ∉ l → valV (dOf f l) (.inl (x : Int)) = none
  | [], _ => rfl
  | y :: l, h => by
    rw [List.mem_cons, not_or] at h
    exact (valV_neg (fun z => h.1 (key_inj z).symm)).trans (valV_out f h.2)
theorem putK_new (f : Nat → V) {x : Nat} {l : List Nat} (h : x ∉ l) : putK (dOf f l) (.inl (x : Int)) (f x) = dOf f (l ++ [x]) := by
  unfold putK
  rw [valV_any, valV_out f h]
  unfold dOf
  rw [List.map_append]
  rfl
section
variable {α β : Type} {K : PySem.W.Frag} {σ : L2.St} {F H F0 H0 : Hp} {te ta tb tv : TE} {R : Rep α} {S : Rep β} {D : Ends} {tz : TS}
theorem eb_din {td : TE} {d : Addr} {kvs : List (Key × V)} {x : Nat} (m : Mut H0 F H d (.dK kvs)) (hd : ∀ H1 (Q : VK), Same H H1 → Q (.ref d) H1 → td σ H1 Q) (h : Ev te σ F H rNat x) : EvB (tB (tDIn te td)) σ F H (valV kvs (.inl (x : Int))).isSome := fun H1 a b Q q =>
  h H1 a b _ fun v F2 H2 u2 r2 => hd H2 _ (b.trans u2.h) (by
    have r2' : v = .int (x : Int) := r2
    subst r2'
    exact ⟨d, _, rfl, DGet.k (k := Sum.inl (x : Int)) (u2.h _ _ (b _ _ m.h)), _, rfl, q H2 u2.h⟩)
/-- d[k] = v -/
theorem s_dput {td : TE} {d : Addr} {kvs : List (Key × V)} {x : Nat} {y : β} (U : Up F0 H0 F H) (m : Mut H0 F H d (.dK kvs)) (hd : ∀ H1 (Q : VK), Same H H1 → Q (.ref d) H1 → td σ H1 Q) (hz : kvs.length < 100000) (h : Ev te σ F H rNat x) (hv : Ev tv σ F H S y)
    (k : ∀ v F' H1, Up F H F' H1 → S.r F' v y → Mut H0 F' H1 d (.dK kvs) → Up F0 H0 F' (upd H1 d (.dK (putK kvs (.inl (x : Int)) v))) → D.nx σ (upd H1 d (.dK (putK kvs (.inl (x : Int)) v)))) : sDPut td te tv D σ H :=
  hv H U.s (Same.refl _) _ fun v F2 H2 u2 r2 => hd H2 _ u2.h (h H2 (U.s.trans u2.h) u2.h _ fun w F3 H3 u3 r3 => by
    have r3' : w = .int (x : Int) := r3
    subst r3'
    have u := u2.uni u3
    have m3 := m.up u
    exact ⟨d, _, rfl, DPut.k (k := Sum.inl (x : Int)) m3.h (line100 hz), k v _ H3 u (S.mono (u2.uniL u3) r2) m3 ((U.trans u).put _ m3)⟩)
theorem hd_var {i : Nat} {d : Addr} {H : Hp} (h : σ[i]? = some (some (.ref d))) : ∀ H1 (Q : VK), Same H H1 → Q (.ref d) H1 → tVar i σ H1 Q := fun _ _ _ q => ⟨_, h, q⟩
/-- x = {} -/
theorem q_dnew {i : Nat} (U : Up F0 H0 F H) (k : ∀ d H', H d = none → Up F H F H' → Up F0 H0 F H' → Mut H0 F H' d (.dK []) → tz D (σ.set i (some (.ref d))) H') : tSeq (tAsg tDNewK (gName i)) tz D σ H := fun d hd => by
  have u := Up.newM (o := .dK []) U.s hd
  exact k d _ hd u (U.trans u) ⟨U.h.free hd, U.s.free hd, upd_same⟩
end
theorem take_flat {α : Type} {l : List (List α)} {i : Nat} {x : List α} (h : l[i]? = some x) : (l.take (i + 1)).flatten = (l.take i).flatten ++ x := by
  rw [List.take_add_one, h, List.flatten_append]
  show _ ++ ([x] : List (List α)).flatten = _
  rw [List.flatten_cons, List.flatten_nil, List.append_nil]
theorem take_snoc {α : Type} {l : List α} {i : Nat} {x : α} (h : l[i]? = some x) : l.take (i + 1) = l.take i ++ [x] := by
  rw [List.take_add_one, h]; rfl
theorem nodup_at {α : Type} {l : List α} (nd : l.Nodup) {i : Nat} {x : α} (h : l[i]? = some x) : x ∉ l.take i := fun hx => by
  obtain ⟨j, hj⟩ := List.getElem?_of_mem hx
  have hlt := (List.getElem?_eq_some_iff.mp hj).1
  rw [List.length_take] at hlt
  rw [List.getElem?_take_of_lt (by omega)] at hj
  have := nd_ix nd hj h
  omega
/-- in the i-th list of a list of lists the j-th item is not in what is ahead -/
theorem flat_at {α : Type} {l : List (List α)} (nd : l.flatten.Nodup) {i j : Nat} {x : List α} {y : α} (h : l[i]? = some x) (k : x[j]? = some y) : y ∉ (l.take i).flatten ++ x.take j := by
  have e : l.flatten = ((l.take i).flatten ++ x) ++ (l.drop (i + 1)).flatten := by
    rw [← take_flat h, ← List.flatten_append, List.take_append_drop]
  rw [e, List.nodup_append] at nd
  obtain ⟨n1, _, _⟩ := nd
  have hj : j < x.length := (List.getElem?_eq_some_iff.mp k).1
  have hk : ((l.take i).flatten ++ x)[(l.take i).flatten.length + j]? = some y := by
    rw [List.getElem?_append_right (by omega), Nat.add_sub_cancel_left]
    exact k
  have := nodup_at n1 hk
  rw [List.take_append, List.take_of_length_le (by omega), Nat.add_sub_cancel_left] at this
  exact this
section
variable {P : Program} {w : World} {K : PySem.W.Frag} {mg : Str → Option Value} {base : Heap} {Cm Cw ak bk : Addr} {σ : L2.St} {F H : Hp} {te : TE}
theorem eb_kd (X : Tx K mg Cm Cw ak bk) {b : Kd} (h : Ev te σ F H rKd b) : EvB (tTest (tOp (rIn K true) te (tC (.ref bk)))) σ F H false :=
  eb_test (ev_two (S := rV) (y := .ref bk) (T := rBl) h (ev_c rfl) fun F1 H1 x y _ e1 _ rx ry Q q => by
    have rx' : x = .str (kdS b) := rx
    have ry' : y = .ref bk := ry
    subst rx'; subst ry'
    refine ⟨bk, _, rfl, .inl (X.v_wishes H1), rfl, rfl, q _ F1 H1 (Up.refl e1) ?_⟩
    show V.bl _ = V.bl false
    cases b <;> decide +kernel)
def toldOf (gs : List (Kd × List Nat)) : List (List Nat) := gs.map (·.2)
theorem told_at {gs : List (Kd × List Nat)} {i : Nat} {g : Kd × List Nat} (h : gs[i]? = some g) : (toldOf gs)[i]? = some g.2 := by
  unfold toldOf
  rw [List.getElem?_map, h]; rfl
theorem told_length (gs : List (Kd × List Nat)) : (toldOf gs).length = gs.length := by unfold toldOf; rw [List.length_map]
theorem groups_nodup {m : Nat} {gs : List (Kd × List Nat)} (wg : WfG m gs) : ((toldOf gs).flatten).Nodup := wg.perm.nodup_iff.mpr List.nodup_range
theorem groups_len {m : Nat} {gs : List (Kd × List Nat)} (wg : WfG m gs) : ((toldOf gs).flatten).length = m := by
  have := wg.perm.length_eq
  rw [List.length_range] at this
  exact this
theorem groups_lt {m : Nat} {gs : List (Kd × List Nat)} (wg : WfG m gs) {x : Nat} (h : x ∈ (toldOf gs).flatten) : x < m := List.mem_range.mp (wg.perm.mem_iff.mp h)
theorem flat_take_len {α : Type} {l : List (List α)} {i : Nat} {x : List α} (h : l[i]? = some x) : (l.take i).flatten.length + x.length ≤ l.flatten.length := by
  have e : l.flatten = ((l.take i).flatten ++ x) ++ (l.drop (i + 1)).flatten := by
    rw [← take_flat h, ← List.flatten_append, List.take_append_drop]
  rw [e, List.length_append, List.length_append]
  omega
def sp_look_at_groups : Sp := SpF (ι := Nat × List (Kd × List Nat)) (fun i => WfG i.1 i.2 ∧ i.1 ≤ 24) (fun i => apCons rInt (i.1 : Int) (apCons rGroups i.2 apNil)) (fun _ => rNon) (fun _ => ())
theorem ok_look_at_groups (X : Tx K mg Cm Cw ak bk) (d : Df K mg "look_at_groups" s_look_at_groups) : HasF P w K mg base "look_at_groups" 1 ["count", "groups"] sp_look_at_groups := by
  refine ok_def d sc_look_at_groups (fun _ _ _ _ _ _ us hl => match us, hl with | [_, _], _ => rfl) (fun i F vs h => ?_) fun f cdv A0 outer s H0 E hr => ⟨_, (pss_cons (ps_set (i := 2) sc_look_at_groups.nd rfl (.inl rfl) pe_dnewK)
      (pss_cons (ps_for PassesOwn.never rfl (pi_list (pv 1)) (pg_tup rfl (pgs_cons (pg_name (i := 3) sc_look_at_groups.nd rfl (Or.inl rfl)) (pgs_cons (pg_name (i := 4) sc_look_at_groups.nd rfl (Or.inl rfl)) pgs_nil)))
      (pss_cons (ps_if (PW.pt (pw_or (pt_cmpR op_notIn_seq (pv 3) (pe_glob (v := .ref bk) rfl X.c_KINDS_wishes rfl) (by rfl)) (pw_or1 (pt_cmpR op_eq (pe_callB (r := rLenS K) call_len_seq (by rfl) X.z_len (by decide +kernel) (pa_cons (pv 4) pa_nil)) pe_int (nomark _))))) (pss_one ps_never) pss_nil)
      (pss_one (ps_for PassesOwn.never rfl (pi_list (pv 4)) (pg_name (i := 5) sc_look_at_groups.nd rfl (Or.inl rfl))
      (pss_cons (ps_if (PW.pt (pw_or (pt_cmpR op_lt (pv 5) pe_int (nomark _)) (pw_or (pt_cmpR op_ge (pv 5) (pv 0) (nomark _)) (pw_or1 (pt_cmp (pc_din (hu_of hr) (pv 5) (pv 2))))))) (pss_one ps_never) pss_nil)
      (pss_one (ps_dput (hu_of hr) (pv 2) (pv 5) pe_bl rfl)))))))
      (pss_one (ps_if (pt_cmpR op_lt (pe_callB call_lenD (by rfl) X.z_len (by decide +kernel) (pa_cons (pv 2) pa_nil)) (pv 0) (nomark _)) (pss_one ps_never) pss_nil)))), ?_⟩
  · obtain ⟨_, _, rfl, _⟩ := ap2 h
    rfl
  · rintro ⟨m, gs⟩ F H vs hp eF h Q k
    dsimp only at hp h k
    obtain ⟨wg, hm⟩ := hp
    obtain ⟨a, b, rfl, ra, rb⟩ := ap2 h
    have ra' : a = .int (m : Int) := ra
    subst ra'
    have nd := groups_nodup wg
    have hl := groups_len wg
    have hl2 := hl
    refine q_dnew (Up.refl eF) fun dd H1 hdd u1 U1 m1 => ?_
    refine q_for (ei_list (R := rTup2 rKd rRow) (ev_var rfl rb)) U1.s (fun i σ F' H' => Up F H F' H' ∧ Mut H F' H' dd (.dK (dOf (fun _ => .bl true) (((toldOf gs).take i).flatten))) ∧ ∃ x y z, σ = [some (.int (m : Int)), some b, some (.ref dd), x, y, z])
      (fun F2 H2 u2 => ⟨U1.trans u2, m1.up u2, none, none, none, rfl⟩) (fun _ _ _ _ p => p.1.s) ?_ ?_
    · rintro i g σ F2 H2 v hg ⟨U2, m2, x, y, z, rfl⟩ rv
      obtain ⟨x', y', h1, h2, h3⟩ := gt_tup2 (K := K) (i := 3) (j := 4) (σ := [some (.int (m : Int)), some b, some (.ref dd), x, y, z]) rv
      refine h3 H2 U2.s _ ?_
      have hgm := List.mem_of_getElem? hg
      have hne := wg.some g hgm
      have hpos : 0 < g.2.length := List.length_pos_iff.mpr hne
      have hgi := told_at hg
      refine q_guard (eb_or0 (eb_kd X (ev_var rfl h1)) ((eb_test (ev_eqI (ev_lenL (R := rNat) (ev_var rfl h2)) ev_int)).is (decide_eq_false (by omega)))) U2.s fun H3 u3 => ?_
      refine s_for (ei_list (R := rNat) (ev_var rfl h2)) (U2.trans u3).s (fun j σ F' H' => Up F H F' H' ∧ Same F2 F' ∧ Mut H F' H' dd (.dK (dOf (fun _ => .bl true) (((toldOf gs).take i).flatten ++ g.2.take j))) ∧ ∃ z, σ = [some (.int (m : Int)), some b, some (.ref dd), some x', some y', z])
        (fun F4 H4 u4 => ⟨(U2.trans u3).trans u4, u4.f, by rw [List.take_zero, List.append_nil]; exact (m2.up u3).up u4, z, rfl⟩) (fun _ _ _ _ p => p.1.s) ?_ ?_
      · rintro j l σ F4 H4 v4 hl4 ⟨U4, f4, m4, z, rfl⟩ rv4
        have hlm : l ∈ (toldOf gs).flatten := List.mem_flatten.mpr ⟨g.2, List.mem_of_getElem? hgi, List.mem_of_getElem? hl4⟩
        have hlt := groups_lt wg hlm
        have hnew := flat_at nd hgi hl4
        have ev4 : v4 = .int (l : Int) := rv4
        subst ev4
        refine q_guard (eb_or0 ((eb_test (ev_lt (Ev.ofNat (ev_var (R := rNat) (x := l) rfl rfl)) ev_int)).is (decide_eq_false (by omega))) (eb_or0 ((eb_test (ev_ge (Ev.ofNat (ev_var (R := rNat) (x := l) rfl rfl)) (Ev.ofNat (ev_var (R := rNat) (x := m) rfl rfl)))).is (decide_eq_false (by omega)))
          ((eb_din m4 (hd_var rfl) (ev_var (R := rNat) (x := l) rfl rfl)).is (by rw [valV_out _ hnew]; rfl)))) U4.s fun H5 u5 => ?_
        refine s_dput (x := l) (U4.trans u5) (m4.up u5) (hd_var rfl) ?_ (ev_var (R := rNat) rfl rfl) (ev_bl (b := true)) fun v6 F6 H6 u6 r6 m6 U6 => ?_
        · unfold dOf
          rw [List.length_map, List.length_append, List.length_take]
          have q1 := flat_take_len hgi
          omega
        · have r6' : v6 = .bl true := r6
          subst r6'
          refine ⟨F6, u6.f, U6, f4.trans u6.f, ?_, _, rfl⟩
          rw [take_snoc hl4, ← List.append_assoc, ← putK_new (fun _ => V.bl true) hnew]
          exact m6.put _
      · rintro σ F4 H4 ⟨U4, f4, m4, z, rfl⟩
        refine ⟨F4, f4, U4, ?_, _, _, _, rfl⟩
        rw [take_flat hgi]
        rw [List.take_length] at m4
        exact m4
    · rintro σ F2 H2 ⟨U2, m2, x, y, z, rfl⟩
      rw [← told_length, List.take_length] at m2
      have elen : Ev (tCB (fun xs H Q => ∃ a kvs, xs = [V.ref a] ∧ H a = some (.dK kvs) ∧ Q (.int kvs.length) H) (tCons (tVar 2) tNil)) [some (.int (m : Int)), some b, some (.ref dd), x, y, z] F2 H2 rInt (m : Int) := fun H1 a b Q q =>
        ⟨_, rfl, dd, _, rfl, b _ _ m2.h, q _ F2 H1 (Up.refl a) (by
          show V.int _ = V.int _
          unfold dOf
          rw [List.length_map, hl])⟩
      exact s_guard ((eb_test (ev_lt elen (ev_var (R := rInt) (x := (m : Int)) rfl rfl))).is (decide_eq_false (by omega))) U2.s fun H3 u3 => k _ _ _ (U2.trans u3) rfl
/-! group_levels -/
def sp_group_levels : Sp := SpF (ι := Letters × Kd × List Nat) (fun i => (∀ x ∈ i.2.2, x < i.1.length) ∧ i.2.2.length ≤ 24) (fun i => apCons rLet i.1 (apCons rKd i.2.1 (apCons rRow i.2.2 apNil))) (fun _ => rLevels) (fun i => groupLevels i.1 i.2.1 i.2.2)
theorem rKd_str {F : Hp} {v : V} {b : Kd} (h : rKd.r F v b) : rStr.r F v (kdS b) := h
theorem kd_any (b : Kd) : decide (kdS b = ("any" : Str)) = decide (b = .any) := by cases b <;> decide +kernel
theorem kd_row (b : Kd) : decide (kdS b = ("row" : Str)) = decide (b = .row) := by cases b <;> decide +kernel
theorem late_at {ls : Letters} {k : Nat} (hk : k < ls.length) : ls[((k : Int)).toNat]? = some ((ls.getD k (0, 0)).1, lateOf ls k) := by
  unfold lateOf
  rw [Int.toNat_natCast, List.getD_eq_getElem?_getD, List.getElem?_eq_getElem hk]; rfl
theorem ok_group_levels (X : Tx K mg Cm Cw ak bk) (d : Df K mg "group_levels" s_group_levels) : HasF P w K mg base "group_levels" 1 ["letters", "kind", "told"] sp_group_levels := by
  refine ok_def d sc_group_levels (fun _ _ _ _ _ _ us hl => match us, hl with | [_, _, _], _ => rfl) (fun i F vs h => ?_) fun f cdv A0 outer s H0 E hr => ⟨_, (pss_cons (ps_if (pt_cmpR op_eq (pv 1) pe_str (nomark _)) (pss_one (ps_ret (pe_lst (pa_cons (pe_callB cr_sortedI (by rfl) X.z_sorted (by decide +kernel) (pa_cons (pv 2) pa_nil)) pa_nil)))) pss_nil)
      (pss_cons (ps_if (pt_cmpR op_eq (pv 1) pe_str (nomark _)) (pss_one (ps_ret (pe_lc (own := [("letter", 4)]) (g := (gName 4)) (tt := tYes) rfl sc_group_levels.nd (pi_list (pv 2)) (blkOk_by (N := N_group_levels) (sc := defScope s_group_levels) (by decide +kernel)) (fun _ _ _ _ _ => (pg_name (i := 4) sc_group_levels.nd rfl (Or.inl rfl))) (fun _ _ _ _ _ => pts_nil) (fun _ _ _ _ _ => (pe_lst (pa_cons (pv 4) pa_nil)))))) pss_nil)
      (pss_cons (ps_set (i := 3) sc_group_levels.nd rfl (.inl rfl) (pe_callB cr_sortedPO (by rfl) X.z_sorted (by decide +kernel) (pa_cons (pe_lc (own := [("letter", 4)]) (g := (gName 4)) (tt := tYes) rfl sc_group_levels.nd (pi_list (pv 2)) (blkOk_by (N := N_group_levels) (sc := defScope s_group_levels) (by decide +kernel)) (fun _ _ _ _ _ => (pg_name (i := 4) sc_group_levels.nd rfl (Or.inl rfl))) (fun _ _ _ _ _ => pts_nil) (fun _ _ _ _ _ => (pe_tup (pa_cons (pe_ix (r := rIxT K) ix_tup (pe_ix (r := rIxL K) ix_list (pv 0) (pv 4) (fun _ _ => rfl)) pe_int (fun _ _ => rfl)) (pa_cons (pv 4) pa_nil))))) pa_nil)))
      (pss_one (ps_ret (pe_lc (own := [("pair", 5)]) (g := (gName 5)) (tt := tYes) rfl sc_group_levels.nd (pi_list (pv 3)) (blkOk_by (N := N_group_levels) (sc := defScope s_group_levels) (by decide +kernel)) (fun _ _ _ _ _ => (pg_name (i := 5) sc_group_levels.nd rfl (Or.inl rfl))) (fun _ _ _ _ _ => pts_nil) (fun _ _ _ _ _ => (pe_lst (pa_cons (pe_ix (r := rIxT K) ix_tup (pv 5) pe_int (fun _ _ => rfl)) pa_nil))))))))), ?_⟩
  · obtain ⟨_, _, _, rfl, _⟩ := ap3 h
    rfl
  · rintro ⟨ls, kd, told⟩ F H vs hp eF h Q k
    dsimp only at hp h k
    obtain ⟨hlt, hlen⟩ := hp
    obtain ⟨a, b, c, rfl, ra, rb, rc⟩ := ap3 h
    refine q_if ((eb_test (ev_eqS ((ev_var (R := rKd) rfl rb).as fun _ _ q => rKd_str q) ev_str)).is (kd_any kd)) eF (fun hb H1 u1 => ?_) (fun hb H1 u1 => ?_)
    · have e := of_decide_eq_true hb
      subst e
      exact s_ret (R := rLevels) (ev_lst1 (R := rRow) (ev_sortedN (ev_var rfl rc))) u1.s fun v F2 H2 u2 r2 => k v F2 H2 (u1.trans u2) r2
    · have e1 := of_decide_eq_false hb
      refine q_if ((eb_test (ev_eqS ((ev_var (R := rKd) rfl rb).as fun _ _ q => rKd_str q) ev_str)).is (kd_row kd)) u1.s (fun hb H2 u2 => ?_) (fun hb H2 u2 => ?_)
      · have e := of_decide_eq_true hb
        subst e
        exact s_ret (R := rLevels) (ev_lcN (R := rNat) (S := rRow) (j := 4) (vs := [4]) (f := fun a => [a]) (ei_list (R := rNat) (ev_var rfl rc)) (by omega) (fun _ => rfl) fun x v3 F3 hx e3 r3 => ev_lst1 (R := rNat) (ev_var rfl r3)) u2.s fun v F3 H3 u3 r3 => k v F3 H3 ((u1.trans u2).trans u3) r3
      · have e2 := of_decide_eq_false hb
        have ec : kd = .come := by cases kd <;> first | rfl | exact absurd rfl e1 | exact absurd rfl e2
        subst ec
        refine q_set (ev_sortedPr (xs := told.map fun a => (lateOf ls a, a)) (ev_lcN (R := rNat) (S := rTup2 rNat rNat) (j := 4) (vs := [4]) (f := fun a => (lateOf ls a, a)) (ei_list (R := rNat) (ev_var rfl rc)) (by omega) (fun _ => rfl) fun x v3 F3 hx e3 r3 => ?_)) u2.s fun v3 F3 H3 u3 r3 => ?_
        · exact ev_tup2 (ev_snd (R := rInt) (S := rNat) (ev_ixL (R := rLetter) (ev_var rfl (rLet.mono e3 ra)) (Ev.ofNat (ev_var (R := rNat) rfl r3)) (by omega) (late_at (hlt x hx)))) (ev_var (R := rNat) rfl r3)
        · have hl3 : (sortP (told.map fun a => (lateOf ls a, a))).length = told.length := by
            rw [(sortP_perm _).length_eq, List.length_map]
          exact s_ret (R := rLevels) (ev_lcN (R := rTup2 rNat rNat) (S := rRow) (j := 5) (vs := [5]) (f := fun p => [p.2]) (ei_list (R := rTup2 rNat rNat) (ev_var rfl r3)) (by omega) (fun _ => rfl) fun x v4 F4 hx e4 r4 => ev_lst1 (R := rNat) (ev_snd (R := rNat) (S := rNat) (ev_var rfl r4))) u3.s
            fun v F4 H4 u4 r4 => k v F4 H4 (((u1.trans u2).trans u3).trans u4) r4
end
end PM
end

section
set_option Elab.async false
set_option linter.all false
set_option maxRecDepth 100000
set_option maxHeartbeats 2000000
/-! wishes: the class -/
namespace PM
open PySem PySem.Spec PyProof.Rows L2
abbrev s_Wish___init__ : Stmt := inClass (top 47) 0
abbrev N_Wish___init__ : List Str := ["self", "letters", "groups", "kind", "told", "number", "level", "letter"]
theorem sc_Wish___init__ : FnScope N_Wish___init__ ["self", "letters", "groups"] (defScope s_Wish___init__) := ⟨rfl, rfl, rfl, by decide +kernel, rfl, by decide +kernel, by decide +kernel⟩
abbrev s_Wish_levels : Stmt := inClass (top 47) 1
abbrev N_Wish_levels : List Str := ["self", "level"]
theorem sc_Wish_levels : FnScope N_Wish_levels ["self"] (defScope s_Wish_levels) := ⟨rfl, rfl, rfl, by decide +kernel, rfl, by decide +kernel, by decide +kernel⟩
abbrev s_Wish_behind : Stmt := inClass (top 47) 3
abbrev N_Wish_behind : List Str := ["self", "one", "other"]
theorem sc_Wish_behind : FnScope N_Wish_behind ["self", "one", "other"] (defScope s_Wish_behind) := ⟨rfl, rfl, rfl, by decide +kernel, rfl, by decide +kernel, by decide +kernel⟩
abbrev s_Wish_breach : Stmt := inClass (top 47) 4
abbrev N_Wish_breach : List Str := ["self", "row", "k"]
theorem sc_Wish_breach : FnScope N_Wish_breach ["self", "row"] (defScope s_Wish_breach) := ⟨rfl, rfl, rfl, by decide +kernel, rfl, by decide +kernel, by decide +kernel⟩
abbrev s_Wish_kept_by : Stmt := inClass (top 47) 5
abbrev N_Wish_kept_by : List Str := ["self", "row"]
theorem sc_Wish_kept_by : FnScope N_Wish_kept_by ["self", "row"] (defScope s_Wish_kept_by) := ⟨rfl, rfl, rfl, by decide +kernel, rfl, by decide +kernel, by decide +kernel⟩
section
variable {α β : Type} {K : PySem.W.Frag} {σ : L2.St} {F H F0 H0 : Hp} {te ta tb tv : TE} {R : Rep α} {S : Rep β} {D : Ends} {tz : TS}
/-- o.f = e -/
theorem q_fld {j : Nat} {x C dx : Addr} {fs : List (Str × V)} {f : Str} {y : α} (U : Up F0 H0 F H) (m : Mut H0 F H x (.ins C dx fs)) (hx : σ[j]? = some (some (.ref x))) (hc : Cls K C) (hn : NoAttr K C f) (hl : fs.length < 1000) (h : Ev te σ F H R y)
    (k : ∀ v F' H1, Up F H F' H1 → R.r F' v y → Up F0 H0 F' (upd H1 x (.ins C dx (putF f v fs))) → Mut H0 F' (upd H1 x (.ins C dx (putF f v fs))) x (.ins C dx (putF f v fs)) → tz D σ (upd H1 x (.ins C dx (putF f v fs)))) : tSeq (sFld K (tVar j) te f) tz D σ H :=
  h H U.s (Same.refl _) _ fun v F1 H1 u r => by
    have m1 := m.up u
    exact ⟨_, hx, x, C, dx, fs, rfl, m1.h, hc, hn, hl, k v F1 H1 u r ((U.trans u).put _ m1) (m1.put _)⟩
theorem hd_fld {j : Nat} {x C dx : Addr} {fs : List (Str × V)} {f : Str} {v : V} (h : H x = some (.ins C dx fs)) (hx : σ[j]? = some (some (.ref x))) (hc : Cls K C) (hn : NoAttr K C f) (hl : fs.lookup f = some v) : ∀ H1 (Q : VK), Same H H1 → Q v H1 → tFld K (tVar j) f σ H1 Q :=
  fun H1 Q e q => ⟨_, hx, x, C, dx, fs, v, rfl, e _ _ h, hc, hn, hl, q⟩
theorem ev_fldM {j : Nat} {x C dx : Addr} {fs : List (Str × V)} {f : Str} {v : V} {y : α} (h : H x = some (.ins C dx fs)) (hx : σ[j]? = some (some (.ref x))) (hc : Cls K C) (hn : NoAttr K C f) (hl : fs.lookup f = some v) (hr : R.r F v y) : Ev (tFld K (tVar j) f) σ F H R y := fun H1 a b Q q =>
  hd_fld h hx hc hn hl H1 Q b (q v F H1 (Up.refl a) hr)
/-- base.extend(e) -/
theorem s_extB {td : TE} {l : Addr} {xs ys : List α} (U : Up F0 H0 F H) (m : ML H0 F H l R xs) (hd : ∀ H1 (Q : VK), Same H H1 → Q (.ref l) H1 → td σ H1 Q) (h : Ev te σ F H (rLst R) ys) (hz : xs.length + ys.length ≤ 100000)
    (k : ∀ F' H1 vs, Up F H F' H1 → Up F0 H0 F' (upd H1 l (.lst vs)) → ML H0 F' (upd H1 l (.lst vs)) l R (xs ++ ys) → D.nx σ (upd H1 l (.lst vs))) : tDrop (tBM K "list" rExtend td (tCons te tNil)) D σ H := by
  obtain ⟨vs, h1, h2⟩ := m
  refine hd H _ (Same.refl _) ⟨.inl ⟨rfl, vs, SqL.of h1.h⟩, h H U.s (Same.refl _) _ fun v F' H1 u r => ?_⟩
  have m1 := h1.up u
  obtain ⟨p, ws, rfl, h3, h4⟩ := r
  exact ⟨l, p, vs, ws, rfl, rfl, m1.h, u.s _ _ h3, line100' (by rw [h2.length, h4.length]; exact hz), k F' H1 _ u ((U.trans u).put _ m1) ⟨_, m1.put _, (h2.up u.f).append h4⟩⟩
end
theorem levels_take (ls : Letters) {gs : List (Kd × List Nat)} {i : Nat} {g : Kd × List Nat} (h : gs[i]? = some g) : levelsOf ls (gs.take (i + 1)) = levelsOf ls (gs.take i) ++ groupLevels ls g.1 g.2 := by
  unfold levelsOf
  rw [take_snoc h, List.map_append, List.flatten_append]
  show _ ++ ([groupLevels ls g.1 g.2] : List (List (List Nat))).flatten = _
  rw [List.flatten_cons, List.flatten_nil, List.append_nil]
theorem levels_nodup {ls : Letters} {gs : List (Kd × List Nat)} (wg : WfG ls.length gs) : (levelsOf ls gs).flatten.Nodup := (levels_perm ls gs).nodup_iff.mpr (groups_nodup wg)
theorem levels_mem {ls : Letters} {gs : List (Kd × List Nat)} (wg : WfG ls.length gs) {x : Nat} : x ∈ (levelsOf ls gs).flatten ↔ x < ls.length := by
  rw [(levels_perm ls gs).mem_iff]
  exact (wg.perm.mem_iff).trans List.mem_range
theorem group_count (ls : Letters) (kd : Kd) (told : List Nat) : (groupLevels ls kd told).length ≤ told.length + 1 := by
  cases kd with
  | any => show 1 ≤ _; omega
  | row => show (told.map _).length ≤ _; rw [List.length_map]; omega
  | come =>
    show ((sortP (told.map fun a => (lateOf ls a, a))).map fun p => [p.2]).length ≤ _
    rw [List.length_map, (sortP_perm _).length_eq, List.length_map]; omega
theorem levels_count (ls : Letters) : ∀ gs : List (Kd × List Nat), (levelsOf ls gs).length ≤ (toldOf gs).flatten.length + gs.length
  | [] => Nat.le_refl _
  | g :: r => by
    have ih := levels_count ls r
    have h := group_count ls g.1 g.2
    unfold levelsOf toldOf at *
    rw [List.map_cons, List.flatten_cons, List.length_append, List.map_cons, List.flatten_cons, List.length_append, List.length_cons]
    omega
theorem count_groups {m : Nat} {gs : List (Kd × List Nat)} (wg : WfG m gs) : gs.length ≤ m := by
  have h1 := groups_len wg
  have h2 : ∀ l : List (Kd × List Nat), (∀ g ∈ l, g.2 ≠ []) → l.length ≤ (toldOf l).flatten.length := by
    intro l
    induction l with
    | nil => intro _; exact Nat.le_refl _
    | cons g r ih =>
      intro h
      have q := ih fun x hx => h x (by simp [hx])
      have p : 0 < g.2.length := List.length_pos_iff.mpr (h g (by simp))
      unfold toldOf at q ⊢
      rw [List.map_cons, List.flatten_cons, List.length_append, List.length_cons]
      omega
  have := h2 gs wg.some
  omega
theorem levels_le {m : Nat} {ls : Letters} {gs : List (Kd × List Nat)} (wg : WfG m gs) (i : Nat) : (levelsOf ls (gs.take i)).length ≤ 2 * m := by
  have h1 := levels_count ls (gs.take i)
  have h2 := groups_len wg
  have h3 := count_groups wg
  have e : toldOf (gs.take i) = (toldOf gs).take i := by unfold toldOf; rw [List.map_take]
  rw [e, List.length_take] at h1
  have h4 : ((toldOf gs).take i).flatten.length ≤ (toldOf gs).flatten.length := by
    have e2 : (toldOf gs).flatten = ((toldOf gs).take i).flatten ++ ((toldOf gs).drop i).flatten := by rw [← List.flatten_append, List.take_append_drop]
    rw [e2, List.length_append]
    omega
  omega
section
variable {P : Program} {w : World} {K : PySem.W.Frag} {mg : Str → Option Value} {base : Heap} {Cm Cw ak bk : Addr} {σ : L2.St} {F H : Hp} {te : TE}
def sp_Wish_init (Cw : Addr) : Sp := fun vs H Q _ => ∃ (F H1 : Hp) (x dx : Addr) (v v2 : V) (ls : Letters) (gs : List (Kd × List Nat)), vs = [.ref x, v, v2] ∧ H = upd (upd H1 dx (.own x)) x (.ins Cw dx []) ∧ H1 x = none ∧ H1 dx = none ∧ dx ≠ x ∧ Same F H1 ∧
  rLet.r F v ls ∧ rGroups.r F v2 gs ∧ WfG ls.length gs ∧ ls.length ≤ 24 ∧ ∀ F' H', Up F H1 F' H' → (rWish Cw).r F' (.ref x) (levelsOf ls gs) → Q .non H'
theorem ok_Wish_init (X : Tx K mg Cm Cw ak bk) (d : Di K Cw "Wish.__init__" s_Wish___init__) (h_look_at_groups : HasF P w K mg base "look_at_groups" 1 ["count", "groups"] sp_look_at_groups) (h_group_levels : HasF P w K mg base "group_levels" 1 ["letters", "kind", "told"] sp_group_levels) :
    HasI P w K mg base Cw 2 ["self", "letters", "groups"] (sp_Wish_init Cw) := by
  refine ok_init d sc_Wish___init__ (fun _ _ _ _ _ _ us hl => match us, hl with | [_, _, _], _ => rfl) (fun vs H Q E h => ?_) fun f cdv A0 outer s H0 E hr => ⟨_, (pss_cons (ps_expr (pe_hf h_look_at_groups (hr.mono (by decide)) (by rfl) (pa_cons (pe_callB (r := rLenS K) call_len_seq (by rfl) X.z_len (by decide +kernel) (pa_cons (pv 1) pa_nil)) (pa_cons (pv 2) pa_nil))))
      (pss_cons (ps_fld (pv 0) (pe_lc (own := [("kind", 3), ("told", 4)]) (g := (gTup K 2 (gCons (gName 3) (gCons (gName 4) gNil)))) (tt := tYes) rfl sc_Wish___init__.nd (pi_list (pv 2)) (blkOk_by (N := N_Wish___init__) (sc := defScope s_Wish___init__) (by decide +kernel)) (fun _ _ _ _ _ => (pg_tup rfl (pgs_cons (pg_name (i := 3) sc_Wish___init__.nd rfl (Or.inl rfl)) (pgs_cons (pg_name (i := 4) sc_Wish___init__.nd rfl (Or.inl rfl)) pgs_nil)))) (fun _ _ _ _ _ => pts_nil) (fun _ _ _ _ _ => (pe_tup (pa_cons (pv 3) (pa_cons (pe_callTy (r := rListS K) call_list_of (by rfl) X.z_list (by decide +kernel) (pa_cons (pv 4) pa_nil)) pa_nil))))) rfl)
      (pss_cons (ps_fld (pv 0) (pe_lst pa_nil) rfl)
      (pss_cons (ps_for PassesOwn.never rfl (pi_list (pv 2)) (pg_tup rfl (pgs_cons (pg_name (i := 3) sc_Wish___init__.nd rfl (Or.inl rfl)) (pgs_cons (pg_name (i := 4) sc_Wish___init__.nd rfl (Or.inl rfl)) pgs_nil)))
      (pss_one (ps_expr (pe_bm PySem.F.plainAttrs_list PySem.F.slot_list_extend PySem.F.type_list_extend mt_extend (pe_fld (pv 0) rfl) (pa_cons (pe_hf h_group_levels (hr.mono (by decide)) (by rfl) (pa_cons (pv 1) (pa_cons (pv 3) (pa_cons (pv 4) pa_nil)))) pa_nil)))))
      (pss_cons (ps_fld (pv 0) pe_dnewK rfl)
      (pss_one (ps_for PassesOwn.never rfl (pi_enum (by rfl) X.z_enumerate (pa_cons (pe_fld (pv 0) rfl) pa_nil)) (pg_tup rfl (pgs_cons (pg_name (i := 5) sc_Wish___init__.nd rfl (Or.inl rfl)) (pgs_cons (pg_name (i := 6) sc_Wish___init__.nd rfl (Or.inl rfl)) pgs_nil)))
      (pss_one (ps_for PassesOwn.never rfl (pi_list (pv 6)) (pg_name (i := 7) sc_Wish___init__.nd rfl (Or.inl rfl))
      (pss_one (ps_dput (hu_of hr) (pe_fld (pv 0) rfl) (pv 7) (pv 5) rfl))))))))))), ?_⟩
  · obtain ⟨_, _, _, _, _, _, _, _, rfl, _⟩ := h
    rfl
  · rintro vs H Q ⟨F, H1, x, dx, v, v2, ls, gs, rfl, rfl, nx, ndx, _, eF, rv, rg, wg, hm, k⟩
    obtain ⟨U, mx⟩ := made_up (C := Cw) eF nx ndx
    have hgc := count_groups wg
    have nd := levels_nodup wg
    -- look_at_groups(len(letters), groups)
    refine q_drop (ev_call (ls.length, gs) (ea_cons (ev_lenL (R := rLetter) (ev_var rfl rv)) (ea_cons (ev_var rfl rg) ea_nil)) ⟨wg, hm⟩) U.s fun _ F2 H2 u2 _ => ?_
    have U2 := U.trans u2
    replace rv := rLet.mono u2.f rv
    replace rg := rGroups.mono u2.f rg
    replace mx := mx.up u2
    -- self.groups = [(kind, list(told)) for kind, told in groups]
    refine q_fld (R := rGroups) (y := gs.map fun p => (p.1, p.2)) U2 mx rfl X.k_Wish X.a_groups (by decide) (ev_lcT2 (R := rKd) (S := rRow) (i := 3) (j := 4) (vs := [3, 4]) (f := fun p => (p.1, p.2)) (ei_list (R := rTup2 rKd rRow) (ev_var rfl rg)) (by omega) (fun _ _ => rfl) fun p a b F3 hp e3 r3 r4 => ev_tup2 (R := rKd) (S := rRow) (ev_var rfl r3) (ev_listOf (R := rNat) (ev_var rfl r4))) fun vg F3 H3 u3 _ U3 mx3 => ?_
    replace rv := rLet.mono u3.f rv
    replace rg := rGroups.mono u3.f rg
    have mx3' : Mut H1 F3 (upd H3 x (.ins Cw dx [("groups", vg)])) x (.ins Cw dx [("groups", vg)]) := mx3
    -- self.kept_levels = []
    refine ⟨Nat.zero_le _, fun l hl => ?_⟩
    have hlx : l ≠ x := (ne_of_none mx3.h hl).symm
    have ul := Up.newM (o := .lst []) U3.s hl
    have Ul := U3.trans ul
    have mxl := mx3'.up ul
    have mll : ML H1 F3 (upd (upd H3 x (.ins Cw dx [("groups", vg)])) l (.lst [])) l rRow [] := ⟨[], ⟨U3.h.free hl, U3.s.free hl, upd_same⟩, .nil⟩
    refine ⟨_, rfl, x, Cw, dx, _, rfl, mxl.h, X.k_Wish, X.a_levels, (by show 1 < 1000; decide), ?_⟩
    have U4 := Ul.put (.ins Cw dx [("groups", vg), ("kept_levels", .ref l)]) mxl
    have mx4 := mxl.put (.ins Cw dx [("groups", vg), ("kept_levels", .ref l)])
    have ml4 := mll.side (o := .ins Cw dx [("groups", vg), ("kept_levels", .ref l)]) hlx
    -- for kind, told in groups: self.kept_levels.extend(group_levels(letters, kind, told))
    refine q_for (R := rTup2 rKd rRow) (xs := gs) (ei_list (R := rTup2 rKd rRow) (ev_var rfl rg)) U4.s (fun i σ F' H' => Up F H1 F' H' ∧ Same F3 F' ∧ Mut H1 F' H' x (.ins Cw dx [("groups", vg), ("kept_levels", .ref l)]) ∧ ML H1 F' H' l rRow (levelsOf ls (gs.take i)) ∧
        ∃ y z, σ = [some (.ref x), some v, some v2, y, z, none, none, none])
      (fun F5 H5 u5 => ⟨U4.trans u5, u5.f, mx4.up u5, ml4.up u5, none, none, rfl⟩) (fun _ _ _ _ p => p.1.s) ?_ ?_
    · rintro i g σ F5 H5 v5 hg ⟨U5, f5, mx5, ml5, y, z, rfl⟩ rv5
      obtain ⟨x', y', h1, h2, h3⟩ := gt_tup2 (K := K) (i := 3) (j := 4) (σ := [some (.ref x), some v, some v2, y, z, none, none, none]) rv5
      refine h3 H5 U5.s _ ?_
      have hti := told_at hg
      have hgl := flat_take_len hti
      have hgn := groups_len wg
      have hlt : ∀ y ∈ g.2, y < ls.length := fun y hy => groups_lt wg (List.mem_flatten.mpr ⟨g.2, List.mem_of_getElem? hti, hy⟩)
      have hle := levels_le (ls := ls) wg (i + 1)
      rw [levels_take ls hg, List.length_append] at hle
      refine s_extB (ys := groupLevels ls g.1 g.2) U5 ml5 (hd_fld mx5.h rfl X.k_Wish X.a_levels rfl) (ev_call (ls, g.1, g.2) (ea_cons (ev_var rfl (rLet.mono f5 rv)) (ea_cons (ev_var rfl h1) (ea_cons (ev_var rfl h2) ea_nil))) ⟨hlt, by dsimp only; omega⟩) (by omega) fun F6 H6 ws u6 U6 ml6 => ?_
      refine ⟨F6, u6.f, U6, f5.trans u6.f, ?_, ?_, _, _, rfl⟩
      · exact (mx5.up u6).side (Ne.symm hlx)
      · rw [levels_take ls hg]
        exact ml6
    · rintro σ F5 H5 ⟨U5, f5, mx5, ml5, y, z, rfl⟩
      rw [List.take_length] at ml5
      -- self.numbers = {}
      intro dd hdd
      have hdx : dd ≠ x := fun e => by rw [e] at hdd; rw [mx5.h] at hdd; cases hdd
      have ud := Up.newM (o := .dK []) U5.s hdd
      have Ud := U5.trans ud
      have mxd := mx5.up ud
      have hdl : dd ≠ l := (ml5.ne hdd).symm
      have mdd : Mut H1 F5 (upd H5 dd (.dK [])) dd (.dK []) := ⟨U5.h.free hdd, U5.s.free hdd, upd_same⟩
      refine ⟨_, rfl, x, Cw, dx, _, rfl, mxd.h, X.k_Wish, X.a_numbers, (by show 2 < 1000; decide), ?_⟩
      have U6 := Ud.put (.ins Cw dx [("groups", vg), ("kept_levels", .ref l), ("numbers", .ref dd)]) mxd
      have mx6 := mxd.put (.ins Cw dx [("groups", vg), ("kept_levels", .ref l), ("numbers", .ref dd)])
      have ml6 := (ml5.up ud).side (o := .ins Cw dx [("groups", vg), ("kept_levels", .ref l), ("numbers", .ref dd)]) hlx
      have md6 := mdd.side (o' := .ins Cw dx [("groups", vg), ("kept_levels", .ref l), ("numbers", .ref dd)]) hdx
      obtain ⟨F7, f7, U7, r7, n7⟩ := ml6.freeze U6
      have mx7 := mx6.know (F' := F7) (n7 x (Ne.symm hlx) mx6.f)
      have md7 := md6.know (F' := F7) (n7 dd hdl md6.f)
      generalize hll : levelsOf ls gs = ll at *
      have hcnt := levels_le (ls := ls) wg gs.length
      rw [List.take_length, hll] at hcnt
      -- for number, level in enumerate(self.kept_levels): for letter in level: self.numbers[letter] = number
      refine s_forZ (ei_enum (R := rRow) (ea_cons (ev_fldM mx7.h rfl X.k_Wish X.a_levels rfl r7) ea_nil)) U7.s (fun i σ F' H' => Up F H1 F' H' ∧ Same F7 F' ∧ Mut H1 F' H' x (.ins Cw dx [("groups", vg), ("kept_levels", .ref l), ("numbers", .ref dd)]) ∧
          Mut H1 F' H' dd (.dK (dOf (fun a => .int (levOf ll a : Int)) ((ll.take i).flatten))) ∧ ∃ x3 x4 x5 x6 x7, σ = [some (.ref x), some v, some v2, x3, x4, x5, x6, x7])
        (fun F8 H8 u8 => ⟨U7.trans u8, u8.f, mx7.up u8, md7.up u8, y, z, none, none, none, rfl⟩) (fun _ _ _ _ p => p.1.s) ?_ ?_
      · rintro i nl σ F8 H8 F9 H9 v9 hnl ⟨U8, f8, mx8, md8, x3, x4, x5, x6, x7, rfl⟩ u9 rv9
        obtain ⟨x', y', h1, h2, h3⟩ := gt_tup2 (K := K) (i := 5) (j := 6) (σ := [some (.ref x), some v, some v2, x3, x4, x5, x6, x7]) rv9
        refine h3 H9 u9.s _ ?_
        obtain ⟨g1, g2⟩ := zip_get hnl
        obtain ⟨e1, _⟩ := range_get g1
        have U9 := U8.trans u9
        have mx9 := mx8.up u9
        have md9 := md8.up u9
        have hfl := flat_take_len g2
        have hfn : ll.flatten.length = ls.length := by
          rw [← hll, (levels_perm ls gs).length_eq]
          exact groups_len wg
        have h1' : x' = .int (i : Int) := by rw [← e1]; exact h1
        subst h1'
        refine s_for (ei_list (R := rNat) (ev_var rfl h2)) U9.s (fun j σ F' H' => Up F H1 F' H' ∧ Same F9 F' ∧ Mut H1 F' H' x (.ins Cw dx [("groups", vg), ("kept_levels", .ref l), ("numbers", .ref dd)]) ∧
            Mut H1 F' H' dd (.dK (dOf (fun a => .int (levOf ll a : Int)) ((ll.take i).flatten ++ nl.2.take j))) ∧ ∃ x7, σ = [some (.ref x), some v, some v2, x3, x4, some (.int (i : Int)), some y', x7])
          (fun F10 H10 u10 => ⟨U9.trans u10, u10.f, mx9.up u10, by rw [List.take_zero, List.append_nil]; exact md9.up u10, x7, rfl⟩) (fun _ _ _ _ p => p.1.s) ?_ ?_
        · rintro j a σ F10 H10 v10 ha ⟨U10, f10, mx10, md10, x7, rfl⟩ rv10
          have hnew := flat_at nd g2 ha
          have hlev := levOf_at nd g2 (List.mem_of_getElem? ha)
          refine s_dput (x := a) (S := rInt) (y := (i : Int)) U10 md10 (hd_fld mx10.h rfl X.k_Wish X.a_numbers rfl) ?_ (ev_var (R := rNat) rfl rv10) (ev_var (R := rInt) rfl rfl) fun v11 F11 H11 u11 r11 m11 U11 => ?_
          · unfold dOf
            rw [List.length_map, List.length_append, List.length_take]
            omega
          · have r11' : v11 = .int (i : Int) := r11
            subst r11'
            refine ⟨F11, u11.f, U11, f10.trans u11.f, (mx10.up u11).side (Ne.symm hdx), ?_, _, rfl⟩
            rw [take_snoc ha, ← List.append_assoc, ← putK_new (fun a => V.int (levOf ll a : Int)) hnew, hlev]
            exact m11.put _
        · rintro σ F10 H10 ⟨U10, f10, mx10, md10, x7, rfl⟩
          refine ⟨F10, u9.f.trans f10, U10, f8.trans (u9.f.trans f10), mx10, ?_, _, _, _, _, _, rfl⟩
          rw [take_flat g2]
          rw [List.take_length] at md10
          exact md10
      · rintro σ F8 H8 ⟨U8, f8, mx8, md8, x3, x4, x5, x6, x7, rfl⟩
        rw [List.length_zip, List.length_range, Nat.min_self, List.take_length] at md8
        have U9 := U8.freeze md8
        have mx9 := mx8.know (F' := upd F8 dd (.dK (dOf (fun a => .int (levOf ll a : Int)) ll.flatten))) (by rw [upd_ne (Ne.symm hdx)]; exact mx8.f)
        have U10 := U9.freeze mx9
        refine k _ _ U10 ⟨x, dx, vg, .ref l, dd, _, rfl, upd_same, rLevels.mono (f8.trans (md8.same.trans mx9.same)) r7, by rw [upd_ne hdx]; exact upd_same, fun a ha => valV_in _ ha⟩
theorem ev_Wish {E : XK} {tr : TA} {ls : Letters} {gs : List (Kd × List Nat)} (wg : WfG ls.length gs) (hm : ls.length ≤ 24) (h : EvA tr σ F H (apCons rLet ls (apCons rGroups gs apNil))) : Ev (tMake Cw (sp_Wish_init Cw) [] E tr) σ F H (rWish Cw) (levelsOf ls gs) := fun H1 a b Q q =>
  h H1 a b _ fun vs F2 H2 u2 r2 x dx nx ndx hne => by
    obtain ⟨v, v2, rfl, r3, r4⟩ := ap2 r2
    exact ⟨F2, H2, x, dx, v, v2, ls, gs, rfl, rfl, nx, ndx, hne, u2.s, r3, r4, wg, hm, fun F3 H3 u3 r4 => ⟨rfl, q _ F3 H3 (u2.trans u3) r4⟩⟩
/-! the methods -/
variable {ll : List (List Nat)}
theorem wish_ins {F : Hp} {v : V} {m : Str} (h1 : ¬ m = "groups") (h2 : ¬ m = "kept_levels") (h3 : ¬ m = "numbers") (h : (rWish Cw).r F v ll) : ∃ a dx fs, v = .ref a ∧ F a = some (.ins Cw dx fs) ∧ fs.lookup m = none := by
  obtain ⟨a, dx, g, l, d, kvs, e1, e2, _⟩ := h
  refine ⟨a, dx, _, e1, e2, ?_⟩
  rw [List.lookup_cons, show (m == ("groups" : Str)) = false from beq_eq_false_iff_ne.mpr h1, List.lookup_cons, show (m == ("kept_levels" : Str)) = false from beq_eq_false_iff_ne.mpr h2, List.lookup_cons, show (m == ("numbers" : Str)) = false from beq_eq_false_iff_ne.mpr h3]
  rfl
theorem ev_wlevels (X : Tx K mg Cm Cw ak bk) (h : Ev te σ F H (rWish Cw) ll) : Ev (tFld K te "kept_levels") σ F H rLevels ll := fun H1 a b Q q =>
  h H1 a b _ fun v F2 H2 u2 r2 => by
    obtain ⟨o, dx, g, l, d, kvs, rfl, h2, h3, _⟩ := r2
    exact ⟨o, Cw, dx, _, l, rfl, u2.s _ _ h2, X.k_Wish, X.a_levels, rfl, q l F2 H2 u2 h3⟩
theorem ev_wnum (X : Tx K mg Cm Cw ak bk) {ti : TE} {a : Nat} (h : Ev te σ F H (rWish Cw) ll) (hi : Ev ti σ F H rNat a) (ha : a ∈ ll.flatten) : Ev (tDGet (tFld K te "numbers") ti) σ F H rInt (levOf ll a : Int) := fun H1 e1 e2 Q q =>
  h H1 e1 e2 _ fun v F2 H2 u2 r2 => by
    obtain ⟨o, dx, g, l, d, kvs, rfl, h2, h3, h4, h5⟩ := r2
    refine ⟨o, Cw, dx, _, .ref d, rfl, u2.s _ _ h2, X.k_Wish, X.a_numbers, rfl, hi H2 (e1.trans u2.h) (e2.trans u2.h) _ fun w F3 H3 u3 r3 => ?_⟩
    have r3' : w = .int (a : Int) := r3
    subst r3'
    refine ⟨d, .int (levOf ll a : Int), rfl, ?_, q _ _ H3 (u2.uni u3) rfl⟩
    rw [← h5 a ha]
    exact DGet.k (k := Sum.inl (a : Int)) (u3.h _ _ (u2.s _ _ h4))
def sp_wlevels (Cw : Addr) : Sp := SpF (ι := List (List Nat)) (fun i => i.length ≤ 100) (fun i => apCons (rWish Cw) i apNil) (fun _ => rLevels) (fun i => i)
theorem ok_wlevels (X : Tx K mg Cm Cw ak bk) (d : Dm K Cw "levels" "Wish.levels" s_Wish_levels) : HasM P w K mg base Cw "levels" 1 ["self"] (sp_wlevels Cw) := by
  refine ok_meth d sc_Wish_levels (fun _ _ _ _ _ _ us hl => match us, hl with | [_], _ => rfl) (fun i F vs h => ?_) fun f cdv A0 outer s H0 E hr => ⟨_, (pss_one (ps_ret (pe_lc (own := [("level", 1)]) (g := (gName 1)) (tt := tYes) rfl sc_Wish_levels.nd (pi_list (pe_fld (pv 0) rfl)) (blkOk_by (N := N_Wish_levels) (sc := defScope s_Wish_levels) (by decide +kernel)) (fun _ _ _ _ _ => (pg_name (i := 1) sc_Wish_levels.nd rfl (Or.inl rfl))) (fun _ _ _ _ _ => pts_nil) (fun _ _ _ _ _ => (pe_callTy (r := rListS K) call_list_of (by rfl) X.z_list (by decide +kernel) (pa_cons (pv 1) pa_nil)))))), ?_⟩
  · obtain ⟨_, rfl, _⟩ := ap1 h
    rfl
  · rintro ll F H vs hp eF h Q k
    obtain ⟨a, rfl, ra⟩ := ap1 h
    refine s_ret (R := rLevels) ((ev_lcN (R := rRow) (S := rRow) (j := 1) (vs := [1]) (f := fun l => l) (ei_list (R := rRow) (ev_wlevels X (ev_var rfl ra))) (by omega) (fun _ => rfl) fun x v3 F3 hx e3 r3 => ev_listOf (R := rNat) (ev_var rfl r3)).is (List.map_id' ll)) eF fun v F2 H2 u r => k v F2 H2 u r
def sp_behind (Cw : Addr) : Sp := SpF (ι := List (List Nat) × Nat × Nat) (fun i => i.2.1 ∈ i.1.flatten ∧ i.2.2 ∈ i.1.flatten) (fun i => apCons (rWish Cw) i.1 (apCons rNat i.2.1 (apCons rNat i.2.2 apNil))) (fun _ => rBl) (fun i => decide (levOf i.1 i.2.2 < levOf i.1 i.2.1))
theorem ok_behind (X : Tx K mg Cm Cw ak bk) (d : Dm K Cw "behind" "Wish.behind" s_Wish_behind) : HasM P w K mg base Cw "behind" 1 ["self", "one", "other"] (sp_behind Cw) := by
  refine ok_meth d sc_Wish_behind (fun _ _ _ _ _ _ us hl => match us, hl with | [_, _, _], _ => rfl) (fun i F vs h => ?_) fun f cdv A0 outer s H0 E hr => ⟨_, (pss_one (ps_ret (pe_cmpR op_gt (pe_dget (hu_of hr) (pe_fld (pv 0) rfl) (pv 1) (fun _ _ => rfl)) (pe_dget (hu_of hr) (pe_fld (pv 0) rfl) (pv 2) (fun _ _ => rfl)) (nomark _)))), ?_⟩
  · obtain ⟨_, _, _, rfl, _⟩ := ap3 h
    rfl
  · rintro ⟨ll, one, other⟩ F H vs hp eF h Q k
    dsimp only at hp h k
    obtain ⟨a, b, c, rfl, ra, rb, rc⟩ := ap3 h
    exact s_ret ((ev_gt (ev_wnum X (ev_var rfl ra) (ev_var (R := rNat) rfl rb) hp.1) (ev_wnum X (ev_var rfl ra) (ev_var (R := rNat) rfl rc) hp.2)).is (by rw [decide_eq_decide]; omega)) eF fun v F2 H2 u r => k v F2 H2 u r
theorem ev_behind {E : XK} {ta tb tc : TE} {one other : Nat} (h : Ev ta σ F H (rWish Cw) ll) (hb : Ev tb σ F H rNat one) (hc : Ev tc σ F H rNat other) (h1 : one ∈ ll.flatten) (h2 : other ∈ ll.flatten) :
    Ev (tMeth Cw "behind" (sp_behind Cw) [] E ta (tCons tb (tCons tc tNil))) σ F H rBl (decide (levOf ll other < levOf ll one)) :=
  ev_meth (ll, one, other) h (fun _ _ r => wish_ins (by decide +kernel) (by decide +kernel) (by decide +kernel) r) (ea_cons hb (ea_cons hc ea_nil)) (fun _ _ _ r1 r2 => ⟨_, _, rfl, r1, r2⟩) ⟨h1, h2⟩
def sp_breach (Cw : Addr) : Sp := SpF (ι := List (List Nat) × List Nat) (fun i => (∀ x ∈ i.2, x ∈ i.1.flatten) ∧ i.2.length ≤ 100) (fun i => apCons (rWish Cw) i.1 (apCons rRow i.2 apNil)) (fun _ => rOpt (rTup2 rNat rNat)) (fun i => breachOf (levOf i.1) i.2)
theorem find_range {p : Nat → Bool} {n i : Nat} (hi : i < n) (hp : p i = true) (h : ∀ j, j < i → p j = false) : (List.range n).find? p = some i := by
  rw [List.find?_range_eq_some]
  exact ⟨hp, List.mem_range.mpr hi, fun j hj => by rw [h j hj]; rfl⟩
theorem ok_breach (X : Tx K mg Cm Cw ak bk) (d : Dm K Cw "breach" "Wish.breach" s_Wish_breach) (h_Wish_behind : HasM P w K mg base Cw "behind" 1 ["self", "one", "other"] (sp_behind Cw)) : HasM P w K mg base Cw "breach" 2 ["self", "row"] (sp_breach Cw) := by
  refine ok_meth d sc_Wish_breach (fun _ _ _ _ _ _ us hl => match us, hl with | [_, _], _ => rfl) (fun i F vs h => ?_) fun f cdv A0 outer s H0 E hr => ⟨_, (pss_cons (ps_for PassesOwn.never rfl (pi_range2 (by rfl) X.z_range (pa_cons pe_int (pa_cons (pe_callB (r := rLenS K) call_len_seq (by rfl) X.z_len (by decide +kernel) (pa_cons (pv 1) pa_nil)) pa_nil))) (pg_name (i := 2) sc_Wish_breach.nd rfl (Or.inl rfl))
      (pss_one (ps_if (pt_val (pe_hm (pv 0) X.k_Wish h_Wish_behind (hr.mono (by decide)) (pa_cons (pe_ix (r := rIxL K) ix_list (pv 1) (pe_op op_sub (pv 2) pe_int) (fun _ _ => rfl)) (pa_cons (pe_ix (r := rIxL K) ix_list (pv 1) (pv 2) (fun _ _ => rfl)) pa_nil)))) (pss_one (ps_ret (pe_tup (pa_cons (pe_ix (r := rIxL K) ix_list (pv 1) (pe_op op_sub (pv 2) pe_int) (fun _ _ => rfl)) (pa_cons (pe_ix (r := rIxL K) ix_list (pv 1) (pv 2) (fun _ _ => rfl)) pa_nil))))) pss_nil)))
      (pss_one (ps_ret pe_non))), ?_⟩
  · obtain ⟨_, _, rfl, _⟩ := ap2 h
    rfl
  · rintro ⟨ll, row⟩ F H vs hp eF h Q k
    dsimp only at hp h k
    obtain ⟨hin, hlen⟩ := hp
    obtain ⟨a, b, rfl, ra, rb⟩ := ap2 h
    refine q_for (ei_rng2 (a := 1) (n := row.length) (ea_cons ev_int (ea_cons (ev_lenL (R := rNat) (ev_var rfl rb)) ea_nil)) ⟨by omega, by omega⟩) eF
      (fun i σ F' H' => Up F H F' H' ∧ (∀ j, j < i → decide (levOf ll (row.getD (j + 1) 0) < levOf ll (row.getD j 0)) = false) ∧ ∃ x, σ = [some a, some b, x]) (fun F2 H2 u2 => ⟨u2, fun j hj => by omega, none, rfl⟩) (fun _ _ _ _ p => p.1.s) ?_ ?_
    · rintro i n σ F2 H2 v hn ⟨U2, hno, x, rfl⟩ rv
      rw [List.getElem?_map] at hn
      cases e : (List.range (row.length - 1))[i]? with
      | none => rw [e] at hn; cases hn
      | some i' =>
        rw [e] at hn
        obtain ⟨rfl, hlt⟩ := range_get e
        have en : 1 + i' = n := Option.some.inj hn
        subst en
        have ra2 := (rWish Cw).mono U2.f ra
        have rb2 := rRow.mono U2.f rb
        have at1 : row[(((1 + i' : Nat) : Int) - 1).toNat]? = some (row.getD i' 0) := by
          rw [show (((1 + i' : Nat) : Int) - 1).toNat = i' by omega, List.getD_eq_getElem?_getD, List.getElem?_eq_getElem (by omega : i' < row.length)]; rfl
        have at2 : row[((1 + i' : Nat) : Int).toNat]? = some (row.getD (i' + 1) 0) := by
          rw [show ((1 + i' : Nat) : Int).toNat = i' + 1 by omega, List.getD_eq_getElem?_getD, List.getElem?_eq_getElem (by omega : i' + 1 < row.length)]; rfl
        have e1 : ∀ {F3 H3 : Hp}, Same F2 F3 → Ev (tOp (rIxL K) (tVar 1) (tOp (rI0 fun i j => .int (i - j)) (tVar 2) (tC (.int 1)))) [some a, some b, some v] F3 H3 rNat (row.getD i' 0) := fun f3 =>
          ev_ixL (R := rNat) (ev_var rfl (rRow.mono f3 rb2)) (ev_sub (Ev.ofNat (ev_var (R := rNat) rfl (rNat.mono f3 rv))) ev_int) (by omega) at1
        have e2 : ∀ {F3 H3 : Hp}, Same F2 F3 → Ev (tOp (rIxL K) (tVar 1) (tVar 2)) [some a, some b, some v] F3 H3 rNat (row.getD (i' + 1) 0) := fun f3 =>
          ev_ixL (R := rNat) (ev_var rfl (rRow.mono f3 rb2)) (Ev.ofNat (ev_var (R := rNat) rfl (rNat.mono f3 rv))) (by omega) at2
        have m1 : row.getD i' 0 ∈ row := by
          rw [List.getD_eq_getElem?_getD, List.getElem?_eq_getElem (by omega : i' < row.length)]; exact List.getElem_mem _
        have m2 : row.getD (i' + 1) 0 ∈ row := by
          rw [List.getD_eq_getElem?_getD, List.getElem?_eq_getElem (by omega : i' + 1 < row.length)]; exact List.getElem_mem _
        refine s_if (eb_B (ev_behind (ev_var rfl ra2) (e1 (Same.refl _)) (e2 (Same.refl _)) (hin _ m1) (hin _ m2))) U2.s (fun hb H3 u3 => ?_) (fun hb H3 u3 => ?_)
        · refine s_ret (R := rOpt (rTup2 rNat rNat)) (x := some (row.getD i' 0, row.getD (i' + 1) 0)) (Ev.some (ev_tup2 (e1 (Same.refl _)) (e2 (Same.refl _))) fun _ _ q => rTup2_not q) u3.s fun v4 F4 H4 u4 r4 => k v4 F4 H4 ((U2.trans u3).trans u4) ?_
          unfold breachOf
          rw [find_range hlt hb hno]
          exact r4
        · refine ⟨F2, Same.refl _, U2.trans u3, fun j hj => ?_, _, rfl⟩
          by_cases ej : j = i'
          · subst ej; exact hb
          · exact hno j (by omega)
    · rintro σ F2 H2 ⟨U2, hno, x, rfl⟩
      rw [List.length_map, List.length_range] at hno
      refine s_ret (R := rOpt (rTup2 rNat rNat)) (x := none) ev_non U2.s fun v4 F4 H4 u4 r4 => k v4 F4 H4 (U2.trans u4) ?_
      unfold breachOf
      rw [List.find?_eq_none.mpr fun j hj => by rw [hno j (List.mem_range.mp hj)]; decide]
      exact r4
def sp_kept_by (Cw : Addr) : Sp := SpF (ι := List (List Nat) × List Nat) (fun i => (∀ x ∈ i.2, x ∈ i.1.flatten) ∧ i.2.length ≤ 100) (fun i => apCons (rWish Cw) i.1 (apCons rRow i.2 apNil)) (fun _ => rBl) (fun i => keptOf (levOf i.1) i.2)
theorem ok_kept_by (X : Tx K mg Cm Cw ak bk) (d : Dm K Cw "kept_by" "Wish.kept_by" s_Wish_kept_by) (h_Wish_breach : HasM P w K mg base Cw "breach" 2 ["self", "row"] (sp_breach Cw)) : HasM P w K mg base Cw "kept_by" 3 ["self", "row"] (sp_kept_by Cw) := by
  refine ok_meth d sc_Wish_kept_by (fun _ _ _ _ _ _ us hl => match us, hl with | [_, _], _ => rfl) (fun i F vs h => ?_) fun f cdv A0 outer s H0 E hr => ⟨_, (pss_one (ps_ret (pe_cmpR op_isN (pe_hm (pv 0) X.k_Wish h_Wish_breach (hr.mono (by decide)) (pa_cons (pv 1) pa_nil)) pe_non (nomark _)))), ?_⟩
  · obtain ⟨_, _, rfl, _⟩ := ap2 h
    rfl
  · rintro ⟨ll, row⟩ F H vs hp eF h Q k
    dsimp only at hp h k
    obtain ⟨a, b, rfl, ra, rb⟩ := ap2 h
    exact s_ret (ev_isN (R := rTup2 rNat rNat) (ev_meth (ll, row) (ev_var (R := rWish Cw) rfl ra) (fun _ _ r => wish_ins (by decide +kernel) (by decide +kernel) (by decide +kernel) r) (ea_cons (ev_var (R := rRow) rfl rb) ea_nil) (fun _ _ _ r1 r2 => ⟨_, _, rfl, r1, r2⟩) hp)) eF fun v F2 H2 u r => k v F2 H2 u r
end
end PM
end

section
set_option Elab.async false
set_option linter.all false
set_option maxRecDepth 100000
set_option maxHeartbeats 2000000
/-! least places, chains -/
namespace PM
open PySem PySem.Spec PyProof.Rows L2
abbrev s_places_open : Stmt := top 34
abbrev N_places_open : List Str := ["mill", "letters", "letter", "size", "late", "found", "code", "word"]
theorem sc_places_open : FnScope N_places_open ["mill", "letters", "letter"] (defScope s_places_open) := ⟨rfl, rfl, rfl, by decide +kernel, rfl, by decide +kernel, by decide +kernel⟩
abbrev s_open_places : Stmt := top 35
abbrev N_open_places : List Str := ["mill", "letters", "letter"]
theorem sc_open_places : FnScope N_open_places ["mill", "letters", "letter"] (defScope s_open_places) := ⟨rfl, rfl, rfl, by decide +kernel, rfl, by decide +kernel, by decide +kernel⟩
abbrev s_next_place : Stmt := top 36
abbrev N_next_place : List Str := ["mill", "letters", "letter", "beyond", "place"]
theorem sc_next_place : FnScope N_next_place ["mill", "letters", "letter", "beyond"] (defScope s_next_place) := ⟨rfl, rfl, rfl, by decide +kernel, rfl, by decide +kernel, by decide +kernel⟩
abbrev s_chain_to : Stmt := top 37
abbrev N_chain_to : List Str := ["back", "letter", "chain"]
theorem sc_chain_to : FnScope N_chain_to ["back", "letter"] (defScope s_chain_to) := ⟨rfl, rfl, rfl, by decide +kernel, rfl, by decide +kernel, by decide +kernel⟩
abbrev s_chain_places : Stmt := top 40
abbrev N_chain_places : List Str := ["mill", "letters", "chain", "places", "beyond", "letter"]
theorem sc_chain_places : FnScope N_chain_places ["mill", "letters", "chain"] (defScope s_chain_places) := ⟨rfl, rfl, rfl, by decide +kernel, rfl, by decide +kernel, by decide +kernel⟩
abbrev s_bars : Stmt := top 41
abbrev N_bars : List Str := ["mill", "letters", "wish", "chain", "places", "ahead", "letter"]
theorem sc_bars : FnScope N_bars ["mill", "letters", "wish", "chain"] (defScope s_bars) := ⟨rfl, rfl, rfl, by decide +kernel, rfl, by decide +kernel, by decide +kernel⟩
abbrev s_does : Stmt := top 42
abbrev N_does : List Str := ["mill", "letters", "wish", "plan"]
theorem sc_does : FnScope N_does ["mill", "letters", "wish", "plan"] (defScope s_does) := ⟨rfl, rfl, rfl, by decide +kernel, rfl, by decide +kernel, by decide +kernel⟩
section
variable {α : Type} {K : PySem.W.Frag} {σ : L2.St} {F H F0 H0 : Hp} {te ta tb tv : TE} {R : Rep α} {D : Ends} {tz ts : TS} {tc : TT}
theorem q_while (Pv : Nat → L2.St → Hp → Hp → Prop) {m0 : Nat} (h0 : Pv m0 σ F H)
    (hs : ∀ m σ F H, Pv m σ F H → ∃ b, EvB tc σ F H b ∧ Same F H ∧ (b = true → ∀ H', Up F H F H' → ts { D with nx := fun σ' H' => ∃ m' F', m' < m ∧ Pv m' σ' F' H', ct := fun σ' H' => ∃ m' F', m' < m ∧ Pv m' σ' F' H', bk := tz D } σ H') ∧ (b = false → ∀ H', Up F H F H' → tz D σ H')) : tSeq (tWhile tc ts) tz D σ H := by
  refine ⟨fun m σ' H' => ∃ F', Pv m σ' F' H', ⟨m0, F, h0⟩, ?_⟩
  rintro m σ' H' ⟨F', p⟩
  obtain ⟨b, hb, e, h1, h2⟩ := hs m σ' F' H' p
  refine hb H' e (Same.refl _) _ fun H2 e2 => ?_
  cases b with
  | true => exact ⟨_, fun σ3 H3 q => by obtain ⟨m', F3, q1, q2⟩ := q; exact ⟨m', q1, F3, q2⟩, h1 rfl H2 (Up.real e e2)⟩
  | false => exact h2 rfl H2 (Up.real e e2)
/-- l[-1] -/
theorem ev_last {xs : List α} {y : α} (ha : Ev ta σ F H (rLst R) xs) (h : xs.getLast? = some y) : Ev (tOp (rIxL K) ta (tUn (rU fun i => .int (-i)) (tC (.int 1)))) σ F H R y :=
  ev_two ha (ev_neg ev_int) fun F1 H1 a b _ e1 _ ra rb Q q => by
    obtain ⟨p, vs, rfl, h2, h3⟩ := ra
    rw [List.getLast?_eq_getElem?] at h
    obtain ⟨v, h4, h5⟩ := h3.getR h
    refine ⟨p, vs, -1, v, rfl, rb, SqL.of (e1 _ _ h2), ?_, q v F1 H1 (Up.refl e1) h5⟩
    have hl := h3.length
    have hlt := (List.getElem?_eq_some_iff.mp h4).1
    unfold atI ixN
    rw [if_neg (by omega), if_pos (by omega)]
    show vs[(-1 + (vs.length : Int)).toNat]? = some v
    rw [show (-1 + (vs.length : Int)).toNat = xs.length - 1 by omega]
    exact h4
end
section
variable {P : Program} {w : World} {K : PySem.W.Frag} {mg : Str → Option Value} {base : Heap} {Cm Cw ak bk : Addr} {σ : L2.St} {F H : Hp} {te : TE}
abbrev iO := Passes' × Letters × Nat
structure PreO (i : iO) : Prop where
  wf : WfP i.1
  wl : WfL i.1 i.2.1
  lt : i.2.2 < i.2.1.length
abbrev aO (Cm : Addr) (i : iO) : Ap := apCons (rMill Cm) i.1 (apCons rLet i.2.1 (apCons rNat i.2.2 apNil))
def rPlaces : Rep (List (Int × Int)) := rLst rPlace
def sp_places_open (Cm : Addr) : Sp := SpF (ι := iO) PreO (aO Cm) (fun _ => rPlaces) (fun i => opensOf i.1 i.2.1 i.2.2)
theorem ok_places_open (X : Tx K mg Cm Cw ak bk) (d : Df K mg "places_open" s_places_open) (h_Mill_codes : HasM P w K mg base Cm "codes" 2 ["self"] (sp_codes Cm)) (h_code_word : HasF P w K mg base "code_word" 3 ["mill", "late", "code"] (sp_code_word Cm))
    (h_fits : HasF P w K mg base "fits" 4 ["mill", "late", "word", "size"] (sp_fits Cm)) (h_face : HasF P w K mg base "face" 4 ["mill", "late", "word"] (sp_face Cm)) : HasF P w K mg base "places_open" 5 ["mill", "letters", "letter"] (sp_places_open Cm) := by
  refine ok_def d sc_places_open (fun _ _ _ _ _ _ us hl => match us, hl with | [_, _, _], _ => rfl) (fun i F vs h => ?_) fun f cdv A0 outer s H0 E hr => ⟨_, (pss_cons (ps_asg (pe_ix (r := rIxL K) ix_list (pv 1) (pv 2) (fun _ _ => rfl)) (pg_tup rfl (pgs_cons (pg_name (i := 3) sc_places_open.nd rfl (Or.inl rfl)) (pgs_cons (pg_name (i := 4) sc_places_open.nd rfl (Or.inl rfl)) pgs_nil))))
      (pss_cons (ps_set (i := 5) sc_places_open.nd rfl (.inl rfl) (pe_lst pa_nil))
      (pss_cons (ps_for PassesOwn.never rfl (pi_range1 (by rfl) X.z_range (pa_cons (pe_hm0 (pv 0) X.k_Mill h_Mill_codes (hr.mono (by decide))) pa_nil)) (pg_name (i := 6) sc_places_open.nd rfl (Or.inl rfl))
      (pss_cons (ps_set (i := 7) sc_places_open.nd rfl (.inl rfl) (pe_hf h_code_word (hr.mono (by decide)) (by rfl) (pa_cons (pv 0) (pa_cons (pv 4) (pa_cons (pv 6) pa_nil)))))
      (pss_one (ps_if (PW.pt (pw_and (pt_cmpR op_notN (pv 7) pe_non (nomark _)) (pw_and1 (pt_val (pe_hf h_fits (hr.mono (by decide)) (by rfl) (pa_cons (pv 0) (pa_cons (pv 4) (pa_cons (pv 7) (pa_cons (pv 3) pa_nil))))))))) (pss_one (ps_expr (pe_bm PySem.F.plainAttrs_list PySem.F.slot_list_append PySem.F.type_list_append mt_append (pv 5) (pa_cons (pe_tup (pa_cons (pv 6) (pa_cons (pe_op op_mul (pe_hf h_face (hr.mono (by decide)) (by rfl) (pa_cons (pv 0) (pa_cons (pv 4) (pa_cons (pv 7) pa_nil)))) (pe_op op_add (pv 2) (pe_op op_mul (pe_callB (r := rLenS K) call_len_seq (by rfl) X.z_len (by decide +kernel) (pa_cons (pv 1) pa_nil)) (pv 4)))) pa_nil))) pa_nil)))) pss_nil))))
      (pss_one (ps_ret (pv 5)))))), ?_⟩
  · obtain ⟨_, _, _, rfl, _⟩ := ap3 h
    rfl
  · rintro ⟨ps, ls, n⟩ F H vs hp eF h Q k
    obtain ⟨wf, wl, hn⟩ := hp
    dsimp only [aO] at wf wl hn h k
    obtain ⟨a, b, c, rfl, ra, rb, rc⟩ := ap3 h
    have hm := wl.many
    have hc := wf.codes
    have hl := late_le wl hn
    have hpos : 0 ≤ codes ps := Int.le_of_lt (codesAhead_pos wf _)
    refine q_asg2 (R := rInt) (S := rNat) (p := (sizeOf' ls n, lateOf ls n)) (ev_ixL (R := rLetter) (ev_var rfl rb) (Ev.ofNat (ev_var rfl rc)) (by omega) (letter_at hn)) eF fun v3 v4 F1 H1 u1 r3 r4 => ?_
    refine q_newL rPlace u1 fun l H2 hl2 u2 U2 m2 => ?_
    replace ra := (rMill Cm).mono U2.f ra
    replace rb := rLet.mono U2.f rb
    have rc' : c = .int (n : Int) := rc
    subst rc'
    have r3' : v3 = .int (sizeOf' ls n) := r3
    have r4' : v4 = .int (lateOf ls n : Int) := r4
    subst r3'; subst r4'
    refine q_for (ei_rng1 (n := (codes ps).toNat) (ea_cons ((ev_codes wf (ev_var rfl ra)).is (Int.toNat_of_nonneg hpos).symm) ea_nil) (by omega)) U2.s
      (fun i σ F' H' => Up F H F' H' ∧ Same F1 F' ∧ ML H F' H' l rPlace ((List.range i).filterMap (openAt ps ls n)) ∧ ∃ x y, σ = [some a, some b, some (.int (n : Int)), some (.int (sizeOf' ls n)), some (.int (lateOf ls n : Int)), some (.ref l), x, y])
      (fun F3 H3 u3 => ⟨U2.trans u3, u3.f, m2.up u3, none, none, rfl⟩) (fun _ _ _ _ p => p.1.s) ?_ ?_
    · rintro i code σ F3 H3 v hcode ⟨U3, f3, m3, x, y, rfl⟩ rv
      obtain ⟨rfl, hlt⟩ := range_get hcode
      have ev : v = .int (code : Int) := rv
      subst ev
      have ra3 := (rMill Cm).mono f3 ra
      have rb3 := rLet.mono f3 rb
      have estep : (List.range (code + 1)).filterMap (openAt ps ls n) = (List.range code).filterMap (openAt ps ls n) ++ (openAt ps ls n code).toList := by
        rw [List.range_succ, List.filterMap_append]
        congr 1
      have hlen : ((List.range code).filterMap (openAt ps ls n)).length ≤ code := by
        have := List.length_filterMap_le (openAt ps ls n) (List.range code)
        rw [List.length_range] at this
        exact this
      refine q_set (ev_call (ps, lateOf ls n, (code : Int)) (ea_cons (ev_var rfl ra3) (ea_cons (ev_var (R := rNat) rfl rfl) (ea_cons (Ev.ofNat (ev_var (R := rNat) (x := code) rfl rfl)) ea_nil))) ⟨wf, hl, by dsimp only; omega, by dsimp only; omega⟩) U3.s fun v4 F4 H4 u4 r4 => ?_
      dsimp only at r4
      have U4 := U3.trans u4
      replace ra3 := (rMill Cm).mono u4.f ra3
      replace rb3 := rLet.mono u4.f rb3
      cases hcw : codeWord ps (lateOf ls n) (code : Int) with
      | none =>
        rw [hcw] at r4
        have ho : openAt ps ls n code = none := by unfold openAt; rw [hcw]
        refine s_guard ((eb_and (b := true) (eb_test (ev_notN (R := rWord) (o := none) (ev_var rfl r4))) (fun q => nomatch q)).is rfl) U4.s fun H5 u5 => ?_
        refine ⟨F4, u4.f, U4.trans u5, f3.trans u4.f, ?_, _, _, rfl⟩
        rw [estep, ho, Option.toList_none, List.append_nil]
        exact (m3.up u4).up u5
      | some wd =>
        rw [hcw] at r4
        have rw4 : rWord.r F4 v4 wd := r4.1
        have hv := codeWord_valid wf hl (by omega) (by omega) hcw
        refine s_if (eb_and (eb_test (ev_notN (R := rWord) (o := some wd) (ev_var rfl r4))) fun _ => eb_B (ev_call (ps, lateOf ls n, wd, sizeOf' ls n) (ea_cons (ev_var rfl ra3) (ea_cons (ev_var (R := rNat) rfl rfl) (ea_cons (ev_var rfl rw4) (ea_cons (ev_var (R := rInt) rfl rfl) ea_nil)))) ⟨wf, hv, size_ok wl hn⟩)) U4.s (fun hb H5 u5 => ?_) (fun hb H5 u5 => ?_)
        · have hf : fitsOf ps (lateOf ls n) wd (sizeOf' ls n) = true := by simpa using hb
          have ho : openAt ps ls n code = some ((code : Int), faceOf ps (lateOf ls n) wd * keyOf ls n) := by unfold openAt; rw [hcw]; exact if_pos hf
          have hs := faceOf_sign wf hv
          refine s_app (x := ((code : Int), faceOf ps (lateOf ls n) wd * keyOf ls n)) (U4.trans u5) ((m3.up u4).up u5) rfl (ev_tup2 (R := rInt) (S := rInt) (Ev.ofNat (ev_var (R := rNat) (x := code) rfl rfl)) (ev_mul (ev_call (ps, lateOf ls n, wd) (ea_cons (ev_var rfl ra3) (ea_cons (ev_var (R := rNat) rfl rfl) (ea_cons (ev_var rfl rw4) ea_nil))) hv)
            (ev_add (Ev.ofNat (ev_var (R := rNat) (x := n) rfl rfl)) (ev_mul (ev_lenL (R := rLetter) (ev_var rfl rb3)) (Ev.ofNat (ev_var (R := rNat) (x := lateOf ls n) rfl rfl)) (.inl (by omega)))) (.inl (by omega)))) (by omega) fun F6 H6 ws u6 U6 m6 => ?_
          refine ⟨F6, u4.f.trans u6.f, U6, f3.trans (u4.f.trans u6.f), ?_, _, _, rfl⟩
          rw [estep, ho]
          exact m6
        · have hf : ¬ fitsOf ps (lateOf ls n) wd (sizeOf' ls n) = true := by intro q; rw [q] at hb; cases hb
          have ho : openAt ps ls n code = none := by unfold openAt; rw [hcw]; exact if_neg hf
          refine ⟨F4, u4.f, U4.trans u5, f3.trans u4.f, ?_, _, _, rfl⟩
          rw [estep, ho, Option.toList_none, List.append_nil]
          exact (m3.up u4).up u5
    · rintro σ F3 H3 ⟨U3, f3, m3, x, y, rfl⟩
      rw [List.length_range] at m3
      obtain ⟨F4, f4, U4, r4, _⟩ := m3.freeze U3
      exact s_ret (ev_var (R := rPlaces) rfl r4) U4.s fun v F5 H5 u5 r5 => k v F5 H5 (U4.trans u5) r5
def sp_open_places (Cm : Addr) : Sp := SpF (ι := iO) PreO (aO Cm) (fun _ => rPlaces) (fun i => opensOf i.1 i.2.1 i.2.2)
theorem ok_open_places (X : Tx K mg Cm Cw ak bk) (d : Df K mg "open_places" s_open_places) (h_look_at_letters : HasF P w K mg base "look_at_letters" 2 ["mill", "letters"] (sp_look_at_letters Cm)) (h_places_open : HasF P w K mg base "places_open" 5 ["mill", "letters", "letter"] (sp_places_open Cm)) :
    HasF P w K mg base "open_places" 6 ["mill", "letters", "letter"] (sp_open_places Cm) := by
  refine ok_def d sc_open_places (fun _ _ _ _ _ _ us hl => match us, hl with | [_, _, _], _ => rfl) (fun i F vs h => ?_) fun f cdv A0 outer s H0 E hr => ⟨_, (pss_cons (ps_expr (pe_hf h_look_at_letters (hr.mono (by decide)) (by rfl) (pa_cons (pv 0) (pa_cons (pv 1) pa_nil))))
      (pss_one (ps_ret (pe_hf h_places_open (hr.mono (by decide)) (by rfl) (pa_cons (pv 0) (pa_cons (pv 1) (pa_cons (pv 2) pa_nil))))))), ?_⟩
  · obtain ⟨_, _, _, rfl, _⟩ := ap3 h
    rfl
  · rintro ⟨ps, ls, n⟩ F H vs hp eF h Q k
    dsimp only [aO] at h k
    obtain ⟨a, b, c, rfl, ra, rb, rc⟩ := ap3 h
    refine q_drop (ev_call (ps, ls) (ea_cons (ev_var rfl ra) (ea_cons (ev_var rfl rb) ea_nil)) hp.wl) eF fun _ F1 H1 u1 _ => ?_
    exact s_ret (ev_call (ps, ls, n) (ea_cons (ev_var rfl ((rMill Cm).mono u1.f ra)) (ea_cons (ev_var rfl (rLet.mono u1.f rb)) (ea_cons (ev_var rfl (rNat.mono u1.f rc)) ea_nil))) hp) u1.s fun v F2 H2 u2 r2 => k v F2 H2 (u1.trans u2) r2
/-! next_place -/
abbrev iN := Passes' × Letters × Nat × Option (Int × Int)
def sp_next_place (Cm : Addr) : Sp := SpF (ι := iN) (fun i => PreO (i.1, i.2.1, i.2.2.1)) (fun i => apCons (rMill Cm) i.1 (apCons rLet i.2.1 (apCons rNat i.2.2.1 (apCons (rOpt rPlace) i.2.2.2 apNil)))) (fun _ => rOpt rPlace) (fun i => nextOf i.1 i.2.1 i.2.2.1 i.2.2.2)
theorem opens_len (ps : Passes') (ls : Letters) (n : Nat) : (opensOf ps ls n).length ≤ (codes ps).toNat := by
  unfold opensOf
  have := List.length_filterMap_le (openAt ps ls n) (List.range (codes ps).toNat)
  rw [List.length_range] at this
  exact this
theorem eb_beyond {σ : L2.St} {F H : Hp} {i j : Nat} {v v2 : V} {b : Option (Int × Int)} {p : Int × Int} (h1 : σ[i]? = some (some v)) (h2 : σ[j]? = some (some v2)) (r1 : (rOpt rPlace).r F v b) (r2 : rPlace.r F v2 p) :
    EvB (tOr (tTest (tOp (fun x y H Q => y = .non ∧ Q (.bl (decide (x = .non))) H) (tVar i) (tC .non))) (tTest (tOp (rGtT K) (tVar j) (tVar i)))) σ F H (beyondB b p) := by
  cases b with
  | none => exact (eb_or (b := true) (eb_test (ev_isN (R := rPlace) (o := none) (ev_var h1 r1))) fun q => nomatch q).is rfl
  | some q => exact (eb_or (eb_test (ev_isN (R := rPlace) (o := some q) (ev_var h1 r1))) fun _ => eb_test (ev_gtP (ev_var h2 r2) (ev_var h1 r1.1))).is rfl
theorem ok_next_place (X : Tx K mg Cm Cw ak bk) (d : Df K mg "next_place" s_next_place) (h_open_places : HasF P w K mg base "open_places" 6 ["mill", "letters", "letter"] (sp_open_places Cm)) :
    HasF P w K mg base "next_place" 7 ["mill", "letters", "letter", "beyond"] (sp_next_place Cm) := by
  refine ok_def d sc_next_place (fun _ _ _ _ _ _ us hl => match us, hl with | [_, _, _, _], _ => rfl) (fun i F vs h => ?_) fun f cdv A0 outer s H0 E hr => ⟨_, (pss_cons (ps_for PassesOwn.never rfl (pi_list (pe_hf h_open_places (hr.mono (by decide)) (by rfl) (pa_cons (pv 0) (pa_cons (pv 1) (pa_cons (pv 2) pa_nil))))) (pg_name (i := 4) sc_next_place.nd rfl (Or.inl rfl))
      (pss_one (ps_if (PW.pt (pw_or (pt_cmpR op_isN (pv 3) pe_non (nomark _)) (pw_or1 (pt_cmpR (op_gtT hr.units0) (pv 4) (pv 3) (nomark _))))) (pss_one (ps_ret (pv 4))) pss_nil)))
      (pss_one (ps_ret pe_non))), ?_⟩
  · obtain ⟨_, _, _, _, rfl, _⟩ := ap4 h
    rfl
  · rintro ⟨ps, ls, n, bd⟩ F H vs hp eF h Q k
    dsimp only at hp h k
    obtain ⟨a, b, c, e, rfl, ra, rb, rc, re⟩ := ap4 h
    refine q_for (R := rPlace) (xs := opensOf ps ls n) (ei_list (R := rPlace) (ev_call (ps, ls, n) (ea_cons (ev_var rfl ra) (ea_cons (ev_var rfl rb) (ea_cons (ev_var rfl rc) ea_nil))) hp)) eF
      (fun i σ F' H' => Up F H F' H' ∧ ((opensOf ps ls n).take i).find? (beyondB bd) = none ∧ ∃ x, σ = [some a, some b, some c, some e, x]) (fun F1 H1 u1 => ⟨u1, rfl, none, rfl⟩) (fun _ _ _ _ p => p.1.s) ?_ ?_
    · rintro i p σ F1 H1 v hpl ⟨U1, hno, x, rfl⟩ rv
      refine s_if (eb_beyond rfl rfl ((rOpt rPlace).mono U1.f re) rv) U1.s (fun hb H2 u2 => ?_) (fun hb H2 u2 => ?_)
      · refine s_ret (R := rOpt rPlace) (x := some p) (Ev.some (ev_var rfl rv) fun _ _ q => rTup2_not q) u2.s fun v3 F3 H3 u3 r3 => k v3 F3 H3 ((U1.trans u2).trans u3) ?_
        have ef : nextOf ps ls n bd = some p := by
          unfold nextOf
          rw [← List.take_append_drop (i + 1) (opensOf ps ls n), List.find?_append, take_snoc hpl, List.find?_append, hno, List.find?_cons, hb]
          rfl
        rw [ef]
        exact r3
      · refine ⟨F1, Same.refl _, U1.trans u2, ?_, _, rfl⟩
        rw [take_snoc hpl, List.find?_append, hno, List.find?_cons, hb]
        rfl
    · rintro σ F1 H1 ⟨U1, hno, x, rfl⟩
      rw [List.take_length] at hno
      refine s_ret (R := rOpt rPlace) (x := none) ev_non U1.s fun v3 F3 H3 u3 r3 => k v3 F3 H3 (U1.trans u3) ?_
      unfold nextOf
      rw [hno]
      exact r3
/-! chain_to -/
def vO : Option Nat → V
  | none => .non
  | some n => .int (n : Int)
theorem vO_r {F : Hp} (o : Option Nat) : (rOpt rNat).r F (vO o) o := by
  cases o with
  | none => rfl
  | some n => exact ⟨rfl, fun q => nomatch q⟩
theorem vO_eq {F : Hp} {v : V} {o : Option Nat} (h : (rOpt rNat).r F v o) : v = vO o := by
  cases o with
  | none => exact h
  | some n => exact h.1
def Path (kvs : List (Key × V)) : Option Nat → List Nat → Prop
  | o, [] => o = none
  | o, a :: r => o = some a ∧ ∃ h, valV kvs (.inl (a : Int)) = some (vO h) ∧ Path kvs h r
def rD : Rep (List (Key × V)) := ⟨fun F v kvs => ∃ d, v = .ref d ∧ F d = some (.dK kvs), fun e h => by
  obtain ⟨d, h1, h2⟩ := h
  exact ⟨d, h1, e _ _ h2⟩⟩
def sp_chain_to : Sp := SpF (ι := List (Key × V) × Option Nat × List Nat) (fun i => Path i.1 i.2.1 i.2.2 ∧ i.2.2.length ≤ 1000) (fun i => apCons rD i.1 (apCons (rOpt rNat) i.2.1 apNil)) (fun _ => rRow) (fun i => i.2.2.reverse)
theorem ok_chain_to (X : Tx K mg Cm Cw ak bk) (d : Df K mg "chain_to" s_chain_to) : HasF P w K mg base "chain_to" 1 ["back", "letter"] sp_chain_to := by
  refine ok_def d sc_chain_to (fun _ _ _ _ _ _ us hl => match us, hl with | [_, _], _ => rfl) (fun i F vs h => ?_) fun f cdv A0 outer s H0 E hr => ⟨_, (pss_cons (ps_set (i := 2) sc_chain_to.nd rfl (.inl rfl) (pe_lst pa_nil))
      (pss_cons (ps_while PassesOwn.never (pt_cmpR op_notN (pv 1) pe_non (nomark _)) (pss_cons (ps_expr (pe_bm PySem.F.plainAttrs_list PySem.F.slot_list_insert PySem.F.type_list_insert mt_insert (pv 2) (pa_cons pe_int (pa_cons (pv 1) pa_nil))))
      (pss_one (ps_set (i := 1) sc_chain_to.nd rfl (.inl rfl) (pe_dget (hu_of hr) (pv 0) (pv 1) (fun _ _ => rfl))))))
      (pss_one (ps_ret (pv 2))))), ?_⟩
  · obtain ⟨_, _, rfl, _⟩ := ap2 h
    rfl
  · rintro ⟨kvs, o, l⟩ F H vs hp eF h Q k
    dsimp only at hp h k
    obtain ⟨hpath, hlen⟩ := hp
    obtain ⟨a, b, rfl, ra, rb⟩ := ap2 h
    obtain ⟨dd, rfl, hdd⟩ := ra
    have eb := vO_eq rb
    subst eb
    refine q_newL rNat (Up.refl eF) fun p H1 hp1 u1 U1 m1 => ?_
    refine q_while (fun m σ F' H' => Up F H F' H' ∧ ∃ o' done rem, l = done ++ rem ∧ m = rem.length ∧ Path kvs o' rem ∧ ML H F' H' p rNat done.reverse ∧ σ = [some (.ref dd), some (vO o'), some (.ref p)]) (m0 := l.length) ⟨U1, o, [], l, rfl, rfl, hpath, m1, rfl⟩ ?_
    rintro m σ F2 H2 ⟨U2, o', done, rem, el, rfl, hpr, m2, rfl⟩
    refine ⟨_, eb_test (ev_notN (R := rNat) (ev_var rfl (vO_r o'))), U2.s, fun hb H3 u3 => ?_, fun hb H3 u3 => ?_⟩
    · cases rem with
      | nil =>
        have : o' = none := hpr
        subst this
        cases hb
      | cons x r =>
        obtain ⟨eo, ho, hv, hr'⟩ := hpr
        subst eo
        refine q_ins (x := x) (n := 0) (U2.trans u3) (m2.up u3) rfl ev_int (ev_var (R := rNat) (x := x) rfl rfl) ⟨by decide, by decide⟩ (by rw [List.length_reverse]; have := congrArg List.length el; rw [List.length_append] at this; omega) fun F4 H4 ws u4 U4 m4 => ?_
        have eget : Ev (tDGet (tVar 0) (tVar 1)) [some (.ref dd), some (vO (some x)), some (.ref p)] F4 (upd H4 p (.lst ws)) (rOpt rNat) ho := fun H5 e5 _ Q5 q5 => ⟨_, rfl, _, rfl, dd, vO ho, rfl, by
          rw [← hv]
          exact DGet.k (k := Sum.inl (x : Int)) (e5 _ _ (u4.f _ _ (U2.f _ _ hdd))), q5 _ F4 H5 (Up.refl e5) (vO_r ho)⟩
        refine s_set eget U4.s fun v5 F5 H5 u5 r5 => ?_
        have e5 := vO_eq r5
        subst e5
        refine ⟨r.length, F5, by simp, U4.trans u5, ho, done ++ [x], r, by rw [el, List.append_assoc]; rfl, rfl, hr', ?_, rfl⟩
        rw [List.reverse_append]
        exact m4.up u5
    · cases rem with
      | cons x r =>
        obtain ⟨eo, _⟩ := hpr
        subst eo
        cases hb
      | nil =>
        rw [List.append_nil] at el
        subst el
        obtain ⟨F4, f4, U4, r4, _⟩ := (m2.up u3).freeze (U2.trans u3)
        exact s_ret (ev_var (R := rRow) rfl r4) U4.s fun v F5 H5 u5 r5 => k v F5 H5 (U4.trans u5) r5
/-! chain_places -/
def rPlacesO : Rep (List (Option (Int × Int))) := rLst (rOpt rPlace)
abbrev iC := Passes' × Letters × List Nat
structure PreC (i : iC) : Prop where
  wf : WfP i.1
  wl : WfL i.1 i.2.1
  lt : ∀ x ∈ i.2.2, x < i.2.1.length
  len : i.2.2.length ≤ 1000
def sp_chain_places (Cm : Addr) : Sp := SpF (ι := iC) PreC (fun i => apCons (rMill Cm) i.1 (apCons rLet i.2.1 (apCons rRow i.2.2 apNil))) (fun _ => rPlacesO) (fun i => chainPl i.1 i.2.1 none i.2.2)
theorem ok_chain_places (X : Tx K mg Cm Cw ak bk) (d : Df K mg "chain_places" s_chain_places) (h_look_at_letters : HasF P w K mg base "look_at_letters" 2 ["mill", "letters"] (sp_look_at_letters Cm)) (h_next_place : HasF P w K mg base "next_place" 7 ["mill", "letters", "letter", "beyond"] (sp_next_place Cm)) :
    HasF P w K mg base "chain_places" 8 ["mill", "letters", "chain"] (sp_chain_places Cm) := by
  refine ok_def d sc_chain_places (fun _ _ _ _ _ _ us hl => match us, hl with | [_, _, _], _ => rfl) (fun i F vs h => ?_) fun f cdv A0 outer s H0 E hr => ⟨_, (pss_cons (ps_expr (pe_hf h_look_at_letters (hr.mono (by decide)) (by rfl) (pa_cons (pv 0) (pa_cons (pv 1) pa_nil))))
      (pss_cons (ps_set (i := 3) sc_chain_places.nd rfl (.inl rfl) (pe_lst pa_nil))
      (pss_cons (ps_set (i := 4) sc_chain_places.nd rfl (.inl rfl) pe_non)
      (pss_cons (ps_for PassesOwn.never rfl (pi_list (pv 2)) (pg_name (i := 5) sc_chain_places.nd rfl (Or.inl rfl))
      (pss_cons (ps_set (i := 4) sc_chain_places.nd rfl (.inl rfl) (pe_hf h_next_place (hr.mono (by decide)) (by rfl) (pa_cons (pv 0) (pa_cons (pv 1) (pa_cons (pv 5) (pa_cons (pv 4) pa_nil))))))
      (pss_cons (ps_expr (pe_bm PySem.F.plainAttrs_list PySem.F.slot_list_append PySem.F.type_list_append mt_append (pv 3) (pa_cons (pv 4) pa_nil)))
      (pss_one (ps_if (pt_cmpR op_isN (pv 4) pe_non (nomark _)) (pss_one ps_break) pss_nil)))))
      (pss_one (ps_ret (pv 3))))))), ?_⟩
  · obtain ⟨_, _, _, rfl, _⟩ := ap3 h
    rfl
  · rintro ⟨ps, ls, ch⟩ F H vs hp eF h Q k
    obtain ⟨wf, wl, hlt, hlen⟩ := hp
    dsimp only at wf wl hlt hlen h k
    obtain ⟨a, b, c, rfl, ra, rb, rc⟩ := ap3 h
    refine q_drop (ev_call (ps, ls) (ea_cons (ev_var rfl ra) (ea_cons (ev_var rfl rb) ea_nil)) wl) eF fun _ F1 H1 u1 _ => ?_
    refine q_newL (rOpt rPlace) u1 fun l H2 hl2 u2 U2 m2 => ?_
    refine q_set (R := rOpt rPlace) (x := none) ev_non U2.s fun v3 F3 H3 u3 r3 => ?_
    have U3 := U2.trans u3
    replace ra := (rMill Cm).mono U3.f ra
    replace rb := rLet.mono U3.f rb
    replace rc := rRow.mono U3.f rc
    have fin : ∀ (F5 H5 : Hp) (x4 x5 : Option V), Up F H F5 H5 → ML H F5 H5 l (rOpt rPlace) (chainPl ps ls none ch) → tRet (tVar 3) { nx := fun _ H' => Q .non H', rt := Q } [some a, some b, some c, some (.ref l), x4, x5] H5 := fun F5 H5 x4 x5 U5 m5 => by
      obtain ⟨F6, f6, U6, r6, _⟩ := m5.freeze U5
      exact s_ret (ev_var (R := rPlacesO) rfl r6) U6.s fun v F7 H7 u7 r7 => k v F7 H7 (U6.trans u7) r7
    refine q_for (R := rNat) (xs := ch) (ei_list (R := rNat) (ev_var rfl rc)) U3.s (fun i σ F' H' => Up F H F' H' ∧ Same F3 F' ∧ ∃ acc bd vb x5, acc.length = i ∧ ML H F' H' l (rOpt rPlace) acc ∧ (rOpt rPlace).r F' vb bd ∧ chainPl ps ls none ch = acc ++ chainPl ps ls bd (ch.drop i) ∧ σ = [some a, some b, some c, some (.ref l), some vb, x5])
      (fun F4 H4 u4 => ⟨U3.trans u4, u4.f, [], none, v3, none, rfl, (m2.up u3).up u4, (rOpt rPlace).mono u4.f r3, rfl, rfl⟩) (fun _ _ _ _ p => p.1.s) ?_ ?_
    · rintro i x σ F4 H4 v hx ⟨U4, f4, acc, bd, vb, x5, hacc, m4, rbd, hch, rfl⟩ rv
      have hxm := List.mem_of_getElem? hx
      have hdrop : ch.drop i = x :: ch.drop (i + 1) := by
        obtain ⟨hi, e⟩ := List.getElem?_eq_some_iff.mp hx
        rw [List.drop_eq_getElem_cons hi, e]
      rw [hdrop] at hch
      have hil : i < ch.length := (List.getElem?_eq_some_iff.mp hx).1
      refine q_set (ev_call (ps, ls, x, bd) (ea_cons (ev_var rfl ((rMill Cm).mono f4 ra)) (ea_cons (ev_var rfl (rLet.mono f4 rb)) (ea_cons (ev_var rfl rv) (ea_cons (ev_var rfl rbd) ea_nil)))) ⟨wf, wl, hlt x hxm⟩) U4.s fun v6 F6 H6 u6 r6 => ?_
      dsimp only at r6
      refine q_app (U4.trans u6) (m4.up u6) rfl (ev_var (R := rOpt rPlace) rfl r6) (by omega) fun F7 H7 ws u7 U7 m7 => ?_
      have r7 := (rOpt rPlace).mono u7.f r6
      refine s_if (eb_test (ev_isN (R := rPlace) (ev_var rfl r7))) U7.s (fun hb H8 u8 => ?_) (fun hb H8 u8 => ?_)
      · have en : nextOf ps ls x bd = none := Option.isNone_iff_eq_none.mp hb
        refine fin F7 H8 _ _ (U7.trans u8) ?_
        rw [hch, chainPl_none en]
        rw [en] at m7
        exact m7.up u8
      · cases en : nextOf ps ls x bd with
        | none => rw [en] at hb; cases hb
        | some p =>
          rw [en] at m7 r7
          refine ⟨F7, u6.f.trans u7.f, U7.trans u8, f4.trans (u6.f.trans u7.f), acc ++ [some p], some p, v6, _, by rw [List.length_append, hacc]; rfl, m7.up u8, r7, ?_, rfl⟩
          rw [hch, chainPl_some en, List.append_assoc]
          rfl
    · rintro σ F4 H4 ⟨U4, f4, acc, bd, vb, x5, hacc, m4, rbd, hch, rfl⟩
      rw [List.drop_length] at hch
      refine fin F4 H4 _ _ U4 ?_
      rw [hch, show chainPl ps ls bd [] = [] from by cases bd <;> rfl, List.append_nil]
      exact m4
/-! bars, does -/
abbrev iB := Passes' × Letters × List (List Nat) × List Nat
structure PreB (i : iB) : Prop where
  wf : WfP i.1
  wl : WfL i.1 i.2.1
  lt : ∀ x ∈ i.2.2.2, x < i.2.1.length
  inl : ∀ x ∈ i.2.2.2, x ∈ i.2.2.1.flatten
  len : i.2.2.2.length ≤ 1000
def sp_bars (Cm Cw : Addr) : Sp := SpF (ι := iB) PreB (fun i => apCons (rMill Cm) i.1 (apCons rLet i.2.1 (apCons (rWish Cw) i.2.2.1 (apCons rRow i.2.2.2 apNil)))) (fun _ => rBl) (fun i => barsOf i.1 i.2.1 (levOf i.2.2.1) i.2.2.2)
theorem ok_bars (X : Tx K mg Cm Cw ak bk) (d : Df K mg "bars" s_bars) (h_chain_places : HasF P w K mg base "chain_places" 8 ["mill", "letters", "chain"] (sp_chain_places Cm)) (h_Wish_behind : HasM P w K mg base Cw "behind" 1 ["self", "one", "other"] (sp_behind Cw)) :
    HasF P w K mg base "bars" 9 ["mill", "letters", "wish", "chain"] (sp_bars Cm Cw) := by
  refine ok_def d sc_bars (fun _ _ _ _ _ _ us hl => match us, hl with | [_, _, _, _], _ => rfl) (fun i F vs h => ?_) fun f cdv A0 outer s H0 E hr => ⟨_, (pss_cons (ps_set (i := 4) sc_bars.nd rfl (.inl rfl) (pe_hf h_chain_places (hr.mono (by decide)) (by rfl) (pa_cons (pv 0) (pa_cons (pv 1) (pa_cons (pv 3) pa_nil)))))
      (pss_cons (ps_for PassesOwn.never rfl (pi_zip (by rfl) X.z_zip (pa_cons (pv 3) (pa_cons (pe_slice sl_list (pv 3) (po_some pe_int) po_none) pa_nil))) (pg_tup rfl (pgs_cons (pg_name (i := 5) sc_bars.nd rfl (Or.inl rfl)) (pgs_cons (pg_name (i := 6) sc_bars.nd rfl (Or.inl rfl)) pgs_nil)))
      (pss_one (ps_if (pt_not (pt_val (pe_hm (pv 2) X.k_Wish h_Wish_behind (hr.mono (by decide)) (pa_cons (pv 6) (pa_cons (pv 5) pa_nil))))) (pss_one (ps_ret pe_bl)) pss_nil)))
      (pss_one (ps_ret (pe_and (pe_cmpR op_gt (pe_callB (r := rLenS K) call_len_seq (by rfl) X.z_len (by decide +kernel) (pa_cons (pv 3) pa_nil)) pe_int (nomark _)) (pe_and (pe_cmpR op_eq (pe_callB (r := rLenS K) call_len_seq (by rfl) X.z_len (by decide +kernel) (pa_cons (pv 4) pa_nil)) (pe_callB (r := rLenS K) call_len_seq (by rfl) X.z_len (by decide +kernel) (pa_cons (pv 3) pa_nil)) (nomark _)) (pe_one (pe_cmpR op_isN (pe_ix (r := rIxL K) ix_list (pv 4) (pe_un un_neg pe_int) (fun _ _ => rfl)) pe_non (nomark _))))))))), ?_⟩
  · obtain ⟨_, _, _, _, rfl, _⟩ := ap4 h
    rfl
  · rintro ⟨ps, ls, ll, ch⟩ F H vs hp eF h Q k
    obtain ⟨wf, wl, hlt, hin, hlen⟩ := hp
    dsimp only at wf wl hlt hin hlen h k
    obtain ⟨a, b, c, e, rfl, ra, rb, rc, re⟩ := ap4 h
    refine q_set (ev_call (ps, ls, ch) (ea_cons (ev_var rfl ra) (ea_cons (ev_var rfl rb) (ea_cons (ev_var rfl re) ea_nil))) ⟨wf, wl, hlt, hlen⟩) eF fun v1 F1 H1 u1 r1 => ?_
    dsimp only at r1
    replace rc := (rWish Cw).mono u1.f rc
    replace re := rRow.mono u1.f re
    have hz := ei_zipL (K := K) (H := H1) (σ := [some a, some b, some c, some e, some v1, none, none]) (R := rNat) (S := rNat) (ea_cons (ev_var (i := 3) rfl re) (ea_cons (ev_slL (K := K) (ev_var (i := 3) rfl re) (eo_some (ev_int (i := 1))) eo_none) ea_nil))
    rw [show cutG ch (some (1 : Int)) none = ch.drop 1 from cutG_from (by decide)] at hz
    refine q_forZ hz u1.s (fun i σ F' H' => Up F H F' H' ∧ Same F1 F' ∧ ((ch.zip (ch.drop 1)).take i).all (fun p => decide (levOf ll p.1 < levOf ll p.2)) = true ∧ ∃ x y, σ = [some a, some b, some c, some e, some v1, x, y]) (fun F2 H2 u2 => ⟨u1.trans u2, u2.f, rfl, none, none, rfl⟩) (fun _ _ _ _ p => p.1.s) ?_ ?_
    · rintro i p σ F2 H2 F3 H3 v hpz ⟨U2, f2, hall, x, y, rfl⟩ u3 rv
      obtain ⟨x', y', h1, h2, h3⟩ := gt_tup2 (K := K) (i := 5) (j := 6) (σ := [some a, some b, some c, some e, some v1, x, y]) rv
      refine h3 H3 u3.s _ ?_
      obtain ⟨g1, g2⟩ := zip_get hpz
      have m1 := List.mem_of_getElem? g1
      have m2 := List.mem_of_mem_drop (List.mem_of_getElem? g2)
      have U3 := U2.trans u3
      refine s_if (eb_not (eb_B (ev_behind (ev_var rfl ((rWish Cw).mono (f2.trans u3.f) rc)) (ev_var (R := rNat) rfl h2) (ev_var (R := rNat) rfl h1) (hin _ m2) (hin _ m1)))) u3.s (fun hb H4 u4 => ?_) (fun hb H4 u4 => ?_)
      · refine s_ret (R := rBl) (x := false) ev_bl u4.s fun v5 F5 H5 u5 r5 => k v5 F5 H5 ((U3.trans u4).trans u5) ?_
        have hf : risingB (levOf ll) ch = false := by
          unfold risingB
          rw [List.all_eq_false]
          refine ⟨p, List.mem_of_getElem? hpz, ?_⟩
          intro q
          rw [q] at hb
          cases hb
        unfold barsOf
        rw [hf]
        exact r5
      · have hd : decide (levOf ll p.1 < levOf ll p.2) = true := by simpa using hb
        refine ⟨F3, u3.f, U3.trans u4, f2.trans u3.f, ?_, _, _, rfl⟩
        rw [take_snoc hpz, List.all_append, hall, List.all_cons, hd]
        rfl
    · rintro σ F2 H2 ⟨U2, f2, hall, x, y, rfl⟩
      rw [List.take_length] at hall
      have hr : risingB (levOf ll) ch = true := hall
      replace re := rRow.mono f2 re
      replace r1 := rPlacesO.mono f2 r1
      refine s_ret (R := rBl) (x := barsOf ps ls (levOf ll) ch) ?_ U2.s fun v5 F5 H5 u5 r5 => k v5 F5 H5 (U2.trans u5) r5
      refine Ev.is (ev_andV (ev_gt (ev_lenL (R := rNat) (ev_var rfl re)) ev_int) fun h0 => ev_andV (ev_eqI (ev_lenL (R := rOpt rPlace) (ev_var rfl r1)) (ev_lenL (R := rNat) (ev_var rfl re))) (b := lastNone (chainPl ps ls none ch)) fun h1 => ?_) ?_
      · have h0' : 0 < ch.length := by have := of_decide_eq_true h0; omega
        have h1' : (chainPl ps ls none ch).length = ch.length := by have := of_decide_eq_true h1; omega
        cases el : (chainPl ps ls none ch).getLast? with
        | none =>
          have := List.getLast?_eq_none_iff.mp el
          rw [this] at h1'
          simp at h1'
          omega
        | some o =>
          refine (ev_isN (R := rPlace) (ev_last (R := rOpt rPlace) (ev_var rfl r1) el)).is ?_
          unfold lastNone
          rw [el]
          cases o <;> rfl
      · unfold barsOf
        rw [hr, Bool.true_and]
        congr 1
        · rw [decide_eq_decide]; omega
        · congr 1
          rw [decide_eq_decide]; omega
abbrev iDo := Passes' × Letters × List (List Nat) × List (List Nat)
structure PreD (i : iDo) : Prop where
  p : PreP (i.1, i.2.1, i.2.2.2)
  inl : ∀ x, x < i.2.1.length → x ∈ i.2.2.1.flatten
def sp_does (Cm Cw : Addr) : Sp := SpF (ι := iDo) PreD (fun i => apCons (rMill Cm) i.1 (apCons rLet i.2.1 (apCons (rWish Cw) i.2.2.1 (apCons rPlan i.2.2.2 apNil)))) (fun _ => rBl) (fun i => keptOf (levOf i.2.2.1) (endRow i.1 i.2.1 i.2.2.2))
theorem ok_does (X : Tx K mg Cm Cw ak bk) (d : Df K mg "does" s_does) (h_Wish_kept_by : HasM P w K mg base Cw "kept_by" 3 ["self", "row"] (sp_kept_by Cw)) (h_end_row : HasF P w K mg base "end_row" 8 ["mill", "letters", "plan"] (sp_end_row Cm)) :
    HasF P w K mg base "does" 9 ["mill", "letters", "wish", "plan"] (sp_does Cm Cw) := by
  refine ok_def d sc_does (fun _ _ _ _ _ _ us hl => match us, hl with | [_, _, _, _], _ => rfl) (fun i F vs h => ?_) fun f cdv A0 outer s H0 E hr => ⟨_, (pss_one (ps_ret (pe_hm (pv 2) X.k_Wish h_Wish_kept_by (hr.mono (by decide)) (pa_cons (pe_hf h_end_row (hr.mono (by decide)) (by rfl) (pa_cons (pv 0) (pa_cons (pv 1) (pa_cons (pv 3) pa_nil)))) pa_nil)))), ?_⟩
  · obtain ⟨_, _, _, _, rfl, _⟩ := ap4 h
    rfl
  · rintro ⟨ps, ls, ll, plan⟩ F H vs hp eF h Q k
    obtain ⟨hp, hin⟩ := hp
    dsimp only at hp hin h k
    obtain ⟨a, b, c, e, rfl, ra, rb, rc, re⟩ := ap4 h
    obtain ⟨wf, wl, g⟩ := id hp
    dsimp only at wf wl g
    obtain ⟨_, h2⟩ := endRow_srt wf wl g
    have hl := line_len wf g (Nat.le_refl ps.length)
    have hm := wl.many
    refine s_ret (ev_meth (ll, endRow ps ls plan) (ev_var (R := rWish Cw) rfl rc) (fun _ _ r => wish_ins (by decide +kernel) (by decide +kernel) (by decide +kernel) r) (ea_cons (ev_call (ps, ls, plan) (ea_cons (ev_var rfl ra) (ea_cons (ev_var rfl rb) (ea_cons (ev_var rfl re) ea_nil))) hp) ea_nil) (fun _ _ _ r1 r2 => ⟨_, _, rfl, r1, r2⟩)
      ⟨fun x hx => hin x ((h2 x).mp hx), ?_⟩) eF fun v F2 H2 u r => k v F2 H2 u r
    show (lineAt ps ls plan ps.length).length ≤ 100
    omega
end
end PM
end

section
set_option Elab.async false
set_option linter.all false
set_option maxRecDepth 100000
set_option maxHeartbeats 4000000
/-! the least plan: what holds as it is made -/
namespace PM
open PySem PySem.Spec PyProof.Rows L2
section
variable {ps : Passes'} {ls : Letters} {lev : Nat → Nat} {i : Nat} {done Lj l : List Nat} {edge le : Option (Int × Int)} {holder lh : Option Nat} {pl : List (List Nat)} {kvs : List (Key × V)}
structure Done (ps : Passes') (ls : Letters) (lev : Nat → Nat) (i : Nat) (done : List Nat) (edge : Option (Int × Int)) (holder : Option Nat) (pl : List (List Nat)) (kvs : List (Key × V)) (l : List Nat) : Prop where
  len : pl.length = ls.length
  word : ∀ a ∈ done, ValidW ps (lateOf ls a) (wordOf pl a) ∧ fitsOf ps (lateOf ls a) (wordOf pl a) (sizeOf' ls a) = true
  below : ∀ a ∈ done, ∃ e, edge = some e ∧ (placeOf ps ls pl a = e ∨ ltP (placeOf ps ls pl a) e)
  apart : ∀ a ∈ done, ∀ b ∈ done, lev a < lev b → ltP (placeOf ps ls pl a) (placeOf ps ls pl b)
  path : Path kvs holder l
  goes : Goes' ps ls none l.reverse edge
  rise : risingB lev l.reverse = true
  mem : ∀ x ∈ l, x ∈ done
  llen : l.length ≤ i
structure Lvl (ps : Passes') (ls : Letters) (lev : Nat → Nat) (i : Nat) (done Lj : List Nat) (edge le : Option (Int × Int)) (holder lh : Option Nat) (pl : List (List Nat)) (kvs : List (Key × V)) (l : List Nat) : Prop where
  base : Done ps ls lev i done edge holder pl kvs l
  word : ∀ a ∈ Lj, ValidW ps (lateOf ls a) (wordOf pl a) ∧ fitsOf ps (lateOf ls a) (wordOf pl a) (sizeOf' ls a) = true
  far : ∀ a ∈ Lj, Beyond edge (placeOf ps ls pl a)
  top : ∀ a, a ∈ done ∨ a ∈ Lj → ∃ e, le = some e ∧ (placeOf ps ls pl a = e ∨ ltP (placeOf ps ls pl a) e)
  last : (lh = holder ∧ le = edge) ∨ ∃ h p, h ∈ Lj ∧ lh = some h ∧ le = some p ∧ nextOf ps ls h edge = some p ∧ valV kvs (.inl (h : Int)) = some (vO holder)
theorem wordOf_set {a b : Nat} {w : List Nat} (h : a ≠ b) : wordOf (pl.set a w) b = wordOf pl b := by
  unfold wordOf
  rw [List.getD_eq_getElem?_getD, List.getD_eq_getElem?_getD, List.getElem?_set_ne h]
theorem wordOf_set_self {a : Nat} {w : List Nat} (h : a < pl.length) : wordOf (pl.set a w) a = w := by
  unfold wordOf
  rw [List.getD_eq_getElem?_getD, List.getElem?_set_self h]; rfl
theorem placeOf_set {a b : Nat} {w : List Nat} (h : a ≠ b) : placeOf ps ls (pl.set a w) b = placeOf ps ls pl b := by
  unfold placeOf
  rw [wordOf_set h]
theorem placeOf_set_self {a : Nat} {w : List Nat} (h : a < pl.length) : placeOf ps ls (pl.set a w) a = placeW ps ls a w := by
  unfold placeOf
  rw [wordOf_set_self h]
theorem valV_put_ne {x a : Nat} {v : V} (h : x ≠ a) : valV (putK kvs (.inl (a : Int)) v) (.inl (x : Int)) = valV kvs (.inl (x : Int)) := by
  rw [valV_put, if_neg (fun e => h (key_inj e))]
theorem valV_put_eq {a : Nat} {v : V} : valV (putK kvs (.inl (a : Int)) v) (.inl (a : Int)) = some v := by
  rw [valV_put, if_pos rfl]
theorem Path.put {a : Nat} {v : V} : ∀ {o : Option Nat} {l : List Nat}, Path kvs o l → a ∉ l → Path (putK kvs (.inl (a : Int)) v) o l
  | _, [], h, _ => h
  | _, x :: r, ⟨h1, ho, h2, h3⟩, hn => by
    rw [List.mem_cons, not_or] at hn
    exact ⟨h1, ho, by rw [valV_put_ne (Ne.symm hn.1)]; exact h2, h3.put hn.2⟩
theorem Done.step {a : Nat} {w : List Nat} (d : Done ps ls lev i done edge holder pl kvs l) (ha : a ∉ done) : Done ps ls lev i done edge holder (pl.set a w) (putK kvs (.inl (a : Int)) (vO holder)) l := by
  have hne : ∀ b ∈ done, a ≠ b := fun b hb e => ha (by rw [e]; exact hb)
  refine ⟨by rw [List.length_set]; exact d.len, fun b hb => ?_, fun b hb => ?_, fun b hb c hc hbc => ?_, d.path.put fun q => ha (d.mem a q), d.goes, d.rise, d.mem, d.llen⟩
  · rw [wordOf_set (hne b hb)]; exact d.word b hb
  · rw [placeOf_set (hne b hb)]; exact d.below b hb
  · rw [placeOf_set (hne b hb), placeOf_set (hne c hc)]; exact d.apart b hb c hc hbc
theorem Done.put {a : Nat} {v : V} (d : Done ps ls lev i done edge holder pl kvs l) (ha : a ∉ done) : Done ps ls lev i done edge holder pl (putK kvs (.inl (a : Int)) v) l :=
  ⟨d.len, d.word, d.below, d.apart, d.path.put fun q => ha (d.mem a q), d.goes, d.rise, d.mem, d.llen⟩
theorem Lvl.start (d : Done ps ls lev i done edge holder pl kvs l) : Lvl ps ls lev i done [] edge edge holder holder pl kvs l :=
  ⟨d, fun a h => (by cases h), fun a h => (by cases h), fun a h => d.below a (h.resolve_right (fun q => (by cases q))), .inl ⟨rfl, rfl⟩⟩
theorem not_ltP {p q : Int × Int} (h : ¬ ltP q p) : p = q ∨ ltP p q := by
  unfold ltP at *
  by_cases e1 : p.1 = q.1
  · by_cases e2 : p.2 = q.2
    · exact .inl (Prod.ext e1 e2)
    · exact .inr (by omega)
  · exact .inr (by omega)
theorem Lvl.step {a : Nat} {w : List Nat} {p : Int × Int} (v : Lvl ps ls lev i done Lj edge le holder lh pl kvs l) (ha : a ∉ done) (ha2 : a ∉ Lj) (hlt : a < ls.length) (hn : nextOf ps ls a edge = some p)
    (hw : ValidW ps (lateOf ls a) w) (hf : fitsOf ps (lateOf ls a) w (sizeOf' ls a) = true) (hp : p = placeW ps ls a w) :
    Lvl ps ls lev i done (Lj ++ [a]) edge (if beyondB le p = true then some p else le) holder (if beyondB le p = true then some a else lh) (pl.set a w) (putK kvs (.inl (a : Int)) (vO holder)) l := by
  have hne : ∀ b, b ∈ done ∨ b ∈ Lj → a ≠ b := fun b hb e => by
    rcases hb with q | q
    · exact ha (by rw [e]; exact q)
    · exact ha2 (by rw [e]; exact q)
  have hpl : a < pl.length := by rw [v.base.len]; exact hlt
  have hpa : placeOf ps ls (pl.set a w) a = p := by rw [placeOf_set_self hpl, hp]
  have hle : ∃ e, (if beyondB le p = true then some p else le) = some e ∧ (p = e ∨ ltP p e) ∧ ∀ q, le = some q → q = e ∨ ltP q e := by
    by_cases hb : beyondB le p = true
    · rw [if_pos hb]
      exact ⟨p, rfl, .inl rfl, fun q hq => .inr (beyond_iff.mp hb q hq)⟩
    · rw [if_neg hb]
      cases le with
      | none => exact absurd rfl hb
      | some e =>
        refine ⟨e, rfl, not_ltP fun q => hb ?_, fun q hq => .inl (Option.some.inj hq).symm⟩
        exact beyond_iff.mpr fun r hr => by rw [← Option.some.inj hr]; exact q
  obtain ⟨e, e1, e2, e3⟩ := hle
  refine ⟨v.base.step ha, fun b hb => ?_, fun b hb => ?_, fun b hb => ?_, ?_⟩
  · rcases List.mem_append.mp hb with q | q
    · rw [wordOf_set (hne b (.inr q))]; exact v.word b q
    · rw [List.mem_singleton.mp q, wordOf_set_self hpl]; exact ⟨hw, hf⟩
  · rcases List.mem_append.mp hb with q | q
    · rw [placeOf_set (hne b (.inr q))]; exact v.far b q
    · rw [List.mem_singleton.mp q, hpa]; exact (next_some hn).2
  · have old : (b ∈ done ∨ b ∈ Lj) → ∃ e, (if beyondB le p = true then some p else le) = some e ∧ (placeOf ps ls (pl.set a w) b = e ∨ ltP (placeOf ps ls (pl.set a w) b) e) := fun q => by
      obtain ⟨f, f1, f2⟩ := v.top b q
      rw [placeOf_set (hne b q)]
      refine ⟨e, e1, ?_⟩
      rcases e3 f f1 with g | g
      · rw [← g]; exact f2
      · rcases f2 with f2 | f2
        · rw [f2]; exact .inr g
        · exact .inr (ltP_trans f2 g)
    rcases hb with q | q
    · exact old (.inl q)
    · rcases List.mem_append.mp q with r | r
      · exact old (.inr r)
      · rw [List.mem_singleton.mp r, hpa]
        exact ⟨e, e1, e2⟩
  · by_cases hb : beyondB le p = true
    · rw [if_pos hb, if_pos hb]
      exact .inr ⟨a, p, by simp, rfl, rfl, hn, valV_put_eq⟩
    · rw [if_neg hb, if_neg hb]
      rcases v.last with ⟨l1, l2⟩ | ⟨h, q, h1, h2, h3, h4, h5⟩
      · exact .inl ⟨l1, l2⟩
      · exact .inr ⟨h, q, by simp [h1], h2, h3, h4, by rw [valV_put_ne (Ne.symm (hne h (.inr h1)))]; exact h5⟩
theorem rising_snoc {lev : Nat → Nat} {a : Nat} : ∀ {c : List Nat}, risingB lev c = true → (∀ x, c.getLast? = some x → lev x < lev a) → risingB lev (c ++ [a]) = true
  | [], _, _ => rfl
  | [x], _, h => by
    have := h x rfl
    unfold risingB
    simp [this]
  | x :: y :: r, h, hl => by
    have hx : lev x < lev y ∧ risingB lev (y :: r) = true := by
      unfold risingB at h ⊢
      simp only [List.drop_succ_cons, List.drop_zero, List.zip_cons_cons, List.all_cons, Bool.and_eq_true, decide_eq_true_eq] at h
      exact h
    have ih := rising_snoc (c := y :: r) hx.2 fun z hz => hl z (by rw [List.getLast?_cons_cons]; exact hz)
    unfold risingB at ih ⊢
    simp only [List.cons_append, List.drop_succ_cons, List.drop_zero, List.zip_cons_cons, List.all_cons, Bool.and_eq_true, decide_eq_true_eq]
    exact ⟨hx.1, ih⟩
theorem last_rev {l : List Nat} {x : Nat} (h : l.reverse.getLast? = some x) : x ∈ l := List.mem_reverse.mp (List.mem_of_getLast? h)
/-- the level is done -/
theorem Lvl.fin (v : Lvl ps ls lev i done Lj edge le holder lh pl kvs l) (h1 : ∀ a ∈ done, lev a < i) (h2 : ∀ a ∈ Lj, lev a = i) : ∃ l', Done ps ls lev (i + 1) (done ++ Lj) le lh pl kvs l' := by
  have hw : ∀ a ∈ done ++ Lj, ValidW ps (lateOf ls a) (wordOf pl a) ∧ fitsOf ps (lateOf ls a) (wordOf pl a) (sizeOf' ls a) = true := fun a ha => by
    rcases List.mem_append.mp ha with q | q
    · exact v.base.word a q
    · exact v.word a q
  have hb : ∀ a ∈ done ++ Lj, ∃ e, le = some e ∧ (placeOf ps ls pl a = e ∨ ltP (placeOf ps ls pl a) e) := fun a ha => v.top a (List.mem_append.mp ha)
  have hap : ∀ a ∈ done ++ Lj, ∀ b ∈ done ++ Lj, lev a < lev b → ltP (placeOf ps ls pl a) (placeOf ps ls pl b) := fun a ha b hb hab => by
    rcases List.mem_append.mp ha with q | q
    · rcases List.mem_append.mp hb with r | r
      · exact v.base.apart a q b r hab
      · obtain ⟨e, e1, e2⟩ := v.base.below a q
        have f := v.far b r e e1
        rcases e2 with e2 | e2
        · rw [e2]; exact f
        · exact ltP_trans e2 f
    · have qa := h2 a q
      rcases List.mem_append.mp hb with r | r
      · have := h1 b r; omega
      · have := h2 b r; omega
  rcases v.last with ⟨l1, l2⟩ | ⟨h, p, m1, m2, m3, m4, m5⟩
  · subst l1; subst l2
    exact ⟨l, v.base.len, hw, hb, hap, v.base.path, v.base.goes, v.base.rise, fun x hx => by simp [v.base.mem x hx], by have := v.base.llen; omega⟩
  · subst m2; subst m3
    refine ⟨h :: l, v.base.len, hw, hb, hap, ⟨rfl, holder, m5, v.base.path⟩, ?_, ?_, fun x hx => ?_, ?_⟩
    · rw [List.reverse_cons]
      exact goes_snoc v.base.goes m4
    · rw [List.reverse_cons]
      exact rising_snoc v.base.rise fun x hx => by
        have := h1 x (v.base.mem x (last_rev hx))
        have := h2 h m1
        omega
    · rcases List.mem_cons.mp hx with e | q
      · rw [e]; simp [m1]
      · simp [v.base.mem x q]
    · have := v.base.llen
      rw [List.length_cons]; omega
/-- a letter has no place: the chain bars -/
theorem Done.chain {a : Nat} (d : Done ps ls lev i done edge holder pl kvs l) (hn : nextOf ps ls a edge = none) (h1 : ∀ b ∈ done, lev b < i) (h2 : lev a = i) (ha : a ∉ done) :
    barsOf ps ls lev (a :: l).reverse = true ∧ Path (putK kvs (.inl (a : Int)) (vO holder)) (some a) (a :: l) := by
  refine ⟨?_, rfl, holder, valV_put_eq, d.path.put fun q => ha (d.mem a q)⟩
  rw [List.reverse_cons]
  refine bars_told d.goes hn (rising_snoc d.rise fun x hx => ?_)
  have := h1 x (d.mem x (last_rev hx))
  omega
end
end PM
end

section
set_option Elab.async false
set_option linter.all false
set_option maxRecDepth 100000
set_option maxHeartbeats 4000000
/-! the least plan: the walk -/
namespace PM
open PySem PySem.Spec PyProof.Rows L2
abbrev s_least_plan : Stmt := top 38
abbrev N_least_plan : List Str := ["mill", "letters", "wish", "plan", "back", "edge", "holder", "level", "later_edge", "later_holder", "letter", "place"]
theorem sc_least_plan : FnScope N_least_plan ["mill", "letters", "wish"] (defScope s_least_plan) := ⟨rfl, rfl, rfl, by decide +kernel, rfl, by decide +kernel, by decide +kernel⟩
theorem putK_len (kvs : List (Key × V)) (k : Key) (v : V) : (putK kvs k v).length ≤ kvs.length + 1 := by
  unfold putK
  split
  · simp
  · simp
section
variable {α β : Type} {K : PySem.W.Frag} {σ : L2.St} {F H F0 H0 : Hp} {te ta tb tv : TE} {R : Rep α} {S : Rep β} {D : Ends} {tz : TS}
/-- l = [x] * n, one's own -/
theorem q_repM {i : Nat} {y : α} {n : Nat} (U : Up F0 H0 F H) (ha : Ev ta σ F H (rLst R) [y]) (hb : Ev tb σ F H rInt (n : Int)) (hn : n ≤ 100000)
    (k : ∀ l F' H', Up F H F' H' → Up F0 H0 F' H' → ML H0 F' H' l R (List.replicate n y) → tz D (σ.set i (some (.ref l))) H') : tSeq (tAsg (tOp rRep ta tb) (gName i)) tz D σ H :=
  ha H U.s (Same.refl _) _ fun v F2 H2 u2 r2 => hb H2 (U.s.trans u2.h) u2.h _ fun w F3 H3 u3 r3 => by
    have u := u2.uni u3
    obtain ⟨p, vs, rfl, h2, h3⟩ := (rLst R).mono (u2.uniL u3) r2
    have r3' : w = .int (n : Int) := r3
    subst r3'
    obtain ⟨v, r, rfl, h4, h5⟩ := h3.consR
    have h6 := h5.nilR
    subst h6
    refine ⟨p, (n : Int), [v], rfl, rfl, u.s _ _ h2, by omega, by omega, Nat.le_trans (by simp; omega) (by decide : 100000 ≤ sizeLine), fun l hl => ?_⟩
    rw [flat_one, Int.toNat_natCast]
    have u' := Up.newM (o := .lst (List.replicate n v)) u.s hl
    have U2 := U.trans u
    exact k l _ _ (u.trans u') (U2.trans u') ⟨_, ⟨U2.h.free hl, U2.s.free hl, upd_same⟩, All2.replicate h4 _⟩
theorem q_dput {td : TE} {d : Addr} {kvs : List (Key × V)} {x : Nat} {y : β} (U : Up F0 H0 F H) (m : Mut H0 F H d (.dK kvs)) (hd : ∀ H1 (Q : VK), Same H H1 → Q (.ref d) H1 → td σ H1 Q) (hz : kvs.length < 100000) (h : Ev te σ F H rNat x) (hv : Ev tv σ F H S y)
    (k : ∀ v F' H1, Up F H F' H1 → S.r F' v y → Mut H0 F' H1 d (.dK kvs) → Up F0 H0 F' (upd H1 d (.dK (putK kvs (.inl (x : Int)) v))) → tz D σ (upd H1 d (.dK (putK kvs (.inl (x : Int)) v)))) : tSeq (sDPut td te tv) tz D σ H :=
  s_dput (D := { D with nx := tz D }) U m hd hz h hv k
end
theorem lev_below {ll : List (List Nat)} (nd : ll.flatten.Nodup) {i a : Nat} (h : a ∈ (ll.take i).flatten) : levOf ll a < i := by
  obtain ⟨l, hl, ha⟩ := List.mem_flatten.mp h
  obtain ⟨j, hj⟩ := List.getElem?_of_mem hl
  have hji : j < i := by
    have := (List.getElem?_eq_some_iff.mp hj).1
    rw [List.length_take] at this
    omega
  rw [List.getElem?_take_of_lt hji] at hj
  rw [levOf_at nd hj ha]
  exact hji
inductive Told where
  | plan (p : List (List Nat))
  | chain (c : List Nat)
def rTold : Rep Told := ⟨fun F v t => match t with
  | .plan p => (rTup2 rStr rPlan).r F v ("plan", p)
  | .chain c => (rTup2 rStr rRow).r F v ("chain", c), fun {F F' v t} e h => by
  cases t with
  | plan p => exact (rTup2 rStr rPlan).mono e h
  | chain c => exact (rTup2 rStr rRow).mono e h⟩
abbrev iLP := Passes' × Letters × List (List Nat)
def toldOK (i : iLP) : Told → Prop
  | .plan p => GoodP i.1 i.2.1 p ∧ DoesP i.1 i.2.1 p (levOf i.2.2)
  | .chain c => (∀ x ∈ c, x < i.2.1.length) ∧ c.length ≤ 1000 ∧ barsOf i.1 i.2.1 (levOf i.2.2) c = true
structure PreLP (i : iLP) : Prop where
  wf : WfP i.1
  wl : WfL i.1 i.2.1
  nd : i.2.2.flatten.Nodup
  mem : ∀ x, x ∈ i.2.2.flatten ↔ x < i.2.1.length
  len : i.2.2.length ≤ 100
section
variable {P : Program} {w : World} {K : PySem.W.Frag} {mg : Str → Option Value} {base : Heap} {Cm Cw ak bk : Addr} {σ : L2.St} {F H : Hp} {te : TE}
def sp_least_plan (Cm Cw : Addr) : Sp := SpF (ι := iLP) PreLP (fun i => apCons (rMill Cm) i.1 (apCons rLet i.2.1 (apCons (rWish Cw) i.2.2 apNil))) (fun i => rEx rTold (toldOK i)) (fun _ => ())
theorem done_zero {ps : Passes'} {ls : Letters} {lev : Nat → Nat} : Done ps ls lev 0 [] none none (List.replicate ls.length []) [] [] :=
  ⟨List.length_replicate, fun _ h => (by cases h), fun _ h => (by cases h), fun _ h => (by cases h), rfl, rfl, rfl, fun _ h => (by cases h), Nat.le_refl _⟩
theorem ok_least_plan (X : Tx K mg Cm Cw ak bk) (d : Df K mg "least_plan" s_least_plan) (h_look_at_letters : HasF P w K mg base "look_at_letters" 2 ["mill", "letters"] (sp_look_at_letters Cm))
    (h_Wish_levels : HasM P w K mg base Cw "levels" 1 ["self"] (sp_wlevels Cw)) (h_next_place : HasF P w K mg base "next_place" 7 ["mill", "letters", "letter", "beyond"] (sp_next_place Cm))
    (h_chain_to : HasF P w K mg base "chain_to" 1 ["back", "letter"] sp_chain_to) (h_code_word : HasF P w K mg base "code_word" 3 ["mill", "late", "code"] (sp_code_word Cm)) :
    HasF P w K mg base "least_plan" 8 ["mill", "letters", "wish"] (sp_least_plan Cm Cw) := by
  refine ok_def d sc_least_plan (fun _ _ _ _ _ _ us hl => match us, hl with | [_, _, _], _ => rfl) (fun i F vs h => ?_) fun f cdv A0 outer s H0 E hr => ⟨_, (pss_cons (ps_expr (pe_hf h_look_at_letters (hr.mono (by decide)) (by rfl) (pa_cons (pv 0) (pa_cons (pv 1) pa_nil))))
      (pss_cons (ps_set (i := 3) sc_least_plan.nd rfl (.inl rfl) (pe_op op_rep (pe_lst (pa_cons (pe_tup pa_nil) pa_nil)) (pe_callB (r := rLenS K) call_len_seq (by rfl) X.z_len (by decide +kernel) (pa_cons (pv 1) pa_nil))))
      (pss_cons (ps_set (i := 4) sc_least_plan.nd rfl (.inl rfl) pe_dnewK)
      (pss_cons (ps_set (i := 5) sc_least_plan.nd rfl (.inl rfl) pe_non)
      (pss_cons (ps_set (i := 6) sc_least_plan.nd rfl (.inl rfl) pe_non)
      (pss_cons (ps_for PassesOwn.never rfl (pi_list (pe_hm0 (pv 2) X.k_Wish h_Wish_levels (hr.mono (by decide)))) (pg_name (i := 7) sc_least_plan.nd rfl (Or.inl rfl))
      (pss_cons (ps_set (i := 8) sc_least_plan.nd rfl (.inl rfl) (pv 5))
      (pss_cons (ps_set (i := 9) sc_least_plan.nd rfl (.inl rfl) (pv 6))
      (pss_cons (ps_for PassesOwn.never rfl (pi_list (pv 7)) (pg_name (i := 10) sc_least_plan.nd rfl (Or.inl rfl))
      (pss_cons (ps_dput (hu_of hr) (pv 4) (pv 10) (pv 6) rfl)
      (pss_cons (ps_set (i := 11) sc_least_plan.nd rfl (.inl rfl) (pe_hf h_next_place (hr.mono (by decide)) (by rfl) (pa_cons (pv 0) (pa_cons (pv 1) (pa_cons (pv 10) (pa_cons (pv 5) pa_nil))))))
      (pss_cons (ps_if (pt_cmpR op_isN (pv 11) pe_non (nomark _)) (pss_one (ps_ret (pe_tup (pa_cons pe_str (pa_cons (pe_hf h_chain_to (hr.mono (by decide)) (by rfl) (pa_cons (pv 4) (pa_cons (pv 10) pa_nil))) pa_nil))))) pss_nil)
      (pss_cons (ps_asg (pe_hf h_code_word (hr.mono (by decide)) (by rfl) (pa_cons (pv 0) (pa_cons (pe_ix (r := rIxT K) ix_tup (pe_ix (r := rIxL K) ix_list (pv 1) (pv 10) (fun _ _ => rfl)) pe_int (fun _ _ => rfl)) (pa_cons (pe_ix (r := rIxT K) ix_tup (pv 11) pe_int (fun _ _ => rfl)) pa_nil)))) (pg_sub (pv 3) (pv 10) set_list))
      (pss_one (ps_if (PW.pt (pw_or (pt_cmpR op_isN (pv 8) pe_non (nomark _)) (pw_or1 (pt_cmpR (op_gtT hr.units0) (pv 11) (pv 8) (nomark _))))) (pss_cons (ps_set (i := 8) sc_least_plan.nd rfl (.inl rfl) (pv 11))
      (pss_one (ps_set (i := 9) sc_least_plan.nd rfl (.inl rfl) (pv 10)))) pss_nil)))))))
      (pss_cons (ps_set (i := 5) sc_least_plan.nd rfl (.inl rfl) (pv 8))
      (pss_one (ps_set (i := 6) sc_least_plan.nd rfl (.inl rfl) (pv 9))))))))
      (pss_one (ps_ret (pe_tup (pa_cons pe_str (pa_cons (pv 3) pa_nil))))))))))), ?_⟩
  · obtain ⟨_, _, _, rfl, _⟩ := ap3 h
    rfl
  · rintro ⟨ps, ls, ll⟩ F H vs hp eF h Q k
    obtain ⟨wf, wl, nd, mem, len⟩ := hp
    dsimp only at wf wl nd mem len h k
    obtain ⟨a, b, c, rfl, ra, rb, rc⟩ := ap3 h
    have hm := wl.many
    have hfl : ll.flatten.length ≤ 24 := by
      have := len_of_nodup nd (m := List.range ls.length) fun x hx => List.mem_range.mpr ((mem x).mp hx)
      rw [List.length_range] at this
      omega
    refine q_drop (ev_call (ps, ls) (ea_cons (ev_var rfl ra) (ea_cons (ev_var rfl rb) ea_nil)) wl) eF fun _ F1 H1 u1 _ => ?_
    replace rb := rLet.mono u1.f rb
    refine q_repM (R := rWord) (y := []) (n := ls.length) u1 (ev_lst1 (ev_tupL (R := rNat) (xs := []) ea_nilL (by simp))) (ev_lenL (R := rLetter) (ev_var rfl rb)) (by omega) fun lp F2 H2 u2 U2 m2 => ?_
    refine q_dnew U2 fun dd H3 hd3 u3 U3 md3 => ?_
    have hdl : lp ≠ dd := m2.ne hd3
    replace m2 := m2.up u3
    refine q_set (R := rOpt rPlace) (x := none) ev_non U3.s fun ve F4 H4 u4 r4 => ?_
    have U4 := U3.trans u4
    refine q_set (R := rOpt rNat) (x := none) ev_non U4.s fun vh F5 H5 u5 r5 => ?_
    have U5 := U4.trans u5
    have e5 := vO_eq r5
    subst e5
    replace ra := (rMill Cm).mono U5.f ra
    replace rb := rLet.mono ((u2.f.trans u4.f).trans u5.f) rb
    replace rc := (rWish Cw).mono U5.f rc
    replace r4 := (rOpt rPlace).mono u5.f r4
    replace m2 := (m2.up u4).up u5
    replace md3 := (md3.up u4).up u5
    refine q_for (R := rRow) (xs := ll) (ei_list (R := rRow) (ev_meth (A0 := apNil) ll (ev_var (R := rWish Cw) rfl rc) (fun _ _ r => wish_ins (by decide +kernel) (by decide +kernel) (by decide +kernel) r) ea_nil (fun _ _ _ r1 r2 => ⟨_, _, rfl, r1, r2⟩) len)) U5.s
      (fun i σ F' H' => Up F H F' H' ∧ Same F5 F' ∧ ∃ edge holder pl kvs l ve x7 x8 x9 x10 x11, Done ps ls (levOf ll) i (ll.take i).flatten edge holder pl kvs l ∧ ML H F' H' lp rWord pl ∧ Mut H F' H' dd (.dK kvs) ∧ kvs.length ≤ (ll.take i).flatten.length ∧
        (rOpt rPlace).r F' ve edge ∧ σ = [some a, some b, some c, some (.ref lp), some (.ref dd), some ve, some (vO holder), x7, x8, x9, x10, x11])
      (fun F6 H6 u6 => ⟨U5.trans u6, u6.f, none, none, _, _, _, ve, none, none, none, none, none, done_zero, m2.up u6, md3.up u6, Nat.le_refl _, (rOpt rPlace).mono u6.f r4, rfl⟩) (fun _ _ _ _ p => p.1.s) ?_ ?_
    · rintro i lv σ F6 H6 v hlv ⟨U6, f6, edge, holder, pl, kvs, l, ve, x7, x8, x9, x10, x11, dn, m6, md6, hkv, re, rfl⟩ rv
      have hdone : ∀ a ∈ (ll.take i).flatten, levOf ll a < i := fun a ha => lev_below nd ha
      have hlev : ∀ a ∈ lv, levOf ll a = i := fun a ha => levOf_at nd hlv ha
      have hll := flat_take_len hlv
      have hin : ∀ a ∈ lv, a < ls.length := fun a ha => (mem a).mp (List.mem_flatten.mpr ⟨lv, List.mem_of_getElem? hlv, ha⟩)
      have hdin : ∀ a ∈ (ll.take i).flatten, a < ls.length := fun a ha => by
        obtain ⟨q, q1, q2⟩ := List.mem_flatten.mp ha
        exact (mem a).mp (List.mem_flatten.mpr ⟨q, List.mem_of_mem_take q1, q2⟩)
      have hil : i < ll.length := (List.getElem?_eq_some_iff.mp hlv).1
      refine q_set (R := rOpt rPlace) (x := edge) (ev_var rfl re) U6.s fun v8 F8 H8 u8 r8 => ?_
      have U8 := U6.trans u8
      refine q_set (R := rOpt rNat) (x := holder) (ev_var rfl (vO_r holder)) U8.s fun v9 F9 H9 u9 r9 => ?_
      have U9 := U8.trans u9
      have e9 := vO_eq r9
      subst e9
      have f9 : Same F6 F9 := u8.f.trans u9.f
      have re9 := (rOpt rPlace).mono f9 re
      have ra9 := (rMill Cm).mono (f6.trans f9) ra
      have rb9 := rLet.mono (f6.trans f9) rb
      refine q_for (R := rNat) (xs := lv) (ei_list (R := rNat) (ev_var rfl (rRow.mono f9 rv))) U9.s
        (fun j σ F' H' => Up F H F' H' ∧ Same F9 F' ∧ ∃ pl kvs le lh v8 x10 x11, Lvl ps ls (levOf ll) i (ll.take i).flatten (lv.take j) edge le holder lh pl kvs l ∧ ML H F' H' lp rWord pl ∧ Mut H F' H' dd (.dK kvs) ∧ kvs.length ≤ (ll.take i).flatten.length + j ∧
          (rOpt rPlace).r F' v8 le ∧ σ = [some a, some b, some c, some (.ref lp), some (.ref dd), some ve, some (vO holder), some v, some v8, some (vO lh), x10, x11])
        (fun F10 H10 u10 => ⟨U9.trans u10, u10.f, pl, kvs, edge, holder, v8, x10, x11, Lvl.start dn, ((m6.up u8).up u9).up u10, ((md6.up u8).up u9).up u10, hkv, (rOpt rPlace).mono (u9.f.trans u10.f) r8, rfl⟩) (fun _ _ _ _ p => p.1.s) ?_ ?_
      · rintro j x σ F10 H10 vx hx ⟨U10, f10, pl, kvs, le, lh, v8, x10, x11, vl, m10, md10, hkv, r8, rfl⟩ rvx
        have hxm : x ∈ lv := List.mem_of_getElem? hx
        have hxl := hin x hxm
        have hnew := flat_at nd hlv hx
        rw [List.mem_append, not_or] at hnew
        have hjl : j < lv.length := (List.getElem?_eq_some_iff.mp hx).1
        refine q_dput (x := x) (S := rOpt rNat) (y := holder) U10 md10 (hd_var rfl) (by omega) (ev_var (R := rNat) rfl rvx) (ev_var rfl (vO_r holder)) fun v11 F11 H11 u11 r11 md11 U11 => ?_
        have e11 := vO_eq r11
        subst e11
        have m11 := (m10.up u11).side (o := .dK (putK kvs (.inl (x : Int)) (vO holder))) hdl
        replace md11 := md11.put (.dK (putK kvs (.inl (x : Int)) (vO holder)))
        have hkv2 := putK_len kvs (.inl (x : Int)) (vO holder)
        have f11 : Same F9 F11 := f10.trans u11.f
        refine q_set (ev_call (ps, ls, x, edge) (ea_cons (ev_var rfl ((rMill Cm).mono f11 ra9)) (ea_cons (ev_var rfl (rLet.mono f11 rb9)) (ea_cons (ev_var rfl (rNat.mono u11.f rvx)) (ea_cons (ev_var rfl ((rOpt rPlace).mono f11 re9)) ea_nil)))) ⟨wf, wl, hxl⟩) U11.s fun v12 F12 H12 u12 r12 => ?_
        dsimp only at r12
        have U12 := U11.trans u12
        have m12 := m11.up u12
        have md12 := md11.up u12
        have rvx12 := rNat.mono (u11.f.trans u12.f) rvx
        cases hn : nextOf ps ls x edge with
        | none =>
          rw [hn] at r12
          refine q_if ((eb_test (ev_isN (R := rPlace) (o := none) (ev_var rfl r12))).is rfl) U12.s (fun _ H13 u13 => ?_) (fun hb => nomatch hb)
          have U13 := U12.trans u13
          have md13 := md12.up u13
          have U14 := U13.freeze md13
          obtain ⟨hb, hpath⟩ := vl.base.chain hn hdone (hlev x hxm) hnew.1
          have hl := vl.base.llen
          refine s_ret (ev_tup2 (R := rStr) (S := rRow) ev_str (ev_call (putK kvs (.inl (x : Int)) (vO holder), some x, x :: l) (ea_cons (ev_var (R := rD) rfl ⟨dd, rfl, upd_same⟩) (ea_cons (ev_var (R := rOpt rNat) rfl ((rOpt rNat).mono md13.same ⟨rvx12, rNat_not rvx12⟩)) ea_nil)) ⟨?_, by simp; omega⟩)) U14.s fun v15 F15 H15 u15 r15 => k v15 F15 H15 (U14.trans u15) ⟨.chain (x :: l).reverse, r15, fun y hy => ?_, by simp; omega, hb⟩
          · exact hpath
          · rw [List.mem_reverse] at hy
            rcases List.mem_cons.mp hy with e | q
            · rw [e]; exact hxl
            · exact hdin y (vl.base.mem y q)
        | some p =>
          rw [hn] at r12
          obtain ⟨hpo, _⟩ := next_some hn
          obtain ⟨wd, hw, hf, hpw⟩ := (open_mem wf wl hxl).mp hpo
          have hcode : codeWord ps (lateOf ls x) p.1 = some wd := by
            rw [hpw]
            exact codeWord_of wf hw
          have hbnd := wordCode_bound wf hw
          have hp1 : p.1 = wordCode ps (lateOf ls x) wd := by rw [hpw]; rfl
          refine q_guard ((eb_test (ev_isN (R := rPlace) (o := some p) (ev_var rfl r12))).is rfl) U12.s fun H13 u13 => ?_
          have U13 := U12.trans u13
          have rb13 := rLet.mono (f11.trans u12.f) rb9
          have ra13 := (rMill Cm).mono (f11.trans u12.f) ra9
          have hpl : x < pl.length := by rw [vl.base.len]; exact hxl
          refine q_setL (x := wd) (n := (x : Int)) U13 (m12.up u13) rfl ((ev_call (ps, lateOf ls x, p.1) (ea_cons (ev_var rfl ra13) (ea_cons (ev_snd (R := rInt) (S := rNat) (p := (sizeOf' ls x, lateOf ls x)) (ev_ixL (R := rLetter) (ev_var rfl rb13) (Ev.ofNat (ev_var (R := rNat) rfl rvx12)) (by omega) (letter_at hxl))) (ea_cons (ev_fst (R := rInt) (S := rInt) (p := p) (ev_var rfl r12.1)) ea_nil)))
            ⟨wf, late_le wl hxl, by dsimp only; omega, by dsimp only; omega⟩).as fun F v q => ?_) (Ev.ofNat (ev_var (R := rNat) rfl rvx12)) (by omega) (by omega) fun F14 H14 ws u14 U14 m14 => ?_
          · dsimp only at q
            rw [hcode] at q
            exact q.1
          rw [Int.toNat_natCast] at m14
          have md14 := ((md12.up u13).up u14).side (o' := .lst ws) (Ne.symm hdl)
          have r8' := (rOpt rPlace).mono ((u11.f.trans u12.f).trans u14.f) r8
          have r12' := (rOpt rPlace).mono u14.f r12
          have rvx14 := rNat.mono u14.f rvx12
          have hstep := vl.step hnew.1 hnew.2 hxl hn hw hf hpw
          refine s_if (eb_beyond (p := p) rfl rfl r8' r12'.1) U14.s (fun hb H15 u15 => ?_) (fun hb H15 u15 => ?_)
          · rw [if_pos hb, if_pos hb] at hstep
            refine q_set (ev_var (R := rOpt rPlace) rfl r12') u15.s fun v16 F16 H16 u16 r16 => ?_
            refine s_set (R := rOpt rNat) (x := some x) (ev_var rfl ((rOpt rNat).mono u16.f ⟨rvx14, rNat_not rvx14⟩)) u16.s fun v17 F17 H17 u17 r17 => ?_
            have e17 := vO_eq r17
            subst e17
            refine ⟨F17, ((u11.f.trans u12.f).trans u14.f).trans (u16.f.trans u17.f), ((U14.trans u15).trans u16).trans u17, (f11.trans u12.f).trans (u14.f.trans (u16.f.trans u17.f)), _, _, _, _, _, _, _, ?_, ((m14.up u15).up u16).up u17, ((md14.up u15).up u16).up u17, by omega, (rOpt rPlace).mono u17.f r16, rfl⟩
            rw [take_snoc hx]
            exact hstep
          · rw [if_neg (by rw [hb]; decide), if_neg (by rw [hb]; decide)] at hstep
            refine ⟨F14, (u11.f.trans u12.f).trans u14.f, U14.trans u15, (f11.trans u12.f).trans u14.f, _, _, _, _, _, _, _, ?_, m14.up u15, md14.up u15, by omega, r8', rfl⟩
            rw [take_snoc hx]
            exact hstep
      · rintro σ F10 H10 ⟨U10, f10, pl, kvs, le, lh, v8, x10, x11, vl, m10, md10, hkv, r8, rfl⟩
        rw [List.take_length] at vl
        obtain ⟨l', dn'⟩ := vl.fin hdone hlev
        refine q_set (R := rOpt rPlace) (x := le) (ev_var rfl r8) U10.s fun v11 F11 H11 u11 r11 => ?_
        refine s_set (R := rOpt rNat) (x := lh) (ev_var rfl (vO_r lh)) u11.s fun v12 F12 H12 u12 r12 => ?_
        have e12 := vO_eq r12
        subst e12
        refine ⟨F12, f9.trans (f10.trans (u11.f.trans u12.f)), (U10.trans u11).trans u12, (f6.trans f9).trans (f10.trans (u11.f.trans u12.f)), _, _, _, _, l', _, _, _, _, _, _, ?_, (m10.up u11).up u12, (md10.up u11).up u12, ?_, (rOpt rPlace).mono u12.f r11, rfl⟩
        · rw [take_flat hlv]
          exact dn'
        · rw [take_flat hlv, List.length_append]
          exact hkv
    · rintro σ F6 H6 ⟨U6, f6, edge, holder, pl, kvs, l, ve, x7, x8, x9, x10, x11, dn, m6, md6, hkv, re, rfl⟩
      rw [List.take_length] at dn
      obtain ⟨F7, f7, U7, r7, _⟩ := m6.freeze U6
      refine s_ret (ev_tup2 (R := rStr) (S := rPlan) ev_str (ev_var rfl r7)) U7.s fun v F8 H8 u8 r8 => k v F8 H8 (U7.trans u8) ⟨.plan pl, r8, ⟨dn.len, fun x hx => (dn.word x ((mem x).mpr hx)).1, fun x hx => (dn.word x ((mem x).mpr hx)).2⟩, fun x y hx hy hxy => dn.apart x ((mem x).mpr hx) y ((mem y).mpr hy) hxy⟩
end
end PM
end

section
set_option Elab.async false
set_option linter.all false
set_option maxRecDepth 100000
set_option maxHeartbeats 4000000
/-! what is asked: cells, passes, letters -/
namespace PM
open PySem PySem.Spec PyProof.Rows L2
abbrev s__law_cell_at : Stmt := top 49
abbrev N__law_cell_at : List Str := ["script", "k"]
theorem sc__law_cell_at : FnScope N__law_cell_at ["script", "k"] (defScope s__law_cell_at) := ⟨rfl, rfl, rfl, by decide +kernel, rfl, by decide +kernel, by decide +kernel⟩
abbrev s__law_part : Stmt := top 50
abbrev N__law_part : List Str := ["cell", "at", "k"]
theorem sc__law_part : FnScope N__law_part ["cell", "at"] (defScope s__law_part) := ⟨rfl, rfl, rfl, by decide +kernel, rfl, by decide +kernel, by decide +kernel⟩
abbrev s__law_folded : Stmt := top 51
abbrev N__law_folded : List Str := ["script", "many", "stir", "cell", "found", "k", "at"]
theorem sc__law_folded : FnScope N__law_folded ["script", "many"] (defScope s__law_folded) := ⟨rfl, rfl, rfl, by decide +kernel, rfl, by decide +kernel, by decide +kernel⟩
abbrev s__law_pocket : Stmt := top 52
abbrev N__law_pocket : List Str := ["cell", "width"]
theorem sc__law_pocket : FnScope N__law_pocket ["cell"] (defScope s__law_pocket) := ⟨rfl, rfl, rfl, by decide +kernel, rfl, by decide +kernel, by decide +kernel⟩
abbrev s__law_passes : Stmt := top 53
abbrev N__law_passes : List Str := ["cells", "most", "passes", "product", "t", "many", "j"]
theorem sc__law_passes : FnScope N__law_passes ["cells", "most"] (defScope s__law_passes) := ⟨rfl, rfl, rfl, by decide +kernel, rfl, by decide +kernel, by decide +kernel⟩
abbrev s__law_letters : Stmt := top 54
abbrev N__law_letters : List Str := ["cells", "at", "passes", "most", "many", "letters", "k", "cell", "late"]
theorem sc__law_letters : FnScope N__law_letters ["cells", "at", "passes", "most"] (defScope s__law_letters) := ⟨rfl, rfl, rfl, by decide +kernel, rfl, by decide +kernel, by decide +kernel⟩
section
variable {α β : Type} {K : PySem.W.Frag} {σ : L2.St} {F H F0 H0 : Hp} {te ta tb tv : TE} {R : Rep α} {S : Rep β} {D : Ends} {tz : TS}
/-- the script -/
def rScr (K : PySem.W.Frag) : Rep (List Int) := ⟨fun F v ns => ∃ a, v = .ref a ∧ SqL K F a (ns.map V.int), fun e h => by
  obtain ⟨a, h1, h2⟩ := h
  exact ⟨a, h1, e.seq h2⟩⟩
theorem ev_lenS {ns : List Int} (ha : Ev ta σ F H (rScr K) ns) : Ev (tCB (rLenS K) (tCons ta tNil)) σ F H rInt (ns.length : Int) := fun H1 a b Q q =>
  ha H1 a b _ fun v F2 H2 u2 r2 => by
    obtain ⟨p, rfl, h2⟩ := r2
    exact ⟨p, _, rfl, .inl (u2.s.seq h2), q _ F2 H2 u2 (show _ = _ by rw [List.length_map])⟩
theorem ev_ixS {ns : List Int} {i y : Int} (ha : Ev ta σ F H (rScr K) ns) (hb : Ev tb σ F H rInt i) (h0 : 0 ≤ i) (h : ns[i.toNat]? = some y) : Ev (tOp (rIxL K) ta tb) σ F H rInt y :=
  ev_two ha hb fun F1 H1 a b _ e1 _ ra rb Q q => by
    obtain ⟨p, rfl, h2⟩ := ra
    exact ⟨p, _, i, .int y, rfl, rb, e1.seq h2, atI_int h0 (by rw [List.getElem?_map, h]; rfl), q _ F1 H1 (Up.refl e1) rfl⟩
theorem ei_scr {tl : TE} {ns : List Int} (h : Ev tl σ F H (rScr K) ns) : EvI (iList K tl) σ F H rInt ns True := fun H1 a b k q =>
  h H1 a b _ fun v F2 H2 u r => by
    obtain ⟨p, rfl, h2⟩ := r
    refine ⟨p, rfl, ⟨_, u.s.seq h2⟩, q _ F2 H2 u ⟨fun i H hi q => ?_, fun H q => ⟨_, q.seq h2, by rw [List.length_map]; exact Nat.le_refl _⟩, fun i x F' H v H' hx q1 q2 y => ?_⟩⟩
    · exact ⟨_, .int ns[i], q.seq h2, by rw [List.getElem?_map, List.getElem?_eq_getElem hi]; rfl⟩
    · obtain ⟨rfl, y2⟩ := y
      have h1 := y2 _ (q2.seq (q1.seq h2))
      rw [List.getElem?_map, hx] at h1
      exact ⟨F', Up.refl q2, (Option.some.inj h1).symm, fun _ => ⟨rfl, rfl⟩⟩
/-- [a, b, ..][e % n] -/
theorem ev_sel {tr : TA} {xs : List α} {i n : Int} (d : α) (h : EvA tr σ F H (apAll R xs)) (hb : Ev tb σ F H rInt (i % n)) (hl : (xs.length : Int) = n) (h0 : 0 < n) (hz : xs.length ≤ 100000) : Ev (tOp (rIxL K) (tLst tr) tb) σ F H R (xs.getD (i % n).toNat d) := by
  have h1 := Int.emod_nonneg i (show n ≠ 0 by omega)
  have h2 := Int.emod_lt_of_pos i h0
  exact ev_ixL (ev_lst h hz) hb h1 (by rw [List.getD_eq_getElem?_getD, List.getElem?_eq_getElem (by omega)]; rfl)
theorem sel_mem {xs : List α} {i n : Int} (d : α) (hl : (xs.length : Int) = n) (h0 : 0 < n) : xs.getD (i % n).toNat d ∈ xs := by
  have h1 := Int.emod_nonneg i (show n ≠ 0 by omega)
  have h2 := Int.emod_lt_of_pos i h0
  rw [List.getD_eq_getElem?_getD, List.getElem?_eq_getElem (by omega)]
  exact List.getElem_mem _
theorem ev_cell {cs : List Int} {i : Int} (ha : Ev ta σ F H (rLst rInt) cs) (hb : Ev tb σ F H rInt i) (h : 0 ≤ i ∧ i < (cs.length : Int)) : Ev (tOp (rIxL K) ta tb) σ F H rInt (cs.getD i.toNat 0) :=
  ev_ixL ha hb h.1 (by rw [List.getD_eq_getElem?_getD, List.getElem?_eq_getElem (by omega)]; rfl)
end
section
variable {P : Program} {w : World} {K : PySem.W.Frag} {mg : Str → Option Value} {base : Heap} {Cm Cw ak bk : Addr} {σ : L2.St} {F H : Hp} {te : TE}
def sp_cell_at (K : PySem.W.Frag) : Sp := SpF (ι := List Int × Nat) (fun _ => True) (fun i => apCons (rScr K) i.1 (apCons rNat i.2 apNil)) (fun _ => rInt) (fun i => i.1.getD i.2 0)
theorem ok_cell_at (X : Tx K mg Cm Cw ak bk) (d : Df K mg "_law_cell_at" s__law_cell_at) : HasF P w K mg base "_law_cell_at" 1 ["script", "k"] (sp_cell_at K) := by
  refine ok_def d sc__law_cell_at (fun _ _ _ _ _ _ us hl => match us, hl with | [_, _], _ => rfl) (fun i F vs h => ?_) fun f cdv A0 outer s H0 E hr => ⟨_, (pss_cons (ps_if (pt_cmpR op_lt (pv 1) (pe_callB (r := rLenS K) call_len_seq (by rfl) X.z_len (by decide +kernel) (pa_cons (pv 0) pa_nil)) (nomark _)) (pss_one (ps_ret (pe_ix (r := rIxL K) ix_list (pv 0) (pv 1) (fun _ _ => rfl)))) pss_nil)
      (pss_one (ps_ret pe_int))), ?_⟩
  · obtain ⟨_, _, rfl, _⟩ := ap2 h
    rfl
  · rintro ⟨ns, n⟩ F H vs _ eF h Q k
    dsimp only at h k
    obtain ⟨a, b, rfl, ra, rb⟩ := ap2 h
    refine q_if (eb_test (ev_lt (Ev.ofNat (ev_var (R := rNat) rfl rb)) (ev_lenS (ev_var rfl ra)))) eF (fun hb H1 u1 => ?_) (fun hb H1 u1 => ?_)
    · have hlt : n < ns.length := by have := of_decide_eq_true hb; omega
      have e : ns[((n : Int)).toNat]? = some (ns.getD n 0) := by rw [Int.toNat_natCast, List.getD_eq_getElem?_getD, List.getElem?_eq_getElem hlt]; rfl
      refine s_ret (R := rInt) (x := ns.getD n 0) ?_ u1.s fun v F2 H2 u2 r2 => ?_
      · exact ev_ixS (ev_var rfl ra) (Ev.ofNat (ev_var (R := rNat) rfl rb)) (Int.natCast_nonneg n) e
      · exact k v F2 H2 (u1.trans u2) r2
    · have hge : ns.length ≤ n := by have := of_decide_eq_false hb; omega
      refine s_ret (D := { nx := fun _ H' => Q .non H', rt := Q }) (σ := [some a, some b]) (te := tC (.int 0)) (R := rInt) (x := 0) ev_int u1.s fun v F2 H2 u2 r2 => k v F2 H2 (u1.trans u2) ?_
      rw [List.getD_eq_getElem?_getD, List.getElem?_eq_none hge]
      exact r2
def partN (c : Int) : Nat → Int
  | 0 => c
  | n + 1 => partN c n / 1000000
def sp_part : Sp := SpF (ι := Int × Nat) (fun i => i.2 ≤ 1000) (fun i => apCons rInt i.1 (apCons rNat i.2 apNil)) (fun _ => rInt) (fun i => partN i.1 i.2 % 1000000)
theorem ok_part (X : Tx K mg Cm Cw ak bk) (d : Df K mg "_law_part" s__law_part) : HasF P w K mg base "_law_part" 1 ["cell", "at"] sp_part := by
  refine ok_def d sc__law_part (fun _ _ _ _ _ _ us hl => match us, hl with | [_, _], _ => rfl) (fun i F vs h => ?_) fun f cdv A0 outer s H0 E hr => ⟨_, (pss_cons (ps_for PassesOwn.never rfl (pi_range1 (by rfl) X.z_range (pa_cons (pv 1) pa_nil)) (pg_name (i := 2) sc__law_part.nd rfl (Or.inl rfl))
      (pss_one (ps_set (i := 0) sc__law_part.nd rfl (.inl rfl) (pe_op op_fdiv (pv 0) pe_int))))
      (pss_one (ps_ret (pe_op op_mod (pv 0) pe_int)))), ?_⟩
  · obtain ⟨_, _, rfl, _⟩ := ap2 h
    rfl
  · rintro ⟨c, n⟩ F H vs hp eF h Q k
    dsimp only at hp h k
    obtain ⟨a, b, rfl, ra, rb⟩ := ap2 h
    have ra' : a = .int c := ra
    subst ra'
    refine q_for (ei_rng1 (n := n) (ea_cons (Ev.ofNat (ev_var (R := rNat) rfl rb)) ea_nil) (by omega)) eF (fun i σ F' H' => Up F H F' H' ∧ ∃ x, σ = [some (.int (partN c i)), some b, x]) (fun F1 H1 u1 => ⟨u1, none, rfl⟩) (fun _ _ _ _ p => p.1.s) ?_ ?_
    · rintro i j σ F1 H1 v hj ⟨U1, x, rfl⟩ rv
      refine s_set (ev_fdiv (ev_var (R := rInt) rfl rfl) ev_int ⟨by decide, by decide⟩) U1.s fun v2 F2 H2 u2 r2 => ?_
      have r2' : v2 = .int _ := r2
      subst r2'
      exact ⟨F2, u2.f, U1.trans u2, _, rfl⟩
    · rintro σ F1 H1 ⟨U1, x, rfl⟩
      rw [List.length_range]
      exact s_ret (ev_mod (ev_var (R := rInt) rfl rfl) ev_int (by decide)) U1.s fun v F2 H2 u2 r2 => k v F2 H2 (U1.trans u2) r2
def sp_folded (K : PySem.W.Frag) : Sp := SpF (ι := List Int) (fun i => i.length ≤ 1000) (fun i => apCons (rScr K) i (apCons rNat 70 apNil)) (fun _ => rEx (rLst rInt) fun l => l.length = 70) (fun _ => ())
theorem ok_folded (X : Tx K mg Cm Cw ak bk) (d : Df K mg "_law_folded" s__law_folded) (h__law_cell_at : HasF P w K mg base "_law_cell_at" 1 ["script", "k"] (sp_cell_at K)) (h__law_part : HasF P w K mg base "_law_part" 1 ["cell", "at"] sp_part) :
    HasF P w K mg base "_law_folded" 2 ["script", "many"] (sp_folded K) := by
  refine ok_def d sc__law_folded (fun _ _ _ _ _ _ us hl => match us, hl with | [_, _], _ => rfl) (fun i F vs h => ?_) fun f cdv A0 outer s H0 E hr => ⟨_, (pss_cons (ps_if (pt_cmpR op_eq (pe_op op_mod (pe_hf h__law_cell_at (hr.mono (by decide)) (by rfl) (pa_cons (pv 0) (pa_cons pe_int pa_nil))) pe_int) pe_int (nomark _)) (pss_one (ps_ret (pe_lc (own := [("k", 5)]) (g := (gName 5)) (tt := tYes) rfl sc__law_folded.nd (pi_range1 (by rfl) X.z_range (pa_cons (pv 1) pa_nil)) (blkOk_by (N := N__law_folded) (sc := defScope s__law_folded) (by decide +kernel)) (fun _ _ _ _ _ => (pg_name (i := 5) sc__law_folded.nd rfl (Or.inl rfl))) (fun _ _ _ _ _ => pts_nil) (fun _ _ _ _ _ => (pe_hf h__law_part (hr.mono (by decide)) (by rfl) (pa_cons (pe_hf h__law_cell_at (hr.mono (by decide)) (by rfl) (pa_cons (pv 0) (pa_cons (pe_op op_add pe_int (pe_op op_mod (pv 5) pe_int)) pa_nil))) (pa_cons (pe_op op_fdiv (pv 5) pe_int) pa_nil))))))) pss_nil)
      (pss_cons (ps_set (i := 2) sc__law_folded.nd rfl (.inl rfl) pe_int)
      (pss_cons (ps_for PassesOwn.never rfl (pi_list (pv 0)) (pg_name (i := 3) sc__law_folded.nd rfl (Or.inl rfl))
      (pss_one (ps_set (i := 2) sc__law_folded.nd rfl (.inl rfl) (pe_op op_mod (pe_op op_add (pe_op op_add (pe_op op_mul (pv 2) (pv 2)) (pe_op op_mul (pv 3) pe_int)) pe_int) pe_int))))
      (pss_cons (ps_set (i := 4) sc__law_folded.nd rfl (.inl rfl) (pe_lst pa_nil))
      (pss_cons (ps_for PassesOwn.never rfl (pi_range1 (by rfl) X.z_range (pa_cons (pv 1) pa_nil)) (pg_name (i := 5) sc__law_folded.nd rfl (Or.inl rfl))
      (pss_cons (ps_set (i := 2) sc__law_folded.nd rfl (.inl rfl) (pe_op op_mod (pe_op op_add (pe_op op_add (pe_op op_mul (pv 2) (pv 2)) (pe_op op_mul pe_int (pv 5))) pe_int) pe_int))
      (pss_one (ps_expr (pe_bm PySem.F.plainAttrs_list PySem.F.slot_list_append PySem.F.type_list_append mt_append (pv 4) (pa_cons (pv 2) pa_nil))))))
      (pss_cons (ps_for PassesOwn.never rfl (pi_range1 (by rfl) X.z_range (pa_cons (pe_callB (r := rLenS K) call_len_seq (by rfl) X.z_len (by decide +kernel) (pa_cons (pv 0) pa_nil)) pa_nil)) (pg_name (i := 5) sc__law_folded.nd rfl (Or.inl rfl))
      (pss_cons (ps_set (i := 6) sc__law_folded.nd rfl (.inl rfl) (pe_op op_mod (pv 5) (pv 1)))
      (pss_one (ps_asg (pe_op op_mod (pe_op op_add (pe_op op_mul (pe_ix (r := rIxL K) ix_list (pv 4) (pv 6) (fun _ _ => rfl)) pe_int) (pe_ix (r := rIxL K) ix_list (pv 0) (pv 5) (fun _ _ => rfl))) pe_int) (pg_sub (pv 4) (pv 6) set_list)))))
      (pss_one (ps_ret (pv 4))))))))), ?_⟩
  · obtain ⟨_, _, rfl, _⟩ := ap2 h
    rfl
  · rintro ns F H vs hp eF h Q k
    obtain ⟨a, b, rfl, ra, rb⟩ := ap2 h
    have rb' : b = .int ((70 : Nat) : Int) := rb
    subst rb'
    refine q_if (eb_test (ev_eqI (ev_mod (ev_call (ns, 0) (ea_cons (ev_var rfl ra) (ea_cons (ev_nat (i := 0)) ea_nil)) trivial) ev_int (by decide)) ev_int)) eF (fun hb H1 u1 => ?_) (fun hb H1 u1 => ?_)
    · refine s_ret (ev_lcN (R := rNat) (S := rInt) (j := 5) (vs := [5]) (f := fun n => partN (ns.getD (1 + n % 16) 0) (n / 16) % 1000000) (ei_rng1 (n := 70) (ea_cons (Ev.ofNat (ev_var (R := rNat) rfl rfl)) ea_nil) (by decide)) (by rw [List.length_range]; decide) (fun _ => rfl) fun x v3 F3 hx e3 r3 => ?_) u1.s
        fun v F2 H2 u2 r2 => k v F2 H2 (u1.trans u2) ⟨_, r2, (List.length_map _).trans List.length_range⟩
      have hx' : x < 70 := List.mem_range.mp hx
      refine ev_call (ns.getD (1 + x % 16) 0, x / 16) (ea_cons (ev_call (ns, 1 + x % 16) (ea_cons (ev_var rfl ((rScr K).mono e3 ra)) (ea_cons ((ev_add ev_int (ev_mod (Ev.ofNat (ev_var (R := rNat) (x := x) rfl r3)) ev_int (by decide))).toNat ?_) ea_nil)) trivial)
        (ea_cons ((ev_fdiv (Ev.ofNat (ev_var (R := rNat) (x := x) rfl r3)) ev_int ⟨by decide, by decide⟩).toNat ?_) ea_nil)) (by dsimp only; omega)
      · omega
      · omega
    · refine q_set ev_int u1.s fun v2 F2 H2 u2 r2 => ?_
      have r2' : v2 = .int 7 := r2
      subst r2'
      have U2 := u1.trans u2
      refine q_for (ei_scr (ev_var rfl ((rScr K).mono u2.f ra))) U2.s (fun i σ F' H' => Up F H F' H' ∧ ∃ z x, (0 ≤ z ∧ z < 1000000000039) ∧ σ = [some a, some (.int ((70 : Nat) : Int)), some (.int z), x, none, none, none]) (fun F3 H3 u3 => ⟨U2.trans u3, 7, none, ⟨by decide, by decide⟩, rfl⟩) (fun _ _ _ _ p => p.1.s) ?_ ?_
      · rintro i c σ F3 H3 v hc ⟨U3, z, x, hz, rfl⟩ rv
        refine s_set (ev_mod (ev_add (ev_add (ev_mul (ev_var (R := rInt) rfl rfl) (ev_var (R := rInt) rfl rfl) (.inl (by omega))) (ev_mul (ev_var (R := rInt) rfl rv) ev_int (.inr (by decide)))) ev_int) ev_int (by decide)) U3.s fun v4 F4 H4 u4 r4 => ?_
        have r4' : v4 = .int _ := r4
        subst r4'
        exact ⟨F4, u4.f, U3.trans u4, _, _, ⟨Int.emod_nonneg _ (by decide), Int.emod_lt_of_pos _ (by decide)⟩, rfl⟩
      · rintro σ F3 H3 ⟨U3, z, x, hz, rfl⟩
        refine q_newL rInt U3 fun l H4 hl u4 U4 m4 => ?_
        refine q_for (ei_rng1 (n := 70) (ea_cons (Ev.ofNat (ev_var (R := rNat) rfl rfl)) ea_nil) (by decide)) U4.s
          (fun i σ F' H' => Up F H F' H' ∧ ∃ z x5 xs, (0 ≤ z ∧ z < 1000000000039) ∧ xs.length = i ∧ ML H F' H' l rInt xs ∧ σ = [some a, some (.int ((70 : Nat) : Int)), some (.int z), x, some (.ref l), x5, none])
          (fun F5 H5 u5 => ⟨U4.trans u5, z, none, [], hz, rfl, m4.up u5, rfl⟩) (fun _ _ _ _ p => p.1.s) ?_ ?_
        · rintro i n σ F5 H5 v hn ⟨U5, z, x5, xs, hz, hxs, m5, rfl⟩ rv
          obtain ⟨rfl, hlt⟩ := range_get hn
          refine q_set (ev_mod (ev_add (ev_add (ev_mul (ev_var (R := rInt) rfl rfl) (ev_var (R := rInt) rfl rfl) (.inl (by omega))) (ev_mul ev_int (Ev.ofNat (ev_var (R := rNat) rfl rv)) (.inl (by decide)))) ev_int) ev_int (by decide)) U5.s fun v6 F6 H6 u6 r6 => ?_
          have r6' : v6 = .int _ := r6
          subst r6'
          refine s_app (U5.trans u6) (m5.up u6) rfl (ev_var (R := rInt) rfl rfl) (by omega) fun F7 H7 ws u7 U7 m7 => ?_
          exact ⟨F7, u6.f.trans u7.f, U7, _, _, _, ⟨Int.emod_nonneg _ (by decide), Int.emod_lt_of_pos _ (by decide)⟩, by rw [List.length_append, hxs]; rfl, m7, rfl⟩
        · rintro σ F5 H5 ⟨U5, z, x5, xs, hz, hxs, m5, rfl⟩
          rw [List.length_range] at hxs
          have ra5 := (rScr K).mono U5.f ra
          refine q_for (ei_rng1 (n := ns.length) (ea_cons (ev_lenS (ev_var rfl ra5)) ea_nil) (by omega)) U5.s
            (fun i σ F' H' => Up F H F' H' ∧ Same F5 F' ∧ ∃ x5 x6 xs, xs.length = 70 ∧ ML H F' H' l rInt xs ∧ σ = [some a, some (.int ((70 : Nat) : Int)), some (.int z), x, some (.ref l), x5, x6])
            (fun F6 H6 u6 => ⟨U5.trans u6, u6.f, x5, none, xs, hxs, m5.up u6, rfl⟩) (fun _ _ _ _ p => p.1.s) ?_ ?_
          · rintro i n σ F6 H6 v hn ⟨U6, f6, x5, x6, xs, hxs, m6, rfl⟩ rv
            obtain ⟨rfl, hlt⟩ := range_get hn
            refine q_set (ev_mod (Ev.ofNat (ev_var (R := rNat) rfl rv)) (Ev.ofNat (ev_var (R := rNat) (x := 70) rfl rfl)) (by decide)) U6.s fun v7 F7 H7 u7 r7 => ?_
            have r7' : v7 = .int _ := r7
            subst r7'
            have b1 := Int.emod_nonneg (n : Int) (show ((70 : Nat) : Int) ≠ 0 by decide)
            have b2 := Int.emod_lt_of_pos (n : Int) (show 0 < ((70 : Nat) : Int) by decide)
            refine s_setL (x := (xs.getD ((n : Int) % ((70 : Nat) : Int)).toNat 0 * 131 + ns.getD n 0) % 1000000000039) (n := (n : Int) % ((70 : Nat) : Int)) (U6.trans u7) (m6.up u7) rfl (ev_mod (ev_add (ev_mul (ev_ixM (m6.up u7) rfl (ev_var (R := rInt) rfl rfl) b1 ?_) ev_int (.inr (by decide)))
              (ev_ixS (ev_var rfl ((rScr K).mono (f6.trans u7.f) ra5)) (Ev.ofNat (ev_var (R := rNat) (x := n) rfl (rNat.mono u7.f rv))) (by omega) ?_)) ev_int (by decide)) (ev_var (R := rInt) rfl rfl) b1 (by omega) fun F8 H8 ws u8 U8 m8 => ?_
            · rw [List.getD_eq_getElem?_getD, List.getElem?_eq_getElem (by omega)]; rfl
            · rw [Int.toNat_natCast, List.getD_eq_getElem?_getD, List.getElem?_eq_getElem hlt]; rfl
            · exact ⟨F8, u7.f.trans u8.f, U8, f6.trans (u7.f.trans u8.f), _, _, _, by rw [List.length_set]; exact hxs, m8, rfl⟩
          · rintro σ F6 H6 ⟨U6, f6, x5, x6, xs, hxs, m6, rfl⟩
            obtain ⟨F7, f7, U7, r7, _⟩ := m6.freeze U6
            exact s_ret (ev_var (R := rLst rInt) rfl r7) U7.s fun v F8 H8 u8 r8 => k v F8 H8 (U7.trans u8) ⟨xs, r8, hxs⟩
end
end PM
end

section
set_option Elab.async false
set_option linter.all false
set_option maxRecDepth 100000
set_option maxHeartbeats 4000000
/-! what is asked: passes, letters -/
namespace PM
open PySem PySem.Spec PyProof.Rows L2
section
variable {P : Program} {w : World} {K : PySem.W.Frag} {mg : Str → Option Value} {base : Heap} {Cm Cw ak bk : Addr} {σ : L2.St} {F H : Hp} {te : TE}
def pocketC (c : Int) : Pocket := ([false, true].getD (c % 2).toNat false, [9, 9, 9, 2, c / 16 % 10].getD (c / 2 % 5).toNat 0)
theorem pocketC_ok (c : Int) : 0 ≤ (pocketC c).2 ∧ (pocketC c).2 ≤ 9 := by
  have h := sel_mem (xs := [9, 9, 9, 2, c / 16 % 10]) (i := c / 2) (n := 5) 0 rfl (by decide)
  have e : (pocketC c).2 = [9, 9, 9, 2, c / 16 % 10].getD (c / 2 % 5).toNat 0 := rfl
  rw [← e] at h
  have b1 := Int.emod_nonneg (c / 16) (show (10 : Int) ≠ 0 by decide)
  have b2 := Int.emod_lt_of_pos (c / 16) (show (0 : Int) < 10 by decide)
  simp only [List.mem_cons, List.not_mem_nil, or_false] at h
  omega
def sp_pocket : Sp := SpF (ι := Int) (fun _ => True) (fun i => apCons rInt i apNil) (fun _ => rPocket) (fun i => pocketC i)
theorem ok_pocket (X : Tx K mg Cm Cw ak bk) (d : Df K mg "_law_pocket" s__law_pocket) : HasF P w K mg base "_law_pocket" 1 ["cell"] sp_pocket := by
  refine ok_def d sc__law_pocket (fun _ _ _ _ _ _ us hl => match us, hl with | [_], _ => rfl) (fun i F vs h => ?_) fun f cdv A0 outer s H0 E hr => ⟨_, (pss_cons (ps_set (i := 1) sc__law_pocket.nd rfl (.inl rfl) (pe_ix (r := rIxL K) ix_list (pe_lst (pa_cons pe_int (pa_cons pe_int (pa_cons pe_int (pa_cons pe_int (pa_cons (pe_op op_mod (pe_op op_fdiv (pv 0) pe_int) pe_int) pa_nil)))))) (pe_op op_mod (pe_op op_fdiv (pv 0) pe_int) pe_int) (fun _ _ => rfl)))
      (pss_one (ps_ret (pe_tup (pa_cons (pe_ix (r := rIxL K) ix_list (pe_lst (pa_cons pe_str (pa_cons pe_str pa_nil))) (pe_op op_mod (pv 0) pe_int) (fun _ _ => rfl)) (pa_cons (pv 1) pa_nil)))))), ?_⟩
  · obtain ⟨_, rfl, _⟩ := ap1 h
    rfl
  · rintro c F H vs _ eF h Q k
    obtain ⟨a, rfl, ra⟩ := ap1 h
    have ra' : a = .int c := ra
    subst ra'
    refine q_set (ev_sel (R := rInt) (xs := [9, 9, 9, 2, c / 16 % 10]) 0 (ea_consL ev_int (ea_consL ev_int (ea_consL ev_int (ea_consL ev_int (ea_consL (ev_mod (ev_fdiv (ev_var (R := rInt) rfl rfl) ev_int ⟨by decide, by decide⟩) ev_int (by decide)) ea_nilL)))))
      (ev_mod (ev_fdiv (ev_var (R := rInt) rfl rfl) ev_int ⟨by decide, by decide⟩) ev_int (by decide)) rfl (by decide) (by show 5 ≤ 100000; decide)) eF fun v F1 H1 u1 r1 => ?_
    exact s_ret (ev_tup2 (R := rKind) (S := rInt) (ev_sel (R := rKind) (xs := [false, true]) false (ea_consL (ev_c rfl) (ea_consL (ev_c rfl) ea_nilL)) (ev_mod (ev_var (R := rInt) rfl rfl) ev_int (by decide)) rfl (by decide) (by decide)) (ev_var (R := rInt) rfl r1)) u1.s fun v F2 H2 u2 r2 => k v F2 H2 (u1.trans u2) r2
/-- passes so far -/
structure PAcc (acc : Passes') (t : Nat) : Prop where
  len : acc.length = t
  pass : ∀ q ∈ acc, 1 ≤ q.length ∧ q.length ≤ 6
  wide : ∀ q ∈ acc, ∀ k ∈ q, 0 ≤ k.2 ∧ k.2 ≤ 9
  cds : codes acc ≤ 40
theorem codes_snoc (acc : Passes') (q : Pass) : codes (acc ++ [q]) = codes acc * (q.length : Int) := by
  unfold codes codesAhead
  rw [List.take_length, List.take_length, List.foldl_append]
  rfl
theorem PAcc.wf {acc : Passes'} {t : Nat} (h : PAcc acc t) (ht : t ≤ 6) : WfP acc := ⟨by rw [h.len]; exact ht, h.pass, h.wide, by have := h.cds; omega⟩
theorem PAcc.snoc {acc : Passes'} {t : Nat} {q : Pass} (h : PAcc acc t) (h1 : 1 ≤ q.length ∧ q.length ≤ 6) (h2 : ∀ k ∈ q, 0 ≤ k.2 ∧ k.2 ≤ 9) (h3 : codes acc * (q.length : Int) ≤ 40) : PAcc (acc ++ [q]) (t + 1) := by
  refine ⟨by rw [List.length_append, h.len]; rfl, fun x hx => ?_, fun x hx => ?_, by rw [codes_snoc]; exact h3⟩
  · rcases List.mem_append.mp hx with m | m
    · exact h.pass x m
    · rw [List.mem_singleton.mp m]; exact h1
  · rcases List.mem_append.mp hx with m | m
    · exact h.wide x m
    · rw [List.mem_singleton.mp m]; exact h2
def sp_passes : Sp := SpF (ι := List Int) (fun i => i.length = 70) (fun i => apCons (rLst rInt) i (apCons rInt 40 apNil)) (fun _ => rEx rPassesL WfP) (fun _ => ())
theorem ok_passes (X : Tx K mg Cm Cw ak bk) (d : Df K mg "_law_passes" s__law_passes) (h__law_pocket : HasF P w K mg base "_law_pocket" 1 ["cell"] sp_pocket) : HasF P w K mg base "_law_passes" 2 ["cells", "most"] sp_passes := by
  refine ok_def d sc__law_passes (fun _ _ _ _ _ _ us hl => match us, hl with | [_, _], _ => rfl) (fun i F vs h => ?_) fun f cdv A0 outer s H0 E hr => ⟨_, (pss_cons (ps_set (i := 2) sc__law_passes.nd rfl (.inl rfl) (pe_lst pa_nil))
      (pss_cons (ps_set (i := 3) sc__law_passes.nd rfl (.inl rfl) pe_int)
      (pss_cons (ps_for PassesOwn.never rfl (pi_range1 (by rfl) X.z_range (pa_cons (pe_ix (r := rIxL K) ix_list (pe_lst (pa_cons pe_int (pa_cons pe_int (pa_cons pe_int (pa_cons pe_int (pa_cons pe_int (pa_cons pe_int (pa_cons pe_int (pa_cons pe_int pa_nil))))))))) (pe_op op_mod (pe_op op_fdiv (pe_ix (r := rIxL K) ix_list (pv 0) pe_int (fun _ _ => rfl)) pe_int) pe_int) (fun _ _ => rfl)) pa_nil)) (pg_name (i := 4) sc__law_passes.nd rfl (Or.inr rfl))
      (pss_cons (ps_set (i := 5) sc__law_passes.nd rfl (.inl rfl) (pe_ix (r := rIxL K) ix_list (pe_lst (pa_cons pe_int (pa_cons pe_int (pa_cons pe_int (pa_cons pe_int (pa_cons pe_int (pa_cons pe_int (pa_cons pe_int (pa_cons pe_int pa_nil))))))))) (pe_op op_mod (pe_op op_fdiv (pe_ix (r := rIxL K) ix_list (pv 0) (pe_op op_add pe_int (pe_op op_mul pe_int (pv 4))) (fun _ _ => rfl)) pe_int) pe_int) (fun _ _ => rfl)))
      (pss_cons (ps_if (pt_cmpR op_gt (pe_op op_mul (pv 3) (pv 5)) (pv 1) (nomark _)) (pss_one (ps_set (i := 5) sc__law_passes.nd rfl (.inl rfl) pe_int)) pss_nil)
      (pss_cons (ps_set (i := 3) sc__law_passes.nd rfl (.inl rfl) (pe_op op_mul (pv 3) (pv 5)))
      (pss_one (ps_expr (pe_bm PySem.F.plainAttrs_list PySem.F.slot_list_append PySem.F.type_list_append mt_append (pv 2) (pa_cons (pe_lc (own := [("j", 6)]) (g := (gName 6)) (tt := tYes) rfl sc__law_passes.nd (pi_range1 (by rfl) X.z_range (pa_cons (pv 5) pa_nil)) (blkOk_by (N := N__law_passes) (sc := defScope s__law_passes) (by decide +kernel)) (fun _ _ _ _ _ => (pg_name (i := 6) sc__law_passes.nd rfl (Or.inl rfl))) (fun _ _ _ _ _ => pts_nil) (fun _ _ _ _ _ => (pe_hf h__law_pocket (hr.mono (by decide)) (by rfl) (pa_cons (pe_ix (r := rIxL K) ix_list (pv 0) (pe_op op_add (pe_op op_add pe_int (pe_op op_mul pe_int (pv 4))) (pv 6)) (fun _ _ => rfl)) pa_nil)))) pa_nil))))))))
      (pss_one (ps_ret (pv 2)))))), ?_⟩
  · obtain ⟨_, _, rfl, _⟩ := ap2 h
    rfl
  · rintro cs F H vs hp eF h Q k
    obtain ⟨a, b, rfl, ra, rb⟩ := ap2 h
    have rb' : b = .int 40 := rb
    subst rb'
    have hc : cs.length = 70 := hp
    refine q_newL rPassL (Up.refl eF) fun l H1 hl u1 U1 m1 => ?_
    refine q_set ev_int U1.s fun v2 F2 H2 u2 r2 => ?_
    have r2' : v2 = .int 1 := r2
    subst r2'
    have U2 := U1.trans u2
    have ra2 := (rLst rInt).mono u2.f ra
    generalize hT : [1, 2, 3, 2, 5, 4, 0, 6].getD (cs.getD 0 0 / 3 % 8).toNat 0 = T
    have hT6 : T ≤ 6 := by
      have h := sel_mem (xs := [1, 2, 3, 2, 5, 4, 0, 6]) (i := cs.getD 0 0 / 3) (n := 8) 0 rfl (by decide)
      rw [hT] at h
      simp only [List.mem_cons, List.not_mem_nil, or_false] at h
      omega
    refine q_for (ei_rng1 (n := T) (ea_cons (Ev.ofNat ((ev_sel (R := rNat) (xs := [1, 2, 3, 2, 5, 4, 0, 6]) 0 (ea_consL (ev_c rfl) (ea_consL (ev_c rfl) (ea_consL (ev_c rfl) (ea_consL (ev_c rfl) (ea_consL (ev_c rfl) (ea_consL (ev_c rfl) (ea_consL (ev_c rfl) (ea_consL (ev_c rfl) ea_nilL))))))))
      (ev_mod (ev_fdiv (ev_cell (i := 0) (ev_var rfl ra2) ev_int (by omega)) ev_int ⟨by decide, by decide⟩) ev_int (by decide)) rfl (by decide) (by decide)).is hT)) ea_nil) (by omega)) U2.s
      (fun i σ F' H' => Up F H F' H' ∧ Same F2 F' ∧ ∃ acc x4 x5, PAcc acc i ∧ ML H F' H' l rPassL acc ∧ σ = [some a, some (.int 40), some (.ref l), some (.int (codes acc)), x4, x5, none])
      (fun F3 H3 u3 => ⟨U2.trans u3, u3.f, [], none, none, ⟨rfl, fun _ h => (by cases h), fun _ h => (by cases h), by decide⟩, (m1.up u2).up u3, rfl⟩) (fun _ _ _ _ p => p.1.s) ?_ ?_
    · rintro i t σ F3 H3 v ht ⟨U3, f3, acc, x4, x5, pa, m3, rfl⟩ rv
      obtain ⟨rfl, hlt⟩ := range_get ht
      have ra3 := (rLst rInt).mono f3 ra2
      have hpos : 0 < codes acc := codesAhead_pos (pa.wf (by omega)) _
      have hcod := pa.cds
      generalize hM : [1, 2, 3, 2, 3, 2, 4, 6].getD (cs.getD (1 + 7 * (t : Int)).toNat 0 / 5 % 8).toNat 0 = M
      have hM6 : 1 ≤ M ∧ M ≤ 6 := by
        have h := sel_mem (xs := [1, 2, 3, 2, 3, 2, 4, 6]) (i := cs.getD (1 + 7 * (t : Int)).toNat 0 / 5) (n := 8) 0 rfl (by decide)
        rw [hM] at h
        simp only [List.mem_cons, List.not_mem_nil, or_false] at h
        omega
      have rv' : v = .int (t : Int) := rv
      subst rv'
      refine q_set ((ev_sel (R := rNat) (xs := [1, 2, 3, 2, 3, 2, 4, 6]) 0 (ea_consL (ev_c rfl) (ea_consL (ev_c rfl) (ea_consL (ev_c rfl) (ea_consL (ev_c rfl) (ea_consL (ev_c rfl) (ea_consL (ev_c rfl) (ea_consL (ev_c rfl) (ea_consL (ev_c rfl) ea_nilL))))))))
        (ev_mod (ev_fdiv (ev_cell (i := 1 + 7 * (t : Int)) (ev_var rfl ra3) (ev_add ev_int (ev_mul ev_int (Ev.ofNat (ev_var (R := rNat) (x := t) rfl rfl)) (.inl (by decide)))) (by omega)) ev_int ⟨by decide, by decide⟩) ev_int (by decide)) rfl (by decide) (by decide)).is hM) U3.s fun v4 F4 H4 u4 r4 => ?_
      have r4' : v4 = .int (M : Int) := r4
      subst r4'
      have U4 := U3.trans u4
      obtain ⟨N, hN, hN2⟩ : ∃ N : Nat, (1 ≤ N ∧ N ≤ 6) ∧ (if decide (40 < codes acc * (M : Int)) = true then 1 else M) = N ∧ codes acc * (N : Int) ≤ 40 := by
        by_cases hb : 40 < codes acc * (M : Int)
        · exact ⟨1, ⟨by decide, by decide⟩, by rw [if_pos (decide_eq_true hb)], by omega⟩
        · exact ⟨M, hM6, by rw [if_neg (by rw [decide_eq_true_eq]; exact hb)], by omega⟩
      refine q_ifSet (R := rNat) (x := N) (eb_test (ev_gt (ev_mul (ev_var (R := rInt) rfl rfl) (Ev.ofNat (ev_var (R := rNat) (x := M) rfl rfl)) (.inl (by omega))) (ev_var (R := rInt) rfl rfl))) U4.s (fun hb => ?_) (fun hb => ⟨_, rfl, ?_⟩) fun v5 F5 H5 u5 r5 => ?_
      · rw [← hN2.1, if_pos hb]
        exact ev_c rfl
      · rw [← hN2.1, if_neg (by rw [hb]; decide)]
        rfl
      have r5' : v5 = .int (N : Int) := r5
      subst r5'
      have U5 := U4.trans u5
      refine q_set (ev_mul (ev_var (R := rInt) rfl rfl) (Ev.ofNat (ev_var (R := rNat) (x := N) rfl rfl)) (.inl (by omega))) U5.s fun v6 F6 H6 u6 r6 => ?_
      have r6' : v6 = .int (codes acc * (N : Int)) := r6
      subst r6'
      have U6 := U5.trans u6
      have f6 : Same F3 F6 := (u4.f.trans u5.f).trans u6.f
      have ra6 := (rLst rInt).mono f6 ra3
      have hlen : ((List.range N).map fun (j : Nat) => pocketC (cs.getD (2 + 7 * (t : Int) + (j : Int)).toNat 0)).length = N := (List.length_map _).trans List.length_range
      have hstep : PAcc (acc ++ [(List.range N).map fun (j : Nat) => pocketC (cs.getD (2 + 7 * (t : Int) + (j : Int)).toNat 0)]) (t + 1) := by
        refine pa.snoc (by rw [hlen]; exact hN) (fun k hk => ?_) (by rw [hlen]; exact hN2.2)
        obtain ⟨j, _, e⟩ := List.mem_map.mp hk
        rw [← e]
        exact pocketC_ok _
      refine s_app (x := (List.range N).map fun (j : Nat) => pocketC (cs.getD (2 + 7 * (t : Int) + (j : Int)).toNat 0)) U6 (((m3.up u4).up u5).up u6) rfl (ev_lcN (R := rNat) (S := rPocket) (j := 6) (vs := [6]) (f := fun (j : Nat) => pocketC (cs.getD (2 + 7 * (t : Int) + (j : Int)).toNat 0)) (ei_rng1 (n := N) (ea_cons (Ev.ofNat (ev_var (R := rNat) (x := N) rfl rfl)) ea_nil) (by omega)) (by rw [List.length_range]; omega) (fun _ => rfl) fun j v7 F7 hj e7 r7 => ?_) (by rw [pa.len]; omega) fun F8 H8 ws u8 U8 m8 => ?_
      · have hj' : j < N := List.mem_range.mp hj
        exact ev_call (cs.getD (2 + 7 * (t : Int) + (j : Int)).toNat 0) (ea_cons (ev_cell (i := 2 + 7 * (t : Int) + (j : Int)) (ev_var rfl ((rLst rInt).mono e7 ra6)) (ev_add (ev_add ev_int (ev_mul ev_int (Ev.ofNat (ev_var (R := rNat) (x := t) rfl rfl)) (.inl (by decide)))) (Ev.ofNat (ev_var (R := rNat) rfl r7))) (by omega)) ea_nil) trivial
      · refine ⟨F8, f6.trans u8.f, U8, f3.trans (f6.trans u8.f), _, some (.int (t : Int)), some (.int (N : Int)), hstep, m8, ?_⟩
        rw [codes_snoc, hlen]
        rfl
    · rintro σ F3 H3 ⟨U3, f3, acc, x4, x5, pa, m3, rfl⟩
      rw [List.length_range] at pa
      obtain ⟨F4, f4, U4, r4, _⟩ := m3.freeze U3
      exact s_ret (ev_var (R := rPassesL) rfl r4) U4.s fun v F5 H5 u5 r5 => k v F5 H5 (U4.trans u5) ⟨acc, r5, pa.wf hT6⟩
/-! letters -/
structure LAcc (ps : Passes') (acc : Letters) (k : Nat) : Prop where
  len : acc.length = k
  size : ∀ l ∈ acc, 1 ≤ l.1 ∧ l.1 ≤ 9
  late : ∀ l ∈ acc, l.2 ≤ ps.length
theorem LAcc.snoc {ps : Passes'} {acc : Letters} {k : Nat} {l : Int × Nat} (h : LAcc ps acc k) (h1 : 1 ≤ l.1 ∧ l.1 ≤ 9) (h2 : l.2 ≤ ps.length) : LAcc ps (acc ++ [l]) (k + 1) := by
  refine ⟨by rw [List.length_append, h.len]; rfl, fun x hx => ?_, fun x hx => ?_⟩
  · rcases List.mem_append.mp hx with m | m
    · exact h.size x m
    · rw [List.mem_singleton.mp m]; exact h1
  · rcases List.mem_append.mp hx with m | m
    · exact h.late x m
    · rw [List.mem_singleton.mp m]; exact h2
def sp_letters : Sp := SpF (ι := List Int × Passes') (fun i => i.1.length = 70 ∧ WfP i.2) (fun i => apCons (rLst rInt) i.1 (apCons rInt 43 (apCons rPassesL i.2 (apCons rInt 23 apNil)))) (fun i => rEx rLet fun ls => ls.length ≤ 23 ∧ LAcc i.2 ls ls.length) (fun _ => ())
theorem ok_letters (X : Tx K mg Cm Cw ak bk) (d : Df K mg "_law_letters" s__law_letters) : HasF P w K mg base "_law_letters" 1 ["cells", "at", "passes", "most"] sp_letters := by
  refine ok_def d sc__law_letters (fun _ _ _ _ _ _ us hl => match us, hl with | [_, _, _, _], _ => rfl) (fun i F vs h => ?_) fun f cdv A0 outer s H0 E hr => ⟨_, (pss_cons (ps_set (i := 4) sc__law_letters.nd rfl (.inl rfl) (pe_ix (r := rIxL K) ix_list (pe_lst (pa_cons pe_int (pa_cons pe_int (pa_cons pe_int (pa_cons pe_int (pa_cons pe_int (pa_cons pe_int (pa_cons pe_int (pa_cons pe_int (pa_cons pe_int pa_nil)))))))))) (pe_op op_mod (pe_op op_fdiv (pe_ix (r := rIxL K) ix_list (pv 0) (pv 1) (fun _ _ => rfl)) pe_int) pe_int) (fun _ _ => rfl)))
      (pss_cons (ps_set (i := 5) sc__law_letters.nd rfl (.inl rfl) (pe_lst pa_nil))
      (pss_cons (ps_for PassesOwn.never rfl (pi_range1 (by rfl) X.z_range (pa_cons (pe_callB (call_min2 rfl) (by rfl) X.z_min (by decide +kernel) (pa_cons (pv 4) (pa_cons (pv 3) pa_nil))) pa_nil)) (pg_name (i := 6) sc__law_letters.nd rfl (Or.inl rfl))
      (pss_cons (ps_set (i := 7) sc__law_letters.nd rfl (.inl rfl) (pe_op op_fdiv (pe_ix (r := rIxL K) ix_list (pv 0) (pe_op op_add (pe_op op_add (pv 1) pe_int) (pe_op op_mod (pv 6) pe_int)) (fun _ _ => rfl)) (pe_op op_add pe_int (pe_op op_fdiv (pv 6) pe_int))))
      (pss_cons (ps_set (i := 8) sc__law_letters.nd rfl (.inl rfl) pe_int)
      (pss_cons (ps_if (pt_cmpR op_eq (pe_op op_mod (pe_op op_fdiv (pv 7) pe_int) pe_int) pe_int (nomark _)) (pss_one (ps_set (i := 8) sc__law_letters.nd rfl (.inl rfl) (pe_op op_mod (pe_op op_fdiv (pv 7) pe_int) (pe_op op_add (pe_callB (r := rLenS K) call_len_seq (by rfl) X.z_len (by decide +kernel) (pa_cons (pv 2) pa_nil)) pe_int)))) pss_nil)
      (pss_one (ps_expr (pe_bm PySem.F.plainAttrs_list PySem.F.slot_list_append PySem.F.type_list_append mt_append (pv 5) (pa_cons (pe_tup (pa_cons (pe_ix (r := rIxL K) ix_list (pe_lst (pa_cons pe_int (pa_cons pe_int (pa_cons pe_int (pa_cons pe_int (pa_cons pe_int (pa_cons pe_int (pa_cons pe_int (pa_cons pe_int (pa_cons pe_int pa_nil)))))))))) (pe_op op_mod (pv 7) pe_int) (fun _ _ => rfl)) (pa_cons (pv 8) pa_nil))) pa_nil))))))))
      (pss_one (ps_ret (pv 5)))))), ?_⟩
  · obtain ⟨_, _, _, _, rfl, _⟩ := ap4 h
    rfl
  · rintro ⟨cs, ps⟩ F H vs hp eF h Q k
    obtain ⟨hc, wf⟩ := hp
    dsimp only at hc wf h k
    obtain ⟨a, b, c, e, rfl, ra, rb, rc, re⟩ := ap4 h
    have rb' : b = .int 43 := rb
    have re' : e = .int 23 := re
    subst rb'; subst re'
    have hm6 := wf.many
    generalize hT : [1, 2, 3, 4, 5, 6, 0, 8, 24].getD (cs.getD 43 0 / 3 % 9).toNat 0 = T
    have hT0 : T ≤ 24 := by
      have h := sel_mem (xs := [1, 2, 3, 4, 5, 6, 0, 8, 24]) (i := cs.getD 43 0 / 3) (n := 9) 0 rfl (by decide)
      rw [hT] at h
      simp only [List.mem_cons, List.not_mem_nil, or_false] at h
      omega
    refine q_set ((ev_sel (R := rNat) (xs := [1, 2, 3, 4, 5, 6, 0, 8, 24]) 0 (ea_consL (ev_c rfl) (ea_consL (ev_c rfl) (ea_consL (ev_c rfl) (ea_consL (ev_c rfl) (ea_consL (ev_c rfl) (ea_consL (ev_c rfl) (ea_consL (ev_c rfl) (ea_consL (ev_c rfl) (ea_consL (ev_c rfl) ea_nilL)))))))))
      (ev_mod (ev_fdiv (ev_cell (i := 43) (ev_var rfl ra) (ev_var (R := rInt) rfl rfl) (by omega)) ev_int ⟨by decide, by decide⟩) ev_int (by decide)) rfl (by decide) (by decide)).is hT) eF fun v1 F1 H1 u1 r1 => ?_
    have r1' : v1 = .int (T : Int) := r1
    subst r1'
    refine q_newL rLetter u1 fun l H2 hl u2 U2 m2 => ?_
    replace ra := (rLst rInt).mono u1.f ra
    replace rc := rPassesL.mono u1.f rc
    obtain ⟨N, hN, hN2⟩ : ∃ N : Nat, N ≤ 23 ∧ (if (23 : Int) < (T : Int) then (23 : Int) else (T : Int)) = (N : Int) := by
      by_cases hb : (23 : Int) < (T : Int)
      · exact ⟨23, by decide, by rw [if_pos hb]; rfl⟩
      · exact ⟨T, by omega, by rw [if_neg hb]⟩
    refine q_for (ei_rng1 (n := N) (ea_cons ((ev_min2 (Ev.ofNat (ev_var (R := rNat) (x := T) rfl rfl)) (ev_var (R := rInt) rfl rfl)).is hN2) ea_nil) (by omega)) U2.s
      (fun i σ F' H' => Up F H F' H' ∧ Same F1 F' ∧ ∃ acc x6 x7 x8, LAcc ps acc i ∧ ML H F' H' l rLetter acc ∧ σ = [some a, some (.int 43), some c, some (.int 23), some (.int (T : Int)), some (.ref l), x6, x7, x8])
      (fun F3 H3 u3 => ⟨U2.trans u3, u3.f, [], none, none, none, ⟨rfl, fun _ h => (by cases h), fun _ h => (by cases h)⟩, m2.up u3, rfl⟩) (fun _ _ _ _ p => p.1.s) ?_ ?_
    · rintro i n σ F3 H3 v hn ⟨U3, f3, acc, x6, x7, x8, la, m3, rfl⟩ rv
      obtain ⟨rfl, hlt⟩ := range_get hn
      have rv' : v = .int (n : Int) := rv
      subst rv'
      have ra3 := (rLst rInt).mono f3 ra
      have rc3 := rPassesL.mono f3 rc
      generalize hC : cs.getD (43 + 1 + (n : Int) % 8).toNat 0 / (1 + (n : Int) / 8) = C
      refine q_set ((ev_fdiv (ev_cell (i := 43 + 1 + (n : Int) % 8) (ev_var rfl ra3) (ev_add (ev_add (ev_var (R := rInt) rfl rfl) ev_int) (ev_mod (Ev.ofNat (ev_var (R := rNat) (x := n) rfl rfl)) ev_int (by decide))) (by omega))
        (ev_add ev_int (ev_fdiv (Ev.ofNat (ev_var (R := rNat) (x := n) rfl rfl)) ev_int ⟨by decide, by decide⟩)) ⟨by omega, by omega⟩).is hC) U3.s fun v4 F4 H4 u4 r4 => ?_
      have r4' : v4 = .int C := r4
      subst r4'
      refine q_set (R := rNat) (x := 0) (ev_c rfl) u4.s fun v5 F5 H5 u5 r5 => ?_
      have r5' : v5 = .int ((0 : Nat) : Int) := r5
      subst r5'
      have U5 := (U3.trans u4).trans u5
      have f5 := u4.f.trans u5.f
      have b1 := Int.emod_nonneg (C / 54) (show (ps.length : Int) + 1 ≠ 0 by omega)
      have b2 := Int.emod_lt_of_pos (C / 54) (show (0 : Int) < (ps.length : Int) + 1 by omega)
      obtain ⟨t, ht, ht2⟩ : ∃ t : Nat, t ≤ ps.length ∧ (if decide (C / 9 % 6 = 1) = true then C / 54 % ((ps.length : Int) + 1) else 0) = (t : Int) := by
        by_cases hb : C / 9 % 6 = 1
        · exact ⟨(C / 54 % ((ps.length : Int) + 1)).toNat, by omega, by rw [if_pos (decide_eq_true hb)]; omega⟩
        · exact ⟨0, by omega, by rw [if_neg (by rw [decide_eq_true_eq]; exact hb)]; rfl⟩
      refine q_ifSet (R := rNat) (x := t) (eb_test (ev_eqI (ev_mod (ev_fdiv (ev_var (R := rInt) rfl rfl) ev_int ⟨by decide, by decide⟩) ev_int (by decide)) ev_int)) U5.s (fun hb => ?_) (fun hb => ⟨_, rfl, ?_⟩) fun v6 F6 H6 u6 r6 => ?_
      · rw [if_pos hb] at ht2
        exact (ev_mod (ev_fdiv (ev_var (R := rInt) rfl rfl) ev_int ⟨by decide, by decide⟩) (ev_add (ev_lenL (R := rPassL) (ev_var rfl (rPassesL.mono f5 rc3))) ev_int) (by omega)).toNat ht2
      · rw [if_neg (by rw [hb]; decide)] at ht2
        have : t = 0 := by omega
        subst this
        rfl
      have U6 := U5.trans u6
      have hsz : ∀ x ∈ [(1 : Int), 1, 2, 1, 3, 1, 9, 2, 4], 1 ≤ x ∧ x ≤ 9 := by decide
      refine s_app (x := ([1, 1, 2, 1, 3, 1, 9, 2, 4].getD (C % 9).toNat 0, t)) U6 (((m3.up u4).up u5).up u6) rfl (ev_tup2 (R := rInt) (S := rNat) (ev_sel (R := rInt) (xs := [1, 1, 2, 1, 3, 1, 9, 2, 4]) 0 (ea_consL ev_int (ea_consL ev_int (ea_consL ev_int (ea_consL ev_int (ea_consL ev_int (ea_consL ev_int (ea_consL ev_int (ea_consL ev_int (ea_consL ev_int ea_nilL)))))))))
        (ev_mod (ev_var (R := rInt) rfl rfl) ev_int (by decide)) rfl (by decide) (by decide)) (ev_var (R := rNat) rfl r6)) (by rw [la.len]; omega) fun F8 H8 ws u8 U8 m8 => ?_
      exact ⟨F8, (f5.trans u6.f).trans u8.f, U8, f3.trans ((f5.trans u6.f).trans u8.f), _, _, _, _, la.snoc (hsz _ (sel_mem 0 rfl (by decide))) ht, m8, rfl⟩
    · rintro σ F3 H3 ⟨U3, f3, acc, x6, x7, x8, la, m3, rfl⟩
      rw [List.length_range] at la
      have hl := la.len
      obtain ⟨F4, f4, U4, r4, _⟩ := m3.freeze U3
      exact s_ret (ev_var (R := rLet) rfl r4) U4.s fun v F5 H5 u5 r5 => k v F5 H5 (U4.trans u5) ⟨acc, r5, by omega, by rw [hl]; exact la⟩
end
end PM
end

section
set_option Elab.async false
set_option linter.all false
set_option maxRecDepth 100000
set_option maxHeartbeats 4000000
/-! what is asked: words, codes, open places, orders -/
namespace PM
open PySem PySem.Spec PyProof.Rows L2
abbrev s__law_words : Stmt := top 55
abbrev N__law_words : List Str := ["passes", "late", "found", "pockets", "longer", "pocket", "word"]
theorem sc__law_words : FnScope N__law_words ["passes", "late"] (defScope s__law_words) := ⟨rfl, rfl, rfl, by decide +kernel, rfl, by decide +kernel, by decide +kernel⟩
abbrev s__law_code : Stmt := top 56
abbrev N__law_code : List Str := ["passes", "late", "word", "many", "pockets", "code", "piles", "t"]
theorem sc__law_code : FnScope N__law_code ["passes", "late", "word"] (defScope s__law_code) := ⟨rfl, rfl, rfl, by decide +kernel, rfl, by decide +kernel, by decide +kernel⟩
abbrev s__law_open : Stmt := top 57
abbrev N__law_open : List Str := ["passes", "letters", "letter", "size", "late", "found", "word", "code", "turn", "t"]
theorem sc__law_open : FnScope N__law_open ["passes", "letters", "letter"] (defScope s__law_open) := ⟨rfl, rfl, rfl, by decide +kernel, rfl, by decide +kernel, by decide +kernel⟩
abbrev s__law_order : Stmt := top 58
abbrev N__law_order : List Str := ["cells", "at", "many", "order", "k"]
theorem sc__law_order : FnScope N__law_order ["cells", "at", "many"] (defScope s__law_order) := ⟨rfl, rfl, rfl, by decide +kernel, rfl, by decide +kernel, by decide +kernel⟩
section
variable {α β : Type} {K : PySem.W.Frag} {σ : L2.St} {F H F0 H0 : Hp} {te ta tb tv : TE} {R : Rep α} {S : Rep β} {D : Ends} {tz tu tw : TS} {t : TT}
/-- an if whose branches come together -/
theorem q_ifJ {b : Bool} (J : L2.St → Hp → Hp → Prop) (h : EvB t σ F H b) (e : Same F H) (hJ : ∀ σ' F' H', J σ' F' H' → tz D σ' H') (h1 : b = true → ∀ H', Up F H F H' → (∀ σ' F' H', J σ' F' H' → tz D σ' H') → tu { D with nx := tz D } σ H')
    (h2 : b = false → ∀ H', Up F H F H' → (∀ σ' F' H', J σ' F' H' → tz D σ' H') → tw { D with nx := tz D } σ H') : tSeq (tIfS t tu tw) tz D σ H :=
  q_if h e (fun hb H' u => h1 hb H' u hJ) fun hb H' u => h2 hb H' u hJ
theorem q_ifN {b : Bool} (h : EvB t σ F H b) (e : Same F H) (h1 : b = true → ∀ H', Up F H F H' → tu { D with nx := tz D } σ H') (h2 : b = false → ∀ H', Up F H F H' → tz D σ H') : tSeq (tIfS t tu tNext) tz D σ H := q_if h e h1 h2
theorem q_asg2X {i j : Nat} {φ : α × β → Prop} {x : Unit} (h : Ev te σ F H (rEx (rTup2 R S) φ) x) (e : Same F H) (k : ∀ p a b F' H', Up F H F' H' → φ p → R.r F' a p.1 → S.r F' b p.2 → tz D ((σ.set i (some a)).set j (some b)) H') : tSeq (tAsg te (gTup K 2 (gCons (gName i) (gCons (gName j) gNil)))) tz D σ H :=
  h H e (Same.refl _) _ fun v F' H' u r => by
    obtain ⟨p, r, hp⟩ := r
    obtain ⟨a, b, h1, h2, h3⟩ := gt_tup2 (K := K) (i := i) (j := j) (σ := σ) r
    exact h3 H' u.s _ (k p a b F' H' u hp h1 h2)
end
/-! ### words -/
def wordsStep (f : List (List Nat)) (n : Nat) : List (List Nat) := ((List.range n).map fun (j : Nat) => f.map fun w => w ++ [j]).flatten
def wordsRun (qs : List Pass) : List (List Nat) := qs.foldl (fun f q => wordsStep f q.length) [[]]
theorem words_len (f : List (List Nat)) (n : Nat) : (wordsStep f n).length = n * f.length := by
  unfold wordsStep
  rw [List.length_flatten, List.map_map]
  have : (List.length ∘ fun (j : Nat) => f.map fun w => w ++ [j]) = fun _ => f.length := by
    funext j
    exact List.length_map _
  rw [this, List.map_const', List.sum_replicate_nat, List.length_range]
theorem words_step_succ (f : List (List Nat)) (n : Nat) : wordsStep f (n + 1) = wordsStep f n ++ f.map fun w => w ++ [n] := by
  unfold wordsStep
  rw [List.range_succ, List.map_append, List.flatten_append]
  simp
theorem words_mem {f : List (List Nat)} {n : Nat} {w : List Nat} (h : w ∈ wordsStep f n) : ∃ w' j, w' ∈ f ∧ j < n ∧ w = w' ++ [j] := by
  unfold wordsStep at h
  obtain ⟨l, hl, hw⟩ := List.mem_flatten.mp h
  obtain ⟨j, hj, e⟩ := List.mem_map.mp hl
  rw [← e] at hw
  obtain ⟨w', hw', e'⟩ := List.mem_map.mp hw
  exact ⟨w', j, hw', List.mem_range.mp hj, e'.symm⟩
theorem words_ok (qs : List Pass) : ∀ i, i ≤ qs.length → ∀ w ∈ wordsRun (qs.take i), w.length = i ∧ ∀ (m j : Nat) (p : Pass), w[m]? = some j → qs[m]? = some p → j < p.length
  | 0, _, w, hw => by
    have e : w = [] := by
      rw [List.take_zero] at hw
      exact List.mem_singleton.mp hw
    subst e
    exact ⟨rfl, fun m j p h => by simp at h⟩
  | i + 1, hi, w, hw => by
    have hq : qs[i]? = some qs[i] := List.getElem?_eq_getElem (by omega)
    have hw' : w ∈ wordsStep (wordsRun (qs.take i)) (qs[i]).length := by
      have e : wordsRun (qs.take (i + 1)) = wordsStep (wordsRun (qs.take i)) (qs[i]).length := fold_step hq
      rw [e] at hw
      exact hw
    obtain ⟨w', j, h1, h2, rfl⟩ := words_mem hw'
    obtain ⟨g1, g2⟩ := words_ok qs i (by omega) w' h1
    refine ⟨by rw [List.length_append, g1]; rfl, fun m j' p hm hp => ?_⟩
    by_cases hmi : m < i
    · rw [List.getElem?_append_left (by omega)] at hm
      exact g2 m j' p hm hp
    · rw [List.getElem?_append_right (by omega), g1] at hm
      have em : m = i := by
        have := (List.getElem?_eq_some_iff.mp hm).1
        simp at this
        omega
      subst em
      rw [Nat.sub_self] at hm
      have ej : j = j' := Option.some.inj hm
      rw [hq] at hp
      cases hp
      omega
theorem words_few (qs : List Pass) (h6 : ∀ q ∈ qs, q.length ≤ 6) : ∀ i, i ≤ qs.length → (wordsRun (qs.take i)).length ≤ 6 ^ i
  | 0, _ => by rw [List.take_zero]; exact Nat.le_refl _
  | i + 1, hi => by
    have hq : qs[i]? = some qs[i] := List.getElem?_eq_getElem (by omega)
    have e : wordsRun (qs.take (i + 1)) = wordsStep (wordsRun (qs.take i)) (qs[i]).length := fold_step hq
    rw [e, words_len, Nat.pow_succ, Nat.mul_comm]
    exact Nat.mul_le_mul (words_few qs h6 i (by omega)) (h6 _ (List.getElem_mem _))
theorem six_pow {i : Nat} (h : i ≤ 6) : 6 ^ i ≤ 46656 := Nat.le_trans (Nat.pow_le_pow_right (by decide) h) (by decide)
section
variable {P : Program} {w : World} {K : PySem.W.Frag} {mg : Str → Option Value} {base : Heap} {Cm Cw ak bk : Addr} {σ : L2.St} {F H : Hp} {te : TE}
def sp_words : Sp := SpF (ι := Passes' × Nat) (fun i => WfP i.1 ∧ i.2 ≤ i.1.length) (fun i => apCons rPassesL i.1 (apCons rNat i.2 apNil)) (fun _ => rLst rWord) (fun i => wordsRun (i.1.drop i.2))
theorem ok_words (X : Tx K mg Cm Cw ak bk) (d : Df K mg "_law_words" s__law_words) : HasF P w K mg base "_law_words" 1 ["passes", "late"] sp_words := by
  refine ok_def d sc__law_words (fun _ _ _ _ _ _ us hl => match us, hl with | [_, _], _ => rfl) (fun i F vs h => ?_) fun f cdv A0 outer s H0 E hr => ⟨_, (pss_cons (ps_set (i := 2) sc__law_words.nd rfl (.inl rfl) (pe_lst (pa_cons (pe_tup pa_nil) pa_nil)))
      (pss_cons (ps_for PassesOwn.never rfl (pi_list (pe_slice sl_list (pv 0) (po_some (pv 1)) po_none)) (pg_name (i := 3) sc__law_words.nd rfl (Or.inl rfl))
      (pss_cons (ps_set (i := 4) sc__law_words.nd rfl (.inl rfl) (pe_lst pa_nil))
      (pss_cons (ps_for PassesOwn.never rfl (pi_range1 (by rfl) X.z_range (pa_cons (pe_callB (r := rLenS K) call_len_seq (by rfl) X.z_len (by decide +kernel) (pa_cons (pv 3) pa_nil)) pa_nil)) (pg_name (i := 5) sc__law_words.nd rfl (Or.inr rfl))
      (pss_one (ps_expr (pe_bm PySem.F.plainAttrs_list PySem.F.slot_list_extend PySem.F.type_list_extend mt_extend (pv 4) (pa_cons (pe_lc (own := [("word", 6)]) (g := (gName 6)) (tt := tYes) rfl sc__law_words.nd (pi_list (pv 2)) (blkOk_by (N := N__law_words) (sc := defScope s__law_words) (by decide +kernel)) (fun _ _ _ _ _ => (pg_name (i := 6) sc__law_words.nd rfl (Or.inl rfl))) (fun _ _ _ _ _ => pts_nil) (fun _ _ _ _ _ => (pe_op (r := rCatA K) op_catA (pv 6) (pe_tup (pa_cons (pv 5) pa_nil))))) pa_nil)))))
      (pss_one (ps_set (i := 2) sc__law_words.nd rfl (.inl rfl) (pv 4))))))
      (pss_one (ps_ret (pv 2))))), ?_⟩
  · obtain ⟨_, _, rfl, _⟩ := ap2 h
    rfl
  · rintro ⟨ps, late⟩ F H vs hp eF h Q k
    obtain ⟨wf, hl⟩ := hp
    dsimp only at wf hl h k
    obtain ⟨a, b, rfl, ra, rb⟩ := ap2 h
    have hm := wf.many
    have h6 : ∀ q ∈ ps.drop late, q.length ≤ 6 := fun q hq => (wf.pass q (List.mem_of_mem_drop hq)).2
    have hdl : (ps.drop late).length ≤ 6 := by rw [List.length_drop]; omega
    refine q_set (ev_lst1 (R := rWord) (ev_tupL (R := rNat) (xs := []) ea_nilL (by simp))) eF fun v2 F2 H2 u2 r2 => ?_
    have hI : EvI (iList K (tSl (rSlL K) (tVar 0) (tPart (tVar 1)) tNoPart)) [some a, some b, some v2, none, none, none, none] F2 H2 rPassL (ps.drop late) True := by
      have e := ev_slL (K := K) (H := H2) (σ := [some a, some b, some v2, none, none, none, none]) (R := rPassL) (xs := ps) (ev_var (i := 0) rfl (rPassesL.mono u2.f ra)) (eo_some (i := (late : Int)) (Ev.ofNat (ev_var (i := 1) (R := rNat) rfl (rNat.mono u2.f rb)))) eo_none
      rw [cut_late] at e
      exact ei_list e
    refine q_for hI u2.s (fun i σ F' H' => Up F H F' H' ∧ ∃ vf x3 x4 x5, (rLst rWord).r F' vf (wordsRun ((ps.drop late).take i)) ∧ σ = [some a, some b, some vf, x3, x4, x5, none]) (fun F3 H3 u3 => ⟨u2.trans u3, v2, none, none, none, (rLst rWord).mono u3.f r2, rfl⟩) (fun _ _ _ _ p => p.1.s) ?_ ?_
    · rintro i q σ F3 H3 v hq ⟨U3, vf, x3, x4, x5, rf, rfl⟩ rv
      have hi : i < (ps.drop late).length := (List.getElem?_eq_some_iff.mp hq).1
      have hq6 := h6 q (List.mem_of_getElem? hq)
      have hfew := words_few _ h6 i (by omega)
      have hpow : 6 ^ i ≤ 7776 := Nat.le_trans (Nat.pow_le_pow_right (by decide) (show i ≤ 5 by omega)) (by decide)
      have hwl := words_ok (ps.drop late) i (by omega)
      generalize hf : wordsRun ((ps.drop late).take i) = f at *
      refine q_newL rWord U3 fun l H4 hl4 u4 U4 m4 => ?_
      refine q_for (ei_rng1 (n := q.length) (ea_cons (ev_lenL (R := rPocket) (ev_var (R := rPassL) rfl rv)) ea_nil) (by omega)) U4.s
        (fun j σ F' H' => Up F H F' H' ∧ Same F3 F' ∧ ML H F' H' l rWord (wordsStep f j) ∧ ∃ x5, σ = [some a, some b, some vf, some v, some (.ref l), x5, none])
        (fun F5 H5 u5 => ⟨U4.trans u5, u5.f, m4.up u5, x5, rfl⟩) (fun _ _ _ _ p => p.1.s) ?_ ?_
      · rintro j n σ F5 H5 vn hn ⟨U5, f5, m5, x5, rfl⟩ rn
        obtain ⟨rfl, hlt⟩ := range_get hn
        refine s_ext (ys := f.map fun w => w ++ [n]) U5 m5 rfl (ev_lcN (R := rWord) (S := rWord) (j := 6) (vs := [6]) (f := fun w => w ++ [n]) (ei_list (R := rWord) (ev_var rfl ((rLst rWord).mono f5 rf))) (by omega) (fun _ => rfl) fun wd v6 F6 hw e6 r6 => ?_) ?_ fun F7 H7 ws u7 U7 m7 => ?_
        · have := (hwl wd hw).1
          exact ev_catT (R := rNat) (ev_var rfl r6) (ev_tupL (R := rNat) (xs := [n]) (ea_consL (ev_var rfl (rNat.mono e6 rn)) ea_nilL) (by simp)) (by rw [List.length_singleton]; omega)
        · rw [words_len, List.length_map]
          have h1 : n * f.length ≤ 6 * 7776 := Nat.mul_le_mul (by omega) (by omega)
          omega
        · refine ⟨F7, u7.f, U7, f5.trans u7.f, ?_, _, rfl⟩
          rw [words_step_succ]
          exact m7
      · rintro σ F5 H5 ⟨U5, f5, m5, x5, rfl⟩
        rw [List.length_range] at m5
        obtain ⟨F6, f6, U6, r6, _⟩ := m5.freeze U5
        refine s_set (ev_var (R := rLst rWord) rfl r6) U6.s fun v7 F7 H7 u7 r7 => ?_
        refine ⟨F7, f5.trans (f6.trans u7.f), U6.trans u7, _, _, _, _, ?_, rfl⟩
        have e : wordsRun ((ps.drop late).take (i + 1)) = wordsStep (wordsRun ((ps.drop late).take i)) q.length := fold_step hq
        rw [e, hf]
        exact r7
    · rintro σ F3 H3 ⟨U3, vf, x3, x4, x5, rf, rfl⟩
      rw [List.take_length] at rf
      exact s_ret (ev_var (R := rLst rWord) rfl rf) U3.s fun v F4 H4 u4 r4 => k v F4 H4 (U3.trans u4) r4
theorem words_valid {ps : Passes'} {late : Nat} (hl : late ≤ ps.length) {wd : List Nat} (h : wd ∈ wordsRun (ps.drop late)) : ValidW ps late wd := by
  have e : (ps.drop late).take (ps.drop late).length = ps.drop late := List.take_length
  rw [← e] at h
  obtain ⟨h1, h2⟩ := words_ok (ps.drop late) _ (Nat.le_refl _) wd h
  exact ⟨hl, by rw [h1, List.length_drop], h2⟩
/-! ### codes -/
theorem passL_of {ps : Passes'} {t : Nat} (ht : t < ps.length) : ps[((t : Int)).toNat]? = some (passOf ps t) := pass_of ht
def sp_lcode : Sp := SpF (ι := iW) (fun i => WfP i.1 ∧ ValidW i.1 i.2.1 i.2.2) (fun i => apCons rPassesL i.1 (apCons rNat i.2.1 (apCons rWord i.2.2 apNil))) (fun _ => rEx rPlace fun p => -1 ≤ p.2 ∧ p.2 ≤ 1) (fun _ => ())
theorem ok_lcode (X : Tx K mg Cm Cw ak bk) (d : Df K mg "_law_code" s__law_code) : HasF P w K mg base "_law_code" 1 ["passes", "late", "word"] sp_lcode := by
  refine ok_def d sc__law_code (fun _ _ _ _ _ _ us hl => match us, hl with | [_, _, _], _ => rfl) (fun i F vs h => ?_) fun f cdv A0 outer s H0 E hr => ⟨_, (pss_cons (ps_set (i := 3) sc__law_code.nd rfl (.inl rfl) pe_int)
      (pss_cons (ps_for PassesOwn.never rfl (pi_list (pe_slice sl_list (pv 0) po_none (po_some (pv 1)))) (pg_name (i := 4) sc__law_code.nd rfl (Or.inl rfl))
      (pss_one (ps_set (i := 3) sc__law_code.nd rfl (.inl rfl) (pe_op op_mul (pv 3) (pe_callB (r := rLenS K) call_len_seq (by rfl) X.z_len (by decide +kernel) (pa_cons (pv 4) pa_nil))))))
      (pss_cons (ps_set (i := 5) sc__law_code.nd rfl (.inl rfl) (pe_op op_sub (pv 3) pe_int))
      (pss_cons (ps_set (i := 6) sc__law_code.nd rfl (.inl rfl) pe_int)
      (pss_cons (ps_for PassesOwn.never rfl (pi_range2 (by rfl) X.z_range (pa_cons (pv 1) (pa_cons (pe_callB (r := rLenS K) call_len_seq (by rfl) X.z_len (by decide +kernel) (pa_cons (pv 0) pa_nil)) pa_nil))) (pg_name (i := 7) sc__law_code.nd rfl (Or.inl rfl))
      (pss_cons (ps_if (pt_cmpR op_eq (pe_ix (r := rIxT K) ix_tup (pe_ix (r := rIxL K) ix_list (pe_ix (r := rIxL K) ix_list (pv 0) (pv 7) (fun _ _ => rfl)) (pe_ix (r := rIxT K) ix_tup (pv 2) (pe_op op_sub (pv 7) (pv 1)) (fun _ _ => rfl)) (fun _ _ => rfl)) pe_int (fun _ _ => rfl)) pe_str (nomark _)) (pss_cons (ps_set (i := 6) sc__law_code.nd rfl (.inl rfl) (pe_op op_add (pv 6) pe_int))
      (pss_one (ps_set (i := 5) sc__law_code.nd rfl (.inl rfl) (pe_op op_sub (pe_op op_sub (pv 3) pe_int) (pv 5))))) pss_nil)
      (pss_cons (ps_set (i := 5) sc__law_code.nd rfl (.inl rfl) (pe_op op_add (pv 5) (pe_op op_mul (pe_ix (r := rIxT K) ix_tup (pv 2) (pe_op op_sub (pv 7) (pv 1)) (fun _ _ => rfl)) (pv 3))))
      (pss_one (ps_set (i := 3) sc__law_code.nd rfl (.inl rfl) (pe_op op_mul (pv 3) (pe_callB (r := rLenS K) call_len_seq (by rfl) X.z_len (by decide +kernel) (pa_cons (pe_ix (r := rIxL K) ix_list (pv 0) (pv 7) (fun _ _ => rfl)) pa_nil))))))))
      (pss_one (ps_ret (pe_tup (pa_cons (pv 5) (pa_cons (pe_op op_sub pe_int (pe_op op_mul pe_int (pe_op op_mod (pv 6) pe_int))) pa_nil)))))))))), ?_⟩
  · obtain ⟨_, _, _, rfl, _⟩ := ap3 h
    rfl
  · rintro ⟨ps, late, wd⟩ F H vs hp eF h Q k
    obtain ⟨wf, hv⟩ := hp
    dsimp only at wf hv h k
    obtain ⟨a, b, c, rfl, ra, rb, rc⟩ := ap3 h
    have hm := wf.many
    have hl := hv.lt
    have rb' : b = .int (late : Int) := rb
    subst rb'
    refine q_set ev_int eF fun v3 F3 H3 u3 r3 => ?_
    have r3' : v3 = .int 1 := r3
    subst r3'
    refine q_for (R := rPassL) (xs := cutG ps none (some (late : Int))) (ei_list (ev_slL (ev_var rfl (rPassesL.mono u3.f ra)) eo_none (eo_some (Ev.ofNat (ev_var (R := rNat) (x := late) rfl rfl))))) u3.s
      (fun i σ F' H' => Up F H F' H' ∧ ∃ z x4, σ = [some a, some (.int (late : Int)), some c, some (.int z), x4, none, none, none]) (fun F4 H4 u4 => ⟨u3.trans u4, 1, none, rfl⟩) (fun _ _ _ _ p => p.1.s) ?_ ?_
    · rintro i q σ F4 H4 v hq ⟨U4, z, x4, rfl⟩ rv
      rw [cutG_to (Int.natCast_nonneg _), Int.toNat_natCast] at hq
      have h6 := (wf.pass q (List.mem_of_mem_take (List.mem_of_getElem? hq))).2
      refine s_set (ev_mul (ev_var (R := rInt) rfl rfl) (ev_lenL (R := rPocket) (ev_var (R := rPassL) rfl rv)) (.inr (by omega))) U4.s fun v5 F5 H5 u5 r5 => ?_
      have r5' : v5 = .int _ := r5
      subst r5'
      exact ⟨F5, u5.f, U4.trans u5, _, _, rfl⟩
    · rintro σ F4 H4 ⟨U4, z, x4, rfl⟩
      refine q_set (ev_sub (ev_var (R := rInt) rfl rfl) ev_int) U4.s fun v5 F5 H5 u5 r5 => ?_
      have r5' : v5 = .int _ := r5
      subst r5'
      refine q_set (ev_int (i := 0)) u5.s fun v6 F6 H6 u6 r6 => ?_
      have r6' : v6 = .int 0 := r6
      subst r6'
      have U6 := (U4.trans u5).trans u6
      have ra6 := rPassesL.mono U6.f ra
      have rc6 := rWord.mono U6.f rc
      refine q_for (ei_rng2 (a := late) (n := ps.length) (ea_cons (Ev.ofNat (ev_var (R := rNat) rfl rfl)) (ea_cons (ev_lenL (R := rPassL) (ev_var rfl ra6)) ea_nil)) ⟨by omega, by omega⟩) U6.s
        (fun i σ F' H' => Up F H F' H' ∧ Same F6 F' ∧ ∃ z y p x7, σ = [some a, some (.int (late : Int)), some c, some (.int z), x4, some (.int y), some (.int p), x7])
        (fun F7 H7 u7 => ⟨U6.trans u7, u7.f, _, _, _, none, rfl⟩) (fun _ _ _ _ p => p.1.s) ?_ ?_
      · rintro i n σ F7 H7 v hn ⟨U7, f7, z, y, p, x7, rfl⟩ rv
        rw [List.getElem?_map] at hn
        cases e : (List.range (ps.length - late))[i]? with
        | none => rw [e] at hn; cases hn
        | some i' =>
          rw [e] at hn
          obtain ⟨rfl, hlt⟩ := range_get e
          have en : late + i' = n := Option.some.inj hn
          subst en
          obtain ⟨j, q, hj, hq, hjq⟩ := valid_at hv (i := i') (by omega)
          have h6 := (wf.pass q (List.mem_of_getElem? hq)).2
          have rv' : v = .int ((late + i' : Nat) : Int) := rv
          subst rv'
          have hqT : ps[(((late + i' : Nat) : Int)).toNat]? = some q := by rw [Int.toNat_natCast]; exact hq
          have hjT : wd[(((late + i' : Nat) : Int) - (late : Int)).toNat]? = some j := by
            rw [show (((late + i' : Nat) : Int) - (late : Int)).toNat = i' by omega]
            exact hj
          have eP : ∀ {σ : L2.St} {F8 H8 : Hp}, σ[0]? = some (some a) → σ[7]? = some (some (.int ((late + i' : Nat) : Int))) → Same F6 F8 → Ev (tOp (rIxL K) (tVar 0) (tVar 7)) σ F8 H8 rPassL q := fun h0 h7 f8 =>
            ev_ixL (R := rPassL) (ev_var h0 (rPassesL.mono f8 ra6)) (Ev.ofNat (ev_var (R := rNat) (x := late + i') h7 rfl)) (by omega) hqT
          have eW : ∀ {σ : L2.St} {F8 H8 : Hp}, σ[1]? = some (some (.int (late : Int))) → σ[2]? = some (some c) → σ[7]? = some (some (.int ((late + i' : Nat) : Int))) → Same F6 F8 → Ev (tOp (rIxT K) (tVar 2) (tOp (rI0 fun i j => .int (i - j)) (tVar 7) (tVar 1))) σ F8 H8 rNat j := fun h1 h2 h7 f8 =>
            ev_ixT (R := rNat) (ev_var h2 (rWord.mono f8 rc6)) (ev_sub (Ev.ofNat (ev_var (R := rNat) (x := late + i') h7 rfl)) (Ev.ofNat (ev_var (R := rNat) (x := late) h1 rfl))) (by omega) hjT
          refine q_ifJ (fun σ F' H' => Up F H F' H' ∧ Same F7 F' ∧ ∃ y p, σ = [some a, some (.int (late : Int)), some c, some (.int z), x4, some (.int y), some (.int p), some (.int ((late + i' : Nat) : Int))])
            (eb_test (ev_eqS ((ev_fst (R := rKind) (S := rInt) (ev_ixL (R := rPocket) (eP rfl rfl f7) (Ev.ofNat (eW rfl rfl rfl f7)) (by omega) (pk_at hjq))).as fun _ _ q => rKind_str q) ev_str)) U7.s ?_ (fun _ H8 u8 go => ?_) (fun _ H8 u8 go => go _ _ _ ⟨U7.trans u8, Same.refl _, _, _, rfl⟩)
          · rintro σ F8 H8 ⟨U8, f8, y, p, rfl⟩
            refine q_set (ev_add (ev_var (R := rInt) rfl rfl) (ev_mul (Ev.ofNat (eW rfl rfl rfl (f7.trans f8))) (ev_var (R := rInt) rfl rfl) (.inl (by omega)))) U8.s fun v9 F9 H9 u9 r9 => ?_
            have r9' : v9 = .int _ := r9
            subst r9'
            refine s_set (ev_mul (ev_var (R := rInt) rfl rfl) (ev_lenL (R := rPocket) (eP rfl rfl (f7.trans (f8.trans u9.f)))) (.inr (by omega))) u9.s fun v10 F10 H10 u10 r10 => ?_
            have r10' : v10 = .int _ := r10
            subst r10'
            exact ⟨F10, f8.trans (u9.f.trans u10.f), (U8.trans u9).trans u10, f7.trans (f8.trans (u9.f.trans u10.f)), _, _, _, _, rfl⟩
          · refine q_set (ev_add (ev_var (R := rInt) rfl rfl) ev_int) u8.s fun v9 F9 H9 u9 r9 => ?_
            have r9' : v9 = .int _ := r9
            subst r9'
            refine s_set (ev_sub (ev_sub (ev_var (R := rInt) rfl rfl) ev_int) (ev_var (R := rInt) rfl rfl)) u9.s fun v10 F10 H10 u10 r10 => ?_
            have r10' : v10 = .int _ := r10
            subst r10'
            exact go _ _ _ ⟨((U7.trans u8).trans u9).trans u10, u9.f.trans u10.f, _, _, rfl⟩
      · rintro σ F7 H7 ⟨U7, f7, z, y, p, x7, rfl⟩
        have b1 := Int.emod_nonneg p (show (2 : Int) ≠ 0 by decide)
        have b2 := Int.emod_lt_of_pos p (show (0 : Int) < 2 by decide)
        exact s_ret (ev_tup2 (R := rInt) (S := rInt) (ev_var rfl rfl) (ev_sub ev_int (ev_mul ev_int (ev_mod (ev_var (R := rInt) rfl rfl) ev_int (by decide)) (.inl (by decide))))) U7.s fun v F8 H8 u8 r8 => k v F8 H8 (U7.trans u8) ⟨_, r8, by dsimp only; omega, by dsimp only; omega⟩
end
end PM
end

section
set_option Elab.async false
set_option linter.all false
set_option maxRecDepth 100000
set_option maxHeartbeats 4000000
/-! what is asked: open places, orders, levels, plans, chains -/
namespace PM
open PySem PySem.Spec PyProof.Rows L2
abbrev s__law_levels : Stmt := top 60
abbrev N__law_levels : List Str := ["letters", "groups", "levels", "kind", "some", "came", "letter", "pair"]
theorem sc__law_levels : FnScope N__law_levels ["letters", "groups"] (defScope s__law_levels) := ⟨rfl, rfl, rfl, by decide +kernel, rfl, by decide +kernel, by decide +kernel⟩
abbrev s__law_plan : Stmt := top 61
abbrev N__law_plan : List Str := ["opens", "cell", "plan", "row"]
theorem sc__law_plan : FnScope N__law_plan ["opens", "cell"] (defScope s__law_plan) := ⟨rfl, rfl, rfl, by decide +kernel, rfl, by decide +kernel, by decide +kernel⟩
abbrev s__law_chain : Stmt := top 62
abbrev N__law_chain : List Str := ["levels", "cell", "chain", "level"]
theorem sc__law_chain : FnScope N__law_chain ["levels", "cell"] (defScope s__law_chain) := ⟨rfl, rfl, rfl, by decide +kernel, rfl, by decide +kernel, by decide +kernel⟩
abbrev OI := (Int × Int) × List Nat
def rOI : Rep OI := rTup2 rPlace rWord
def dOI (x : OI) : PyData := .tuple [.tuple [.int x.1.1, .int x.1.2], .tuple (x.2.map fun (n : Nat) => PyData.int (n : Int))]
theorem dp_nats {K : PySem.W.Frag} {H : Hp} : ∀ l : List Nat, DpAll K H ((l.map fun (n : Nat) => (n : Int)).map V.int) (l.map fun (n : Nat) => PyData.int (n : Int))
  | [] => .nil
  | _ :: r => .cons (.int _) (dp_nats r)
theorem dp_oi {K : PySem.W.Frag} {F H : Hp} {v : V} {x : OI} (e : Same F H) (h : rOI.r F v x) : Dp K H v (dOI x) := by
  obtain ⟨a, p, q, rfl, h2, h3, h4⟩ := h
  obtain ⟨b, i, j, rfl, g2, g3, g4⟩ := h3
  obtain ⟨c, ws, rfl, f2, f3⟩ := h4
  have g3' : i = .int x.1.1 := g3
  have g4' : j = .int x.1.2 := g4
  subst g3'; subst g4'
  have f4 := all2_nat f3
  subst f4
  exact .tup (SqT.of (e _ _ h2)) (.cons (.tup (SqT.of (e _ _ g2)) (.cons (.int _) (.cons (.int _) .nil))) (.cons (.tup (SqT.of (e _ _ f2)) (dp_nats _)) .nil))
theorem dp_ois {K : PySem.W.Frag} {F H : Hp} (e : Same F H) : ∀ {vs : List V} {xs : List OI}, All2 (rOI.r F) vs xs → DpAll K H vs (xs.map dOI)
  | _, _, .nil => .nil
  | _, _, .cons h r => .cons (dp_oi e h) (dp_ois e r)
theorem alike_ints : ∀ l m : List Nat, PySem.W.alikeAll (l.map fun (n : Nat) => PyData.int (n : Int)) (m.map fun (n : Nat) => PyData.int (n : Int)) = true
  | [], _ => by rw [List.map_nil]; unfold PySem.W.alikeAll; rfl
  | _ :: _, [] => by rw [List.map_cons, List.map_nil]; unfold PySem.W.alikeAll; rfl
  | a :: l, b :: m => by
    rw [List.map_cons, List.map_cons]
    unfold PySem.W.alikeAll
    rw [alike_ints l m]
    unfold PySem.W.alike
    rfl
theorem alike_oi (x y : OI) : PySem.W.alike (dOI x) (dOI y) = true := by
  unfold dOI
  simp [PySem.W.alike, PySem.W.alikeAll, alike_ints]
theorem depth_ints : ∀ l : List Nat, PyData.depthAll (l.map fun (n : Nat) => PyData.int (n : Int)) = 0
  | [] => by rw [List.map_nil]; unfold PyData.depthAll; rfl
  | a :: l => by
    rw [List.map_cons]
    unfold PyData.depthAll
    rw [depth_ints l]
    unfold PyData.depth
    rfl
theorem depth_oi (x : OI) : PyData.depth (dOI x) ≤ 60 := by
  unfold dOI
  simp [PyData.depth, PyData.depthAll, depth_ints]
section
variable {α β : Type} {K : PySem.W.Frag} {σ : L2.St} {F H F0 H0 : Hp} {te ta tb tv : TE} {R : Rep α} {S : Rep β} {D : Ends} {tz tu tw : TS} {t : TT}
theorem ev_sortedOI {xs : List OI} (ha : Ev ta σ F H (rLst rOI) xs) : Ev (tCB (rSortedAny K) (tCons ta tNil)) σ F H (rEx (rLst rOI) fun ys => ys.Perm xs) () :=
  ev_cb (ea_cons ha ea_nil) fun F1 H1 vs _ e1 _ h Q q => by
    obtain ⟨v, rfl, hh⟩ := ap1 h
    obtain ⟨p, vs, rfl, h2, h3⟩ := hh
    refine ⟨p, vs, _, rfl, SqL.of (e1 _ _ h2), dp_ois e1 h3, fun d hd d' hd' => ?_, fun d hd => ?_, fun d hd => ?_, fun ys l hp hl => ?_⟩
    · obtain ⟨x, _, rfl⟩ := List.mem_map.mp hd
      obtain ⟨y, _, rfl⟩ := List.mem_map.mp hd'
      exact alike_oi x y
    · obtain ⟨x, _, rfl⟩ := List.mem_map.mp hd
      exact ⟨_, _, rfl⟩
    · obtain ⟨x, _, rfl⟩ := List.mem_map.mp hd
      exact depth_oi x
    · obtain ⟨zs, p1, p2⟩ := all2_perm hp h3
      exact q _ _ _ (Up.new e1 hl) ⟨zs, ⟨l, ys, rfl, upd_same, p2.up (Same.new (e1.free hl))⟩, p1⟩
end
/-! ### what fits -/
theorem fits_of {ps : Passes'} {late : Nat} {wd : List Nat} {size : Int} (hv : ValidW ps late wd) (h : ((List.range wd.length).filter fun t => decide ((pk (passOf ps (late + t)) (wd.getD t 0)).2 < size)) = []) : fitsOf ps late wd size = true := by
  unfold fitsOf
  rw [List.all_eq_true]
  intro b hb
  obtain ⟨jp, hj, e⟩ := List.mem_map.mp hb
  obtain ⟨i, hi⟩ := List.getElem?_of_mem hj
  obtain ⟨h1, h2⟩ := zip_get hi
  rw [List.getElem?_drop] at h2
  have hil := (List.getElem?_eq_some_iff.mp h1).1
  have h3 := List.filter_eq_nil_iff.mp h i (List.mem_range.mpr hil)
  have e1 : wd.getD i 0 = jp.1 := by rw [List.getD_eq_getElem?_getD, h1]; rfl
  have e2 : passOf ps (late + i) = jp.2 := by unfold passOf; rw [List.getD_eq_getElem?_getD, h2]; rfl
  rw [e1, e2, decide_eq_true_eq] at h3
  rw [← e]
  exact decide_eq_true (by omega)
section
variable {P : Program} {w : World} {K : PySem.W.Frag} {mg : Str → Option Value} {base : Heap} {Cm Cw ak bk : Addr} {σ : L2.St} {F H : Hp} {te : TE}
def okOI (ps : Passes') (ls : Letters) (n : Nat) (x : OI) : Prop := ValidW ps (lateOf ls n) x.2 ∧ fitsOf ps (lateOf ls n) x.2 (sizeOf' ls n) = true
def sp_open (K : PySem.W.Frag) : Sp := SpF (ι := iO) PreO (fun i => apCons rPassesL i.1 (apCons rLet i.2.1 (apCons rNat i.2.2 apNil))) (fun i => rEx (rLst rOI) fun l => l.length ≤ 100000 ∧ ∀ x ∈ l, okOI i.1 i.2.1 i.2.2 x) (fun _ => ())
theorem ok_open (X : Tx K mg Cm Cw ak bk) (d : Df K mg "_law_open" s__law_open) (h__law_words : HasF P w K mg base "_law_words" 1 ["passes", "late"] sp_words) (h__law_code : HasF P w K mg base "_law_code" 1 ["passes", "late", "word"] sp_lcode) :
    HasF P w K mg base "_law_open" 2 ["passes", "letters", "letter"] (sp_open K) := by
  refine ok_def d sc__law_open (fun _ _ _ _ _ _ us hl => match us, hl with | [_, _, _], _ => rfl) (fun i F vs h => ?_) fun f cdv A0 outer s H0 E hr => ⟨_, (pss_cons (ps_asg (pe_ix (r := rIxL K) ix_list (pv 1) (pv 2) (fun _ _ => rfl)) (pg_tup rfl (pgs_cons (pg_name (i := 3) sc__law_open.nd rfl (Or.inr rfl)) (pgs_cons (pg_name (i := 4) sc__law_open.nd rfl (Or.inr rfl)) pgs_nil))))
      (pss_cons (ps_set (i := 5) sc__law_open.nd rfl (.inl rfl) (pe_lst pa_nil))
      (pss_cons (ps_for PassesOwn.never rfl (pi_list (pe_hf h__law_words (hr.mono (by decide)) (by rfl) (pa_cons (pv 0) (pa_cons (pv 4) pa_nil)))) (pg_name (i := 6) sc__law_open.nd rfl (Or.inr rfl))
      (pss_one (ps_if (pt_cmpR op_eq (pe_callB (r := rLenS K) call_len_seq (by rfl) X.z_len (by decide +kernel) (pa_cons (pe_lc (own := [("t", 9)]) (g := (gName 9)) rfl sc__law_open.nd (pi_range1 (by rfl) X.z_range (pa_cons (pe_callB (r := rLenS K) call_len_seq (by rfl) X.z_len (by decide +kernel) (pa_cons (pv 6) pa_nil)) pa_nil)) (blkOk_by (N := N__law_open) (sc := defScope s__law_open) (by decide +kernel)) (fun _ _ _ _ _ => (pg_name (i := 9) sc__law_open.nd rfl (Or.inl rfl))) (fun _ _ _ _ _ => (pts_one (pt_cmpR op_lt (pe_ix (r := rIxT K) ix_tup (pe_ix (r := rIxL K) ix_list (pe_ix (r := rIxL K) ix_list (pv 0) (pe_op op_add (pv 4) (pv 9)) (fun _ _ => rfl)) (pe_ix (r := rIxT K) ix_tup (pv 6) (pv 9) (fun _ _ => rfl)) (fun _ _ => rfl)) pe_int (fun _ _ => rfl)) (pv 3) (nomark _)))) (fun _ _ _ _ _ => (pv 9))) pa_nil)) pe_int (nomark _)) (pss_cons (ps_asg (pe_hf h__law_code (hr.mono (by decide)) (by rfl) (pa_cons (pv 0) (pa_cons (pv 4) (pa_cons (pv 6) pa_nil)))) (pg_tup rfl (pgs_cons (pg_name (i := 7) sc__law_open.nd rfl (Or.inl rfl)) (pgs_cons (pg_name (i := 8) sc__law_open.nd rfl (Or.inl rfl)) pgs_nil))))
      (pss_one (ps_expr (pe_bm PySem.F.plainAttrs_list PySem.F.slot_list_append PySem.F.type_list_append mt_append (pv 5) (pa_cons (pe_tup (pa_cons (pe_tup (pa_cons (pv 7) (pa_cons (pe_op op_mul (pv 8) (pe_op op_add (pv 2) (pe_op op_mul (pe_callB (r := rLenS K) call_len_seq (by rfl) X.z_len (by decide +kernel) (pa_cons (pv 1) pa_nil)) (pv 4)))) pa_nil))) (pa_cons (pv 6) pa_nil))) pa_nil))))) pss_nil)))
      (pss_one (ps_ret (pe_callB (cr_sortedAny hr.units) (by rfl) X.z_sorted (by decide +kernel) (pa_cons (pv 5) pa_nil))))))), ?_⟩
  · obtain ⟨_, _, _, rfl, _⟩ := ap3 h
    rfl
  · rintro ⟨ps, ls, n⟩ F H vs hp eF h Q k
    obtain ⟨wf, wl, hn⟩ := hp
    dsimp only at wf wl hn h k
    obtain ⟨a, b, c, rfl, ra, rb, rc⟩ := ap3 h
    have hm := wl.many
    have hm6 := wf.many
    have hl := late_le wl hn
    have rc' : c = .int (n : Int) := rc
    subst rc'
    refine q_asg2 (R := rInt) (S := rNat) (p := (sizeOf' ls n, lateOf ls n)) (ev_ixL (R := rLetter) (ev_var rfl rb) (Ev.ofNat (ev_var (R := rNat) (x := n) rfl rfl)) (by omega) (letter_at hn)) eF fun v3 v4 F1 H1 u1 r3 r4 => ?_
    have r3' : v3 = .int (sizeOf' ls n) := r3
    have r4' : v4 = .int (lateOf ls n : Int) := r4
    subst r3'; subst r4'
    refine q_newL rOI u1 fun l H2 hl2 u2 U2 m2 => ?_
    replace ra := rPassesL.mono u1.f ra
    replace rb := rLet.mono u1.f rb
    have hfew : (wordsRun (ps.drop (lateOf ls n))).length ≤ 46656 := by
      have h := words_few (ps.drop (lateOf ls n)) (fun q hq => (wf.pass q (List.mem_of_mem_drop hq)).2) _ (Nat.le_refl _)
      rw [List.take_length] at h
      exact Nat.le_trans h (six_pow (by rw [List.length_drop]; omega))
    refine q_for (R := rWord) (xs := wordsRun (ps.drop (lateOf ls n))) (ei_list (R := rWord) (ev_call (ps, lateOf ls n) (ea_cons (ev_var rfl ra) (ea_cons (ev_var (R := rNat) rfl rfl) ea_nil)) ⟨wf, hl⟩)) U2.s
      (fun i σ F' H' => Up F H F' H' ∧ Same F1 F' ∧ ∃ acc x6 x7 x8, acc.length ≤ i ∧ (∀ x ∈ acc, okOI ps ls n x) ∧ ML H F' H' l rOI acc ∧ σ = [some a, some b, some (.int (n : Int)), some (.int (sizeOf' ls n)), some (.int (lateOf ls n : Int)), some (.ref l), x6, x7, x8, none])
      (fun F3 H3 u3 => ⟨U2.trans u3, u3.f, [], none, none, none, Nat.le_refl _, fun _ h => (by cases h), m2.up u3, rfl⟩) (fun _ _ _ _ p => p.1.s) ?_ ?_
    · rintro i wd σ F3 H3 v hwd ⟨U3, f3, acc, x6, x7, x8, hacc, hall, m3, rfl⟩ rv
      have hv := words_valid hl (List.mem_of_getElem? hwd)
      have hlen := hv.len
      have hil := (List.getElem?_eq_some_iff.mp hwd).1
      have ra3 := rPassesL.mono f3 ra
      have rb3 := rLet.mono f3 rb
      refine s_if (eb_test (ev_eqI (ev_lenL (R := rNat) (ev_lcNI (R := rNat) (S := rNat) (j := 9) (vs := [9]) (p := fun t => decide ((pk (passOf ps (lateOf ls n + t)) (wd.getD t 0)).2 < sizeOf' ls n)) (f := fun t => t) (ei_rng1 (n := wd.length) (ea_cons (ev_lenT (R := rNat) (ev_var rfl rv)) ea_nil) (by omega)) (by rw [List.length_range]; omega) (fun _ => rfl)
        (fun t v9 F9 ht e9 r9 => ?_) fun t v9 F9 ht e9 r9 _ => ev_var rfl r9)) ev_int)) U3.s (fun hb H4 u4 => ?_) (fun hb H4 u4 => ?_)
      · have htl : t < wd.length := List.mem_range.mp ht
        obtain ⟨j, q, hj, hq, hjq⟩ := valid_at hv (i := t) (by omega)
        have eq : passOf ps (lateOf ls n + t) = q := by unfold passOf; rw [List.getD_eq_getElem?_getD, hq]; rfl
        have ej : wd.getD t 0 = j := by rw [List.getD_eq_getElem?_getD, hj]; rfl
        rw [eq, ej]
        exact eb_test (ev_lt (ev_snd (R := rKind) (S := rInt) (ev_ixL (R := rPocket) (ev_ixL (R := rPassL) (i := (lateOf ls n : Int) + (t : Int)) (ev_var rfl (rPassesL.mono e9 ra3)) (ev_add (Ev.ofNat (ev_var (R := rNat) (x := lateOf ls n) rfl rfl)) (Ev.ofNat (ev_var (R := rNat) (x := t) rfl r9))) (by omega) (by rw [show ((lateOf ls n : Int) + (t : Int)).toNat = lateOf ls n + t by omega]; exact hq))
          (Ev.ofNat (ev_ixT (R := rNat) (i := (t : Int)) (ev_var rfl (rWord.mono e9 rv)) (Ev.ofNat (ev_var (R := rNat) (x := t) rfl r9)) (by omega) (by rw [Int.toNat_natCast]; exact hj))) (by omega) (pk_at hjq))) (ev_var (R := rInt) rfl rfl))
      · have h0 := of_decide_eq_true hb
        have hf := fits_of (size := sizeOf' ls n) hv (by
          have h1 : (((List.range wd.length).filter fun t => decide ((pk (passOf ps (lateOf ls n + t)) (wd.getD t 0)).2 < sizeOf' ls n)).map fun t => t).length = 0 := by omega
          rw [List.map_id'] at h1
          exact List.eq_nil_of_length_eq_zero h1)
        have U4 := U3.trans u4
        refine q_asg2X (R := rInt) (S := rInt) (ev_call (ps, lateOf ls n, wd) (ea_cons (ev_var rfl ra3) (ea_cons (ev_var (R := rNat) rfl rfl) (ea_cons (ev_var rfl rv) ea_nil))) ⟨wf, hv⟩) U4.s fun p vc vt F5 H5 u5 hp5 r5 r6 => ?_
        have U5 := U4.trans u5
        have rb5 := rLet.mono u5.f rb3
        refine s_app (x := ((p.1, p.2 * ((n : Int) + (ls.length : Int) * (lateOf ls n : Int))), wd)) U5 ((m3.up u4).up u5) rfl (ev_tup2 (R := rPlace) (S := rWord) (ev_tup2 (R := rInt) (S := rInt) (ev_var rfl r5) (ev_mul (ev_var (R := rInt) rfl r6) (ev_add (Ev.ofNat (ev_var (R := rNat) (x := n) rfl rfl)) (ev_mul (ev_lenL (R := rLetter) (ev_var rfl rb5)) (Ev.ofNat (ev_var (R := rNat) (x := lateOf ls n) rfl rfl)) (.inl (by omega)))) (.inl (by omega))))
          (ev_var rfl (rWord.mono u5.f rv))) (by omega) fun F6 H6 ws u6 U6 m6 => ?_
        refine ⟨F6, u5.f.trans u6.f, U6, f3.trans (u5.f.trans u6.f), _, _, _, _, ?_, fun x hx => ?_, m6, rfl⟩
        · rw [List.length_append, List.length_singleton]; omega
        · rcases List.mem_append.mp hx with m | m
          · exact hall x m
          · rw [List.mem_singleton.mp m]; exact ⟨hv, hf⟩
      · exact ⟨F3, Same.refl _, U3.trans u4, f3, acc, _, _, _, by omega, hall, m3.up u4, rfl⟩
    · rintro σ F3 H3 ⟨U3, f3, acc, x6, x7, x8, hacc, hall, m3, rfl⟩
      obtain ⟨F4, f4, U4, r4, _⟩ := m3.freeze U3
      refine s_ret (ev_sortedOI (ev_var rfl r4)) U4.s fun v F5 H5 u5 r5 => ?_
      obtain ⟨ys, ry, hp5⟩ := r5
      exact k v F5 H5 (U4.trans u5) ⟨ys, ry, by rw [hp5.length_eq]; omega, fun x hx => hall x (hp5.mem_iff.mp hx)⟩
/-! ### orders -/
theorem perm_insert {l m : List Nat} {x i : Nat} (h : l.Perm m) : (l.take i ++ [x] ++ l.drop i).Perm (m ++ [x]) := by
  have h1 : (l.take i ++ [x] ++ l.drop i).Perm (l.take i ++ l.drop i ++ [x]) := by
    rw [List.append_assoc, List.append_assoc]
    exact (List.perm_append_comm).append_left _
  rw [List.take_append_drop] at h1
  exact h1.trans (h.append_right _)
def sp_order : Sp := SpF (ι := List Int × Nat) (fun i => i.1.length = 70 ∧ i.2 ≤ 24) (fun i => apCons (rLst rInt) i.1 (apCons rInt 53 (apCons rNat i.2 apNil))) (fun i => rEx rRow fun o => o.Perm (List.range i.2)) (fun _ => ())
theorem ok_order (X : Tx K mg Cm Cw ak bk) (d : Df K mg "_law_order" s__law_order) : HasF P w K mg base "_law_order" 1 ["cells", "at", "many"] sp_order := by
  refine ok_def d sc__law_order (fun _ _ _ _ _ _ us hl => match us, hl with | [_, _, _], _ => rfl) (fun i F vs h => ?_) fun f cdv A0 outer s H0 E hr => ⟨_, (pss_cons (ps_set (i := 3) sc__law_order.nd rfl (.inl rfl) (pe_lst pa_nil))
      (pss_cons (ps_for PassesOwn.never rfl (pi_range1 (by rfl) X.z_range (pa_cons (pv 2) pa_nil)) (pg_name (i := 4) sc__law_order.nd rfl (Or.inl rfl))
      (pss_one (ps_expr (pe_bm PySem.F.plainAttrs_list PySem.F.slot_list_insert PySem.F.type_list_insert mt_insert (pv 3) (pa_cons (pe_op op_mod (pe_op op_fdiv (pe_ix (r := rIxL K) ix_list (pv 0) (pe_op op_add (pv 1) (pe_op op_mod (pv 4) pe_int)) (fun _ _ => rfl)) (pe_op op_add pe_int (pe_op op_fdiv (pv 4) pe_int))) (pe_op op_add (pv 4) pe_int)) (pa_cons (pv 4) pa_nil))))))
      (pss_one (ps_ret (pv 3))))), ?_⟩
  · obtain ⟨_, _, _, rfl, _⟩ := ap3 h
    rfl
  · rintro ⟨cs, N⟩ F H vs hp eF h Q k
    obtain ⟨hc, hN⟩ := hp
    dsimp only at hc hN h k
    obtain ⟨a, b, c, rfl, ra, rb, rc⟩ := ap3 h
    have rb' : b = .int 53 := rb
    subst rb'
    refine q_newL rNat (Up.refl eF) fun l H1 hl u1 U1 m1 => ?_
    refine q_for (ei_rng1 (n := N) (ea_cons (Ev.ofNat (ev_var (R := rNat) rfl rc)) ea_nil) (by omega)) U1.s (fun i σ F' H' => Up F H F' H' ∧ ∃ acc x4, acc.Perm (List.range i) ∧ ML H F' H' l rNat acc ∧ σ = [some a, some (.int 53), some c, some (.ref l), x4])
      (fun F2 H2 u2 => ⟨U1.trans u2, [], none, .nil, m1.up u2, rfl⟩) (fun _ _ _ _ p => p.1.s) ?_ ?_
    · rintro i n σ F2 H2 v hn ⟨U2, acc, x4, hp2, m2, rfl⟩ rv
      obtain ⟨rfl, hlt⟩ := range_get hn
      have ra2 := (rLst rInt).mono U2.f ra
      have rv' : v = .int (n : Int) := rv
      subst rv'
      have hal : acc.length = n := by rw [hp2.length_eq, List.length_range]
      generalize hC : cs.getD (53 + (n : Int) % 9).toNat 0 / (2 + (n : Int) / 9) = C
      have b1 := Int.emod_nonneg C (show (n : Int) + 1 ≠ 0 by omega)
      have b2 := Int.emod_lt_of_pos C (show (0 : Int) < (n : Int) + 1 by omega)
      refine s_ins (x := n) (n := C % ((n : Int) + 1)) U2 m2 rfl (ev_mod ((ev_fdiv (ev_cell (i := 53 + (n : Int) % 9) (ev_var rfl ra2) (ev_add (ev_var (R := rInt) rfl rfl) (ev_mod (Ev.ofNat (ev_var (R := rNat) (x := n) rfl rfl)) ev_int (by decide))) (by omega))
        (ev_add ev_int (ev_fdiv (Ev.ofNat (ev_var (R := rNat) (x := n) rfl rfl)) ev_int ⟨by decide, by decide⟩)) ⟨by omega, by omega⟩).is hC) (ev_add (Ev.ofNat (ev_var (R := rNat) (x := n) rfl rfl)) ev_int) (by omega)) (ev_var (R := rNat) (x := n) rfl rfl) ⟨by omega, by omega⟩ (by omega) fun F3 H3 ws u3 U3 m3 => ?_
      refine ⟨F3, u3.f, U3, _, _, ?_, m3, rfl⟩
      rw [List.range_succ]
      exact perm_insert hp2
    · rintro σ F2 H2 ⟨U2, acc, x4, hp2, m2, rfl⟩
      rw [List.length_range] at hp2
      obtain ⟨F3, f3, U3, r3, _⟩ := m2.freeze U2
      exact s_ret (ev_var (R := rRow) rfl r3) U3.s fun v F4 H4 u4 r4 => k v F4 H4 (U3.trans u4) ⟨acc, r4, hp2⟩
/-! ### levels -/
def sp_llevels : Sp := SpF (ι := Letters × List (Kd × List Nat)) (fun i => WfG i.1.length i.2 ∧ i.1.length ≤ 24) (fun i => apCons rLet i.1 (apCons rGroups i.2 apNil)) (fun _ => rLevels) (fun i => levelsOf i.1 i.2)
theorem ok_llevels (X : Tx K mg Cm Cw ak bk) (d : Df K mg "_law_levels" s__law_levels) : HasF P w K mg base "_law_levels" 1 ["letters", "groups"] sp_llevels := by
  refine ok_def d sc__law_levels (fun _ _ _ _ _ _ us hl => match us, hl with | [_, _], _ => rfl) (fun i F vs h => ?_) fun f cdv A0 outer s H0 E hr => ⟨_, (pss_cons (ps_set (i := 2) sc__law_levels.nd rfl (.inl rfl) (pe_lst pa_nil))
      (pss_cons (ps_for PassesOwn.never rfl (pi_list (pv 1)) (pg_tup rfl (pgs_cons (pg_name (i := 3) sc__law_levels.nd rfl (Or.inl rfl)) (pgs_cons (pg_name (i := 4) sc__law_levels.nd rfl (Or.inl rfl)) pgs_nil)))
      (pss_one (ps_if (pt_cmpR op_eq (pv 3) pe_str (nomark _)) (pss_one (ps_expr (pe_bm PySem.F.plainAttrs_list PySem.F.slot_list_append PySem.F.type_list_append mt_append (pv 2) (pa_cons (pe_callB cr_sortedI (by rfl) X.z_sorted (by decide +kernel) (pa_cons (pv 4) pa_nil)) pa_nil)))) (pss_one (ps_if (pt_cmpR op_eq (pv 3) pe_str (nomark _)) (pss_one (ps_expr (pe_bm PySem.F.plainAttrs_list PySem.F.slot_list_extend PySem.F.type_list_extend mt_extend (pv 2) (pa_cons (pe_lc (own := [("letter", 6)]) (g := (gName 6)) (tt := tYes) rfl sc__law_levels.nd (pi_list (pv 4)) (blkOk_by (N := N__law_levels) (sc := defScope s__law_levels) (by decide +kernel)) (fun _ _ _ _ _ => (pg_name (i := 6) sc__law_levels.nd rfl (Or.inl rfl))) (fun _ _ _ _ _ => pts_nil) (fun _ _ _ _ _ => (pe_lst (pa_cons (pv 6) pa_nil)))) pa_nil)))) (pss_cons (ps_set (i := 5) sc__law_levels.nd rfl (.inl rfl) (pe_callB cr_sortedPO (by rfl) X.z_sorted (by decide +kernel) (pa_cons (pe_lc (own := [("letter", 6)]) (g := (gName 6)) (tt := tYes) rfl sc__law_levels.nd (pi_list (pv 4)) (blkOk_by (N := N__law_levels) (sc := defScope s__law_levels) (by decide +kernel)) (fun _ _ _ _ _ => (pg_name (i := 6) sc__law_levels.nd rfl (Or.inl rfl))) (fun _ _ _ _ _ => pts_nil) (fun _ _ _ _ _ => (pe_tup (pa_cons (pe_ix (r := rIxT K) ix_tup (pe_ix (r := rIxL K) ix_list (pv 0) (pv 6) (fun _ _ => rfl)) pe_int (fun _ _ => rfl)) (pa_cons (pv 6) pa_nil))))) pa_nil)))
      (pss_one (ps_expr (pe_bm PySem.F.plainAttrs_list PySem.F.slot_list_extend PySem.F.type_list_extend mt_extend (pv 2) (pa_cons (pe_lc (own := [("pair", 7)]) (g := (gName 7)) (tt := tYes) rfl sc__law_levels.nd (pi_list (pv 5)) (blkOk_by (N := N__law_levels) (sc := defScope s__law_levels) (by decide +kernel)) (fun _ _ _ _ _ => (pg_name (i := 7) sc__law_levels.nd rfl (Or.inl rfl))) (fun _ _ _ _ _ => pts_nil) (fun _ _ _ _ _ => (pe_lst (pa_cons (pe_ix (r := rIxT K) ix_tup (pv 7) pe_int (fun _ _ => rfl)) pa_nil)))) pa_nil))))))))))
      (pss_one (ps_ret (pv 2))))), ?_⟩
  · obtain ⟨_, _, rfl, _⟩ := ap2 h
    rfl
  · rintro ⟨ls, gs⟩ F H vs hp eF h Q k
    obtain ⟨wg, hm⟩ := hp
    dsimp only at wg hm h k
    obtain ⟨a, b, rfl, ra, rb⟩ := ap2 h
    refine q_newL rRow (Up.refl eF) fun l H1 hl u1 U1 m1 => ?_
    refine q_for (R := rTup2 rKd rRow) (xs := gs) (ei_list (R := rTup2 rKd rRow) (ev_var rfl rb)) U1.s (fun i σ F' H' => Up F H F' H' ∧ ∃ x3 x4 x5, ML H F' H' l rRow (levelsOf ls (gs.take i)) ∧ σ = [some a, some b, some (.ref l), x3, x4, x5, none, none])
      (fun F2 H2 u2 => ⟨U1.trans u2, none, none, none, m1.up u2, rfl⟩) (fun _ _ _ _ p => p.1.s) ?_ ?_
    · rintro i g σ F2 H2 v hg ⟨U2, x3, x4, x5, m2, rfl⟩ rv
      obtain ⟨x', y', h1, h2, h3⟩ := gt_tup2 (K := K) (i := 3) (j := 4) (σ := [some a, some b, some (.ref l), x3, x4, x5, none, none]) rv
      refine h3 H2 U2.s _ ?_
      have ra2 := rLet.mono U2.f ra
      have hle := levels_le (ls := ls) wg i
      have htold := told_at hg
      have hfl := flat_take_len htold
      have hgl := groups_len wg
      have hgc := group_count ls g.1 g.2
      have hlt : ∀ x ∈ g.2, x < ls.length := fun x hx => groups_lt wg (List.mem_flatten.mpr ⟨_, List.mem_of_getElem? htold, hx⟩)
      have fin : ∀ (F3 H3 : Hp) (x5 : Option V), Same F2 F3 → Up F H F3 H3 → ML H F3 H3 l rRow (levelsOf ls (gs.take i) ++ groupLevels ls g.1 g.2) → ∃ F', Same F2 F' ∧ Up F H F' H3 ∧ ∃ y3 y4 y5, ML H F' H3 l rRow (levelsOf ls (gs.take (i + 1))) ∧ [some a, some b, some (.ref l), some x', some y', x5, none, none] = [some a, some b, some (.ref l), y3, y4, y5, none, none] := fun F3 H3 x5 f3 U3 m3 =>
        ⟨F3, f3, U3, _, _, _, by rw [levels_take ls hg]; exact m3, rfl⟩
      refine s_if ((eb_test (ev_eqS ((ev_var (R := rKd) rfl h1).as fun _ _ q => rKd_str q) ev_str)).is (kd_any g.1)) U2.s (fun hb H3 u3 => ?_) (fun hb H3 u3 => ?_)
      · have e := of_decide_eq_true hb
        refine s_app (x := sortN g.2) (U2.trans u3) (m2.up u3) rfl (ev_sortedN (ev_var rfl h2)) (by omega) fun F4 H4 ws u4 U4 m4 => fin F4 _ _ u4.f U4 ?_
        rw [e]
        exact m4
      · have e1 := of_decide_eq_false hb
        refine s_if ((eb_test (ev_eqS ((ev_var (R := rKd) rfl h1).as fun _ _ q => rKd_str q) ev_str)).is (kd_row g.1)) u3.s (fun hb H4 u4 => ?_) (fun hb H4 u4 => ?_)
        · have e := of_decide_eq_true hb
          have U4 := (U2.trans u3).trans u4
          refine s_ext (ys := g.2.map fun a => [a]) U4 ((m2.up u3).up u4) rfl (ev_lcN (R := rNat) (S := rRow) (j := 6) (vs := [6]) (f := fun a => [a]) (ei_list (R := rNat) (ev_var rfl h2)) (by omega) (fun _ => rfl) fun x v3 F3 hx e3 r3 => ev_lst1 (R := rNat) (ev_var rfl r3)) (by rw [List.length_map]; omega) fun F5 H5 ws u5 U5 m5 => fin F5 _ _ u5.f U5 ?_
          rw [e]
          exact m5
        · have e2 := of_decide_eq_false hb
          have ec : g.1 = .come := by
            cases hk : g.1 with
            | any => exact absurd hk e1
            | row => exact absurd hk e2
            | come => rfl
          have U4 := (U2.trans u3).trans u4
          refine q_set (ev_sortedPr (xs := g.2.map fun a => (lateOf ls a, a)) (ev_lcN (R := rNat) (S := rTup2 rNat rNat) (j := 6) (vs := [6]) (f := fun a => (lateOf ls a, a)) (ei_list (R := rNat) (ev_var rfl h2)) (by omega) (fun _ => rfl) fun x v3 F3 hx e3 r3 => ?_)) U4.s fun v5 F5 H5 u5 r5 => ?_
          · exact ev_tup2 (ev_snd (R := rInt) (S := rNat) (ev_ixL (R := rLetter) (ev_var rfl (rLet.mono e3 ra2)) (Ev.ofNat (ev_var (R := rNat) rfl r3)) (by omega) (late_at (hlt x hx)))) (ev_var (R := rNat) rfl r3)
          · have hl3 : (sortP (g.2.map fun a => (lateOf ls a, a))).length = g.2.length := by
              rw [(sortP_perm _).length_eq, List.length_map]
            refine s_ext (ys := (sortP (g.2.map fun a => (lateOf ls a, a))).map fun p => [p.2]) (U4.trans u5) (((m2.up u3).up u4).up u5) rfl (ev_lcN (R := rTup2 rNat rNat) (S := rRow) (j := 7) (vs := [7]) (f := fun p => [p.2]) (ei_list (R := rTup2 rNat rNat) (ev_var rfl r5)) (by omega) (fun _ => rfl) fun x v4 F4 hx e4 r4 => ev_lst1 (R := rNat) (ev_snd (R := rNat) (S := rNat) (ev_var rfl r4))) (by rw [List.length_map]; omega) fun F6 H6 ws u6 U6 m6 => fin F6 _ _ (u5.f.trans u6.f) U6 ?_
            rw [ec]
            exact m6
    · rintro σ F2 H2 ⟨U2, x3, x4, x5, m2, rfl⟩
      rw [List.take_length] at m2
      obtain ⟨F3, f3, U3, r3, _⟩ := m2.freeze U2
      exact s_ret (ev_var (R := rLevels) rfl r3) U3.s fun v F4 H4 u4 r4 => k v F4 H4 (U3.trans u4) r4
/-! ### plans, chains -/
def rOpens : Rep (List (List OI)) := rLst (rLst rOI)
structure OkO (i : iL) (os : List (List OI)) : Prop where
  len : os.length = i.2.length
  few : i.2.length ≤ 24
  ok : ∀ (n : Nat) (r : List OI), os[n]? = some r → r.length ≤ 100000 ∧ ∀ x ∈ r, okOI i.1 i.2 n x
def okPlan (i : iL) : Option (List (List Nat)) → Prop
  | none => True
  | some p => GoodP i.1 i.2 p
def sp_plan : Sp := SpF (ι := iL × List (List OI) × Int) (fun i => OkO i.1 i.2.1) (fun i => apCons rOpens i.2.1 (apCons rInt i.2.2 apNil)) (fun i => rEx (rOpt rPlan) (okPlan i.1)) (fun _ => ())
theorem ok_plan (X : Tx K mg Cm Cw ak bk) (d : Df K mg "_law_plan" s__law_plan) : HasF P w K mg base "_law_plan" 1 ["opens", "cell"] sp_plan := by
  refine ok_def d sc__law_plan (fun _ _ _ _ _ _ us hl => match us, hl with | [_, _], _ => rfl) (fun i F vs h => ?_) fun f cdv A0 outer s H0 E hr => ⟨_, (pss_cons (ps_set (i := 2) sc__law_plan.nd rfl (.inl rfl) (pe_lst pa_nil))
      (pss_cons (ps_for PassesOwn.never rfl (pi_list (pv 0)) (pg_name (i := 3) sc__law_plan.nd rfl (Or.inl rfl))
      (pss_cons (ps_if (pt_cmpR op_eq (pe_callB (r := rLenS K) call_len_seq (by rfl) X.z_len (by decide +kernel) (pa_cons (pv 3) pa_nil)) pe_int (nomark _)) (pss_one (ps_ret pe_non)) pss_nil)
      (pss_cons (ps_set (i := 1) sc__law_plan.nd rfl (.inl rfl) (pe_op op_mod (pe_op op_add (pe_op op_mul (pv 1) pe_int) pe_int) pe_int))
      (pss_one (ps_expr (pe_bm PySem.F.plainAttrs_list PySem.F.slot_list_append PySem.F.type_list_append mt_append (pv 2) (pa_cons (pe_ix (r := rIxT K) ix_tup (pe_ix (r := rIxL K) ix_list (pv 3) (pe_op op_mod (pe_op op_fdiv (pv 1) pe_int) (pe_callB (r := rLenS K) call_len_seq (by rfl) X.z_len (by decide +kernel) (pa_cons (pv 3) pa_nil))) (fun _ _ => rfl)) pe_int (fun _ _ => rfl)) pa_nil)))))))
      (pss_one (ps_ret (pv 2))))), ?_⟩
  · obtain ⟨_, _, rfl, _⟩ := ap2 h
    rfl
  · rintro ⟨⟨ps, ls⟩, os, ce⟩ F H vs hp eF h Q k
    obtain ⟨hlen, hfew, hok⟩ := hp
    dsimp only at hlen hfew hok h k
    obtain ⟨a, b, rfl, ra, rb⟩ := ap2 h
    have rb' : b = .int ce := rb
    subst rb'
    refine q_newL rWord (Up.refl eF) fun l H1 hl u1 U1 m1 => ?_
    refine q_for (R := rLst rOI) (xs := os) (ei_list (R := rLst rOI) (ev_var rfl ra)) U1.s
      (fun i σ F' H' => Up F H F' H' ∧ ∃ acc z x3, acc.length = i ∧ (∀ n, n < i → ValidW ps (lateOf ls n) (wordOf acc n) ∧ fitsOf ps (lateOf ls n) (wordOf acc n) (sizeOf' ls n) = true) ∧ ML H F' H' l rWord acc ∧ σ = [some a, some (.int z), some (.ref l), x3])
      (fun F2 H2 u2 => ⟨U1.trans u2, [], ce, none, rfl, fun n h => absurd h (by omega), m1.up u2, rfl⟩) (fun _ _ _ _ p => p.1.s) ?_ ?_
    · rintro i row σ F2 H2 v hrow ⟨U2, acc, z, x3, hacc, hall, m2, rfl⟩ rv
      obtain ⟨hr1, hr2⟩ := hok i row hrow
      have hil := (List.getElem?_eq_some_iff.mp hrow).1
      refine q_ifN (eb_test (ev_eqI (ev_lenL (R := rOI) (ev_var rfl rv)) ev_int)) U2.s (fun hb H3 u3 => ?_) (fun hb H3 u3 => ?_)
      · exact s_ret (R := rOpt rPlan) (x := none) ev_non u3.s fun v4 F4 H4 u4 r4 => k v4 F4 H4 ((U2.trans u3).trans u4) ⟨none, r4, trivial⟩
      · have hne : (row.length : Int) ≠ 0 := of_decide_eq_false hb
        have U3 := U2.trans u3
        refine q_set (ev_mod (ev_add (ev_mul (ev_var (R := rInt) rfl rfl) ev_int (.inr (by decide))) ev_int) ev_int (by decide)) u3.s fun v4 F4 H4 u4 r4 => ?_
        have r4' : v4 = .int _ := r4
        subst r4'
        generalize (z * 48271 + 11) % 2147483647 = y
        have rv4 := (rLst rOI).mono u4.f rv
        have b1 := Int.emod_nonneg (y / 7) hne
        have b2 := Int.emod_lt_of_pos (y / 7) (show (0 : Int) < (row.length : Int) by omega)
        have hx : row[(y / 7 % (row.length : Int)).toNat]? = some row[(y / 7 % (row.length : Int)).toNat] := List.getElem?_eq_getElem (by omega)
        generalize hxx : row[(y / 7 % (row.length : Int)).toNat] = x at hx
        refine s_app (x := x.2) (U3.trans u4) ((m2.up u3).up u4) rfl (ev_snd (R := rPlace) (S := rWord) (ev_ixL (R := rOI) (ev_var rfl rv4) (ev_mod (ev_fdiv (ev_var (R := rInt) rfl rfl) ev_int ⟨by decide, by decide⟩) (ev_lenL (R := rOI) (ev_var rfl rv4)) (by omega)) b1 hx)) (by omega) fun F5 H5 ws u5 U5 m5 => ?_
        refine ⟨F5, u4.f.trans u5.f, U5, acc ++ [x.2], _, _, by rw [List.length_append, hacc]; rfl, fun n hn => ?_, m5, rfl⟩
        by_cases e : n = i
        · subst e
          have ew : wordOf (acc ++ [x.2]) n = x.2 := by
            unfold wordOf
            rw [List.getD_eq_getElem?_getD, List.getElem?_append_right (by omega), hacc, Nat.sub_self]
            rfl
          rw [ew]
          exact hr2 x (List.mem_of_getElem? hx)
        · have ew : wordOf (acc ++ [x.2]) n = wordOf acc n := by
            unfold wordOf
            rw [List.getD_eq_getElem?_getD, List.getD_eq_getElem?_getD, List.getElem?_append_left (by omega)]
          rw [ew]
          exact hall n (by omega)
    · rintro σ F2 H2 ⟨U2, acc, z, x3, hacc, hall, m2, rfl⟩
      obtain ⟨F3, f3, U3, r3, _⟩ := m2.freeze U2
      exact s_ret (R := rOpt rPlan) (x := some acc) (Ev.some (ev_var (R := rPlan) rfl r3) fun _ _ q => rLst_not q) U3.s fun v F4 H4 u4 r4 => k v F4 H4 (U3.trans u4) ⟨some acc, r4, by rw [hacc, hlen], fun n (hn : n < ls.length) => (hall n (by omega)).1, fun n (hn : n < ls.length) => (hall n (by omega)).2⟩
structure PreLC (i : Nat × List (List Nat) × Int) : Prop where
  ne : ∀ l ∈ i.2.1, l ≠ []
  lt : ∀ l ∈ i.2.1, ∀ x ∈ l, x < i.1
  len : i.2.1.length ≤ 100
  few : ∀ l ∈ i.2.1, l.length ≤ 100000
def sp_lchain : Sp := SpF (ι := Nat × List (List Nat) × Int) PreLC (fun i => apCons rLevels i.2.1 (apCons rInt i.2.2 apNil)) (fun i => rEx rRow fun c => (∀ x ∈ c, x < i.1) ∧ c.length ≤ 100) (fun _ => ())
theorem ok_lchain (X : Tx K mg Cm Cw ak bk) (d : Df K mg "_law_chain" s__law_chain) : HasF P w K mg base "_law_chain" 1 ["levels", "cell"] sp_lchain := by
  refine ok_def d sc__law_chain (fun _ _ _ _ _ _ us hl => match us, hl with | [_, _], _ => rfl) (fun i F vs h => ?_) fun f cdv A0 outer s H0 E hr => ⟨_, (pss_cons (ps_set (i := 2) sc__law_chain.nd rfl (.inl rfl) (pe_lst pa_nil))
      (pss_cons (ps_for PassesOwn.never rfl (pi_list (pv 0)) (pg_name (i := 3) sc__law_chain.nd rfl (Or.inl rfl))
      (pss_cons (ps_set (i := 1) sc__law_chain.nd rfl (.inl rfl) (pe_op op_mod (pe_op op_add (pe_op op_mul (pv 1) pe_int) pe_int) pe_int))
      (pss_one (ps_if (pt_cmpR op_gt (pe_op op_mod (pe_op op_fdiv (pv 1) pe_int) pe_int) pe_int (nomark _)) (pss_one (ps_expr (pe_bm PySem.F.plainAttrs_list PySem.F.slot_list_append PySem.F.type_list_append mt_append (pv 2) (pa_cons (pe_ix (r := rIxL K) ix_list (pv 3) (pe_op op_mod (pe_op op_fdiv (pv 1) pe_int) (pe_callB (r := rLenS K) call_len_seq (by rfl) X.z_len (by decide +kernel) (pa_cons (pv 3) pa_nil))) (fun _ _ => rfl)) pa_nil)))) pss_nil))))
      (pss_one (ps_ret (pv 2))))), ?_⟩
  · obtain ⟨_, _, rfl, _⟩ := ap2 h
    rfl
  · rintro ⟨N, ll, ce⟩ F H vs hp eF h Q k
    obtain ⟨hne, hlt, hlen, hfew⟩ := hp
    dsimp only at hne hlt hlen hfew h k
    obtain ⟨a, b, rfl, ra, rb⟩ := ap2 h
    have rb' : b = .int ce := rb
    subst rb'
    refine q_newL rNat (Up.refl eF) fun l H1 hl u1 U1 m1 => ?_
    refine q_for (R := rRow) (xs := ll) (ei_list (R := rRow) (ev_var rfl ra)) U1.s (fun i σ F' H' => Up F H F' H' ∧ ∃ acc z x3, acc.length ≤ i ∧ (∀ x ∈ acc, x < N) ∧ ML H F' H' l rNat acc ∧ σ = [some a, some (.int z), some (.ref l), x3])
      (fun F2 H2 u2 => ⟨U1.trans u2, [], ce, none, Nat.le_refl _, fun _ h => (by cases h), m1.up u2, rfl⟩) (fun _ _ _ _ p => p.1.s) ?_ ?_
    · rintro i row σ F2 H2 v hrow ⟨U2, acc, z, x3, hacc, hall, m2, rfl⟩ rv
      have hil := (List.getElem?_eq_some_iff.mp hrow).1
      have hmem := List.mem_of_getElem? hrow
      have hpos : 0 < row.length := List.length_pos_iff.mpr (hne row hmem)
      have hfr := hfew row hmem
      refine q_set (ev_mod (ev_add (ev_mul (ev_var (R := rInt) rfl rfl) ev_int (.inr (by decide))) ev_int) ev_int (by decide)) U2.s fun v4 F4 H4 u4 r4 => ?_
      have r4' : v4 = .int _ := r4
      subst r4'
      generalize (z * 48271 + 11) % 2147483647 = y
      have U4 := U2.trans u4
      have rv4 := rRow.mono u4.f rv
      refine s_if (eb_test (ev_gt (ev_mod (ev_fdiv (ev_var (R := rInt) rfl rfl) ev_int ⟨by decide, by decide⟩) ev_int (by decide)) ev_int)) U4.s (fun hb H5 u5 => ?_) (fun hb H5 u5 => ?_)
      · have b1 := Int.emod_nonneg (y / 20) (show (row.length : Int) ≠ 0 by omega)
        have b2 := Int.emod_lt_of_pos (y / 20) (show (0 : Int) < (row.length : Int) by omega)
        have hx : row[(y / 20 % (row.length : Int)).toNat]? = some row[(y / 20 % (row.length : Int)).toNat] := List.getElem?_eq_getElem (by omega)
        generalize hxx : row[(y / 20 % (row.length : Int)).toNat] = x at hx
        refine s_app (x := x) (U4.trans u5) ((m2.up u4).up u5) rfl (ev_ixL (R := rNat) (ev_var rfl rv4) (ev_mod (ev_fdiv (ev_var (R := rInt) rfl rfl) ev_int ⟨by decide, by decide⟩) (ev_lenL (R := rNat) (ev_var rfl rv4)) (by omega)) b1 hx) (by omega) fun F6 H6 ws u6 U6 m6 => ?_
        refine ⟨F6, u4.f.trans u6.f, U6, _, _, _, ?_, fun q hq => ?_, m6, rfl⟩
        · rw [List.length_append, List.length_singleton]; omega
        · rcases List.mem_append.mp hq with m | m
          · exact hall q m
          · rw [List.mem_singleton.mp m]; exact hlt row hmem x (List.mem_of_getElem? hx)
      · exact ⟨F4, u4.f, U4.trans u5, acc, _, _, by omega, hall, (m2.up u4).up u5, rfl⟩
    · rintro σ F2 H2 ⟨U2, acc, z, x3, hacc, hall, m2, rfl⟩
      obtain ⟨F3, f3, U3, r3, _⟩ := m2.freeze U2
      exact s_ret (ev_var (R := rRow) rfl r3) U3.s fun v F4 H4 u4 r4 => k v F4 H4 (U3.trans u4) ⟨acc, r4, hall, by omega⟩
end
end PM
end

section
set_option Elab.async false
set_option linter.all false
set_option maxRecDepth 100000
set_option maxHeartbeats 4000000
/-! what is asked: groups (lists in tuples in a list, all one's own) -/
namespace PM
open PySem PySem.Spec PyProof.Rows L2
abbrev s__law_groups : Stmt := top 59
abbrev N__law_groups : List Str := ["cells", "at", "many", "groups", "letter", "cell"]
theorem sc__law_groups : FnScope N__law_groups ["cells", "at", "many"] (defScope s__law_groups) := ⟨rfl, rfl, rfl, by decide +kernel, rfl, by decide +kernel, by decide +kernel⟩
abbrev Grp := Kd × List Nat
structure Gk (H0 F H : Hp) (p : Addr) (ts as : List Addr) (gs : List Grp) : Prop where
  tlen : ts.length = gs.length
  len : as.length = gs.length
  nd : as.Nodup
  p0 : p ∉ as
  out : Mut H0 F H p (.lst (ts.map V.ref))
  tup : ∀ (j : Nat) (t a : Addr) (g : Grp), ts[j]? = some t → as[j]? = some a → gs[j]? = some g → F t = some (.tup [.str (kdS g.1), .ref a])
  row : ∀ (j : Nat) (a : Addr) (g : Grp), as[j]? = some a → gs[j]? = some g → Mut H0 F H a (.lst (natsV g.2))
section
variable {F H F0 H0 F' H' : Hp} {p : Addr} {ts as : List Addr} {gs ini : List Grp} {g : Grp}
theorem Gk.up (m : Gk H0 F H p ts as gs) (u : Up F H F' H') : Gk H0 F' H' p ts as gs :=
  ⟨m.tlen, m.len, m.nd, m.p0, m.out.up u, fun j t a g h1 h2 h3 => u.f _ _ (m.tup j t a g h1 h2 h3), fun j a g h1 h2 => (m.row j a g h1 h2).up u⟩
theorem Gk.mem (m : Gk H0 F H p ts as gs) {a : Addr} (h : a ∈ as) : H0 a = none ∧ F a = none ∧ H a ≠ none := by
  obtain ⟨j, hj⟩ := List.getElem?_of_mem h
  have hl := (List.getElem?_eq_some_iff.mp hj).1
  rw [m.len] at hl
  have q := m.row j a _ hj (List.getElem?_eq_getElem hl)
  exact ⟨q.h0, q.f, by rw [q.h]; simp⟩
theorem snoc_at {α : Type} {l : List α} {x y : α} {j : Nat} (h : (l ++ [x])[j]? = some y) : (j < l.length ∧ l[j]? = some y) ∨ (j = l.length ∧ y = x) := by
  by_cases hj : j < l.length
  · rw [List.getElem?_append_left hj] at h
    exact .inl ⟨hj, h⟩
  · have hlt := (List.getElem?_eq_some_iff.mp h).1
    rw [List.length_append, List.length_singleton] at hlt
    have e : j = l.length := by omega
    subst e
    rw [List.getElem?_append_right (Nat.le_refl _), Nat.sub_self] at h
    exact .inr ⟨rfl, (Option.some.inj h).symm⟩
/-- one more at the last list -/
theorem Gk.app {k : Nat} {a : Addr} (m : Gk H0 F H p ts as (ini ++ [g])) (ha : as[ini.length]? = some a) : Gk H0 F (upd H a (.lst (natsV g.2 ++ [.int (k : Int)]))) p ts as (ini ++ [(g.1, g.2 ++ [k])]) := by
  have hpa : p ≠ a := fun e => m.p0 (by rw [e]; exact List.mem_of_getElem? ha)
  have hlast : (ini ++ [g])[ini.length]? = some g := by rw [List.getElem?_append_right (Nat.le_refl _), Nat.sub_self]; rfl
  refine ⟨by rw [m.tlen]; simp, by rw [m.len]; simp, m.nd, m.p0, m.out.side hpa, fun j t b q h1 h2 h3 => ?_, fun j b q h1 h2 => ?_⟩
  · rcases snoc_at h3 with ⟨hj, h4⟩ | ⟨hj, h4⟩
    · exact m.tup j t b q h1 h2 (by rw [List.getElem?_append_left hj]; exact h4)
    · subst hj; subst h4
      exact m.tup _ t b g h1 h2 hlast
  · rcases snoc_at h2 with ⟨hj, h4⟩ | ⟨hj, h4⟩
    · refine (m.row j b q h1 (by rw [List.getElem?_append_left hj]; exact h4)).side fun z => ?_
      subst z
      have := nd_ix m.nd h1 ha
      omega
    · subst hj; subst h4
      rw [ha] at h1
      cases h1
      rw [natsV_snoc]
      exact (m.row _ a g ha hlast).put _
theorem Gk.freeze (u : Up F0 H0 F H) (m : Gk H0 F H p ts as gs) : ∃ F', Same F F' ∧ Up F0 H0 F' H ∧ rGroups.r F' (.ref p) gs := by
  have hin : ∀ a, (a = p ∨ a ∈ as) → H0 a = none ∧ F a = none := fun a h => by
    rcases h with e | e
    · subst e; exact ⟨m.out.h0, m.out.f⟩
    · have := m.mem e; exact ⟨this.1, this.2.1⟩
  have s1 : Same F (fun a => if a = p ∨ a ∈ as then H a else F a) := fun a o e => by
    show (if a = p ∨ a ∈ as then H a else F a) = some o
    rw [if_neg (fun h => by rw [(hin a h).2] at e; cases e)]
    exact e
  refine ⟨fun a => if a = p ∨ a ∈ as then H a else F a, s1, ⟨u.f.trans s1, u.h, fun a o e => ?_, fun a q k => ?_⟩, ⟨p, ts.map V.ref, rfl, ?_, ?_⟩⟩
  · split at e
    · exact e
    · exact u.s a o e
  · show (if a = p ∨ a ∈ as then H a else F a) = none
    rw [if_neg (fun h => k (hin a h).1)]
    exact u.n a q k
  · show (if p = p ∨ p ∈ as then H p else F p) = _
    rw [if_pos (.inl rfl)]
    exact m.out.h
  · have hall : ∀ (us bs : List Addr) (rs : List Grp), us.length = rs.length → bs.length = rs.length → (∀ (j : Nat) (t a : Addr) (r : Grp), us[j]? = some t → bs[j]? = some a → rs[j]? = some r → F t = some (.tup [.str (kdS r.1), .ref a]) ∧ a ∈ as ∧ H a = some (.lst (natsV r.2))) →
        All2 ((rTup2 rKd rRow).r fun a => if a = p ∨ a ∈ as then H a else F a) (us.map V.ref) rs := by
      intro us
      induction us with
      | nil => intro bs rs hl _ _; cases rs with | nil => exact .nil | cons x y => simp at hl
      | cons b us ih =>
        intro bs rs hl hl2 hm
        cases rs with
        | nil => simp at hl
        | cons r rs =>
          cases bs with
          | nil => simp at hl2
          | cons a bs =>
            obtain ⟨q0, q1, q2⟩ := hm 0 b a r rfl rfl rfl
            refine .cons ⟨b, _, _, rfl, s1 _ _ q0, rfl, ⟨a, natsV r.2, rfl, ?_, all2_of_nat r.2⟩⟩ (ih bs rs (by simpa using hl) (by simpa using hl2) fun j t a r' h1 h2 h3 => hm (j + 1) t a r' (by simpa using h1) (by simpa using h2) (by simpa using h3))
            show (if a = p ∨ a ∈ as then H a else F a) = _
            rw [if_pos (.inr q1)]
            exact q2
    exact hall ts as gs m.tlen m.len fun j t a r h1 h2 h3 => ⟨m.tup j t a r h1 h2 h3, List.mem_of_getElem? h2, (m.row j a r h2 h3).h⟩
end
section
variable {K : PySem.W.Frag} {σ : L2.St} {F H F0 H0 : Hp} {te tk : TE} {D : Ends} {tz : TS} {p : Addr} {ts as : List Addr} {gs ini : List Grp} {g : Grp} {i : Nat}
/-- groups.append((kind, [])) -/
theorem s_gpush {kd : Kd} (U : Up F0 H0 F H) (m : Gk H0 F H p ts as gs) (hi : σ[i]? = some (some (.ref p))) (h : Ev tk σ F H rKd kd) (hz : gs.length < 100000)
    (k : ∀ F' H' ts' as', Same F F' → Up F0 H0 F' H' → Gk H0 F' H' p ts' as' (gs ++ [(kd, [])]) → D.nx σ H') : tDrop (tBM K "list" rAppend (tVar i) (tCons (tTup (tCons tk (tCons (tLst tNil) tNil))) tNil)) D σ H := by
  refine ⟨_, hi, .inl ⟨rfl, _, SqL.of m.out.h⟩, h H U.s (Same.refl _) _ fun v F1 H1 u r => ?_⟩
  have rv : v = .str (kdS kd) := r
  subst rv
  refine ⟨Nat.zero_le _, fun a ha => ⟨line100' (by simp), fun t ht => ?_⟩⟩
  have U1 := U.trans u
  have ua := Up.newM (o := .lst []) U1.s ha
  have ut := Up.new (o := .tup [.str (kdS kd), .ref a]) ua.s ht
  have U3 := (U1.trans ua).trans ut
  have ma : Mut H0 F1 (upd H1 a (.lst [])) a (.lst (natsV [])) := ⟨U1.h.free ha, U1.s.free ha, upd_same⟩
  have ma3 := ma.up ut
  have m1 := m.up u
  have m3 := (m1.up ua).up ut
  have hap : a ≠ p := fun e => by
    have := m1.out.h
    rw [← e, ha] at this
    cases this
  have hna : a ∉ as := fun e => (m1.mem e).2.2 ha
  have hst : Same F (upd F1 t (.tup [.str (kdS kd), .ref a])) := u.f.trans ut.f
  have hlen : (ts.map V.ref).length < sizeLine := line100 (by rw [List.length_map, m.tlen]; exact hz)
  refine ⟨p, ts.map V.ref, .ref t, rfl, rfl, m3.out.h, hlen, k _ _ (ts ++ [t]) (as ++ [a]) hst (U3.put _ m3.out) ?_⟩
  refine ⟨by rw [List.length_append, List.length_append, m.tlen]; rfl, by rw [List.length_append, List.length_append, m.len]; rfl, ?_, ?_, by rw [List.map_append]; exact m3.out.put _, fun j t' a' q h1 h2 h3 => ?_, fun j a' q h1 h2 => ?_⟩
  · rw [List.nodup_append]
    exact ⟨m.nd, by simp, fun x hx y hy z => hna (by rw [List.mem_singleton.mp hy] at z; rw [← z]; exact hx)⟩
  · rw [List.mem_append, not_or]
    exact ⟨m.p0, by simpa using Ne.symm hap⟩
  · rcases snoc_at h3 with ⟨hj, h4⟩ | ⟨hj, h4⟩
    · rw [List.getElem?_append_left (by rw [m.tlen]; exact hj)] at h1
      rw [List.getElem?_append_left (by rw [m.len]; exact hj)] at h2
      exact m3.tup j t' a' q h1 h2 h4
    · subst h4
      rcases snoc_at h1 with ⟨hj2, _⟩ | ⟨_, e1⟩
      · rw [m.tlen] at hj2; omega
      · rcases snoc_at h2 with ⟨hj3, _⟩ | ⟨_, e2⟩
        · rw [m.len] at hj3; omega
        · subst e1; subst e2
          exact upd_same
  · rcases snoc_at h2 with ⟨hj, h4⟩ | ⟨hj, h4⟩
    · rw [List.getElem?_append_left (by rw [m.len]; exact hj)] at h1
      refine (m3.row j a' q h1 h4).side fun z => m.p0 ?_
      rw [← z]
      exact List.mem_of_getElem? h1
    · subst h4
      rcases snoc_at h1 with ⟨hj3, _⟩ | ⟨_, e2⟩
      · rw [m.len] at hj3; omega
      · subst e2
        exact ma3.side hap
/-- groups[-1][1].append(k) -/
theorem s_gapp {j k : Nat} {v : V} (U : Up F0 H0 F H) (m : Gk H0 F H p ts as (ini ++ [g])) (hi : σ[i]? = some (some (.ref p))) (hj : σ[j]? = some (some v)) (hv : rNat.r F v k) (hz : g.2.length < 100000)
    (q : ∀ H', Up F0 H0 F H' → Gk H0 F H' p ts as (ini ++ [(g.1, g.2 ++ [k])]) → D.nx σ H') : tDrop (tBM K "list" rAppend (tOp (rIxT K) (tOp (rIxL K) (tVar i) (tUn (rU fun i => .int (-i)) (tC (.int 1)))) (tC (.int 1))) (tCons (tVar j) tNil)) D σ H := by
  have ev : v = .int (k : Int) := hv
  subst ev
  have hl : (ini ++ [g]).length = ini.length + 1 := by simp
  have hts : ini.length < ts.length := by rw [m.tlen]; omega
  have has : ini.length < as.length := by rw [m.len]; omega
  have ht : ts[ini.length]? = some ts[ini.length] := List.getElem?_eq_getElem hts
  have ha : as[ini.length]? = some as[ini.length] := List.getElem?_eq_getElem has
  generalize ts[ini.length] = t at ht
  generalize as[ini.length] = a at ha
  have hlast : (ini ++ [g])[ini.length]? = some g := by rw [List.getElem?_append_right (Nat.le_refl _), Nat.sub_self]; rfl
  have htup := m.tup _ t a g ht ha hlast
  have hrow := m.row _ a g ha hlast
  refine ⟨_, hi, _, rfl, p, ts.map V.ref, -1, .ref t, rfl, rfl, SqL.of m.out.h, ?_, t, _, 1, .ref a, rfl, rfl, SqT.of (U.s _ _ htup), atI_int (by decide) rfl, ?_⟩
  · unfold atI ixN
    have hll : (ts.map V.ref).length = ini.length + 1 := by rw [List.length_map, m.tlen, hl]
    rw [if_neg (by omega), if_pos (by omega)]
    show (ts.map V.ref)[(-1 + ((ts.map V.ref).length : Int)).toNat]? = some _
    rw [show (-1 + ((ts.map V.ref).length : Int)).toNat = ini.length by omega, List.getElem?_map, ht]
    rfl
  · refine ⟨.inl ⟨rfl, _, SqL.of hrow.h⟩, _, hj, a, _, _, rfl, rfl, hrow.h, ?_, q _ (U.put _ hrow) (m.app ha)⟩
    unfold natsV
    rw [List.length_map, List.length_map]
    exact line100 hz
def dG (g : Grp) : PyData := .tuple [.str (kdS g.1), .list (g.2.map fun (n : Nat) => PyData.int (n : Int))]
theorem can_ints : ∀ l : List Nat, PyData.canLayAll0 (l.map fun (n : Nat) => PyData.int (n : Int)) = true
  | [] => by rw [List.map_nil]; unfold PyData.canLayAll0; rfl
  | a :: l => by
    rw [List.map_cons]
    unfold PyData.canLayAll0
    rw [can_ints l]
    unfold PyData.canLay0
    rfl
theorem str_ok (kd : Kd) : PyData.canLay0 (.str (kdS kd)) = true := by
  cases kd <;> decide +kernel
theorem can_g (g : Grp) : PyData.canLay0 (dG g) = true := by
  unfold dG
  have h := str_ok g.1
  unfold PyData.canLay0 at h
  simp [PyData.canLay0, PyData.canLayAll0, can_ints, h]
theorem can_gs : ∀ gs : List Grp, PyData.canLayAll0 (gs.map dG) = true
  | [] => by rw [List.map_nil]; unfold PyData.canLayAll0; rfl
  | g :: r => by
    rw [List.map_cons]
    unfold PyData.canLayAll0
    rw [can_g g, can_gs r]
    rfl
theorem depth_g (g : Grp) : PyData.depth (dG g) ≤ 2 := by
  unfold dG
  simp [PyData.depth, PyData.depthAll, depth_ints]
theorem depth_gs : ∀ gs : List Grp, PyData.depthAll (gs.map dG) ≤ 2
  | [] => by rw [List.map_nil]; unfold PyData.depthAll; decide
  | g :: r => by
    rw [List.map_cons]
    unfold PyData.depthAll
    have h1 := depth_g g
    have h2 := depth_gs r
    omega
theorem dp_gs {H1 : Hp} (eF : Same F H1) : ∀ (us bs : List Addr) (rs : List Grp), us.length = rs.length → bs.length = rs.length → (∀ (j : Nat) (t a : Addr) (r : Grp), us[j]? = some t → bs[j]? = some a → rs[j]? = some r → F t = some (.tup [.str (kdS r.1), .ref a]) ∧ H1 a = some (.lst (natsV r.2))) → DpAll K H1 (us.map V.ref) (rs.map dG)
  | [], _, [], _, _, _ => .nil
  | [], _, _ :: _, hl, _, _ => by simp at hl
  | _ :: _, _, [], hl, _, _ => by simp at hl
  | _ :: _, [], _ :: _, _, hl, _ => by simp at hl
  | u :: us, b :: bs, r :: rs, h1, h2, hm => by
    obtain ⟨q0, q1⟩ := hm 0 u b r rfl rfl rfl
    exact .cons (.tup (SqT.of (eF _ _ q0)) (.cons (.str _) (.cons (.lst (SqL.of q1) (dp_nats _)) .nil))) (dp_gs eF us bs rs (by simpa using h1) (by simpa using h2) fun j t a r' g1 g2 g3 => hm (j + 1) t a r' (by simpa using g1) (by simpa using g2) (by simpa using g3))
theorem shaped_gs (gs : List Grp) : SeqAt.shaped (.list (gs.map dG)) = true := by
  unfold SeqAt.shaped
  have h1 : PyData.canLay0 (.list (gs.map dG)) = true := by
    unfold PyData.canLay0
    exact can_gs gs
  have h2 : PyData.depth (.list (gs.map dG)) ≤ 64 := by
    unfold PyData.depth
    have := depth_gs gs
    omega
  rw [h1, decide_eq_true h2]
  rfl
theorem eqv_nil (gs : List Grp) : PyData.eqv (.list (gs.map dG)) (.list []) = gs.isEmpty := by
  cases gs with
  | nil => simp [PyData.eqv, PyData.eqvAll]
  | cons g r => simp [PyData.eqv, PyData.eqvAll]
theorem eb_gempty (m : Gk H0 F H p ts as gs) (eF : Same F H) (hi : σ[i]? = some (some (.ref p))) : EvB (tTest (tOp (rEqD K) (tVar i) (tLst tNil))) σ F H gs.isEmpty := fun H1 e1 e2 Q q =>
  ⟨_, hi, Nat.zero_le _, fun l hl => by
    have e3 : Same H (upd H1 l (.lst [])) := e2.trans (Same.new hl)
    refine ⟨.list (gs.map dG), .list [], .lst (SqL.of (e3 _ _ m.out.h)) (dp_gs (F := F) (eF.trans e3) ts as gs m.tlen m.len fun j t a r h1 h2 h3 => ⟨m.tup j t a r h1 h2 h3, e3 _ _ (m.row j a r h2 h3).h⟩), .lst (SqL.of upd_same) .nil, shaped_gs gs, shaped_gs [], _, rfl, ?_⟩
    rw [eqv_nil]
    exact q _ (Same.new hl)⟩
end
section
variable {P : Program} {w : World} {K : PySem.W.Frag} {mg : Str → Option Value} {base : Heap} {Cm Cw ak bk : Addr} {σ : L2.St} {F H : Hp} {te : TE}
def sp_groups : Sp := SpF (ι := List Int × Nat) (fun i => i.1.length = 70 ∧ i.2 ≤ 24) (fun i => apCons (rLst rInt) i.1 (apCons rInt 53 (apCons rNat i.2 apNil))) (fun i => rEx rGroups (WfG i.2)) (fun _ => ())
theorem q_forX {α : Type} {R : Rep α} {φ : List α → Prop} {x : Unit} {tl : TE} {gg : TG} {tu tz : TS} {D : Ends} (h : Ev tl σ F H (rEx (rLst R) φ) x) (e : Same F H) (k : ∀ v xs F' H', φ xs → Up F H F' H' → (rLst R).r F' v xs → tSeq (tFor (iList K (tC v)) gg tu) tz D σ H') : tSeq (tFor (iList K tl) gg tu) tz D σ H :=
  h H e (Same.refl _) _ fun v F' H' u r => by
    obtain ⟨xs, r, hx⟩ := r
    exact k v xs F' H' hx u r
theorem told_app (a b : List Grp) : (toldOf (a ++ b)).flatten = (toldOf a).flatten ++ (toldOf b).flatten := by
  unfold toldOf
  rw [List.map_append, List.flatten_append]
theorem ok_groups (X : Tx K mg Cm Cw ak bk) (d : Df K mg "_law_groups" s__law_groups) (h__law_order : HasF P w K mg base "_law_order" 1 ["cells", "at", "many"] sp_order) : HasF P w K mg base "_law_groups" 2 ["cells", "at", "many"] sp_groups := by
  refine ok_def d sc__law_groups (fun _ _ _ _ _ _ us hl => match us, hl with | [_, _, _], _ => rfl) (fun i F vs h => ?_) fun f cdv A0 outer s H0 E hr => ⟨_, (pss_cons (ps_set (i := 3) sc__law_groups.nd rfl (.inl rfl) (pe_lst pa_nil))
      (pss_cons (ps_for PassesOwn.never rfl (pi_list (pe_hf h__law_order (hr.mono (by decide)) (by rfl) (pa_cons (pv 0) (pa_cons (pv 1) (pa_cons (pv 2) pa_nil))))) (pg_name (i := 4) sc__law_groups.nd rfl (Or.inl rfl))
      (pss_cons (ps_set (i := 5) sc__law_groups.nd rfl (.inl rfl) (pe_op op_fdiv (pe_ix (r := rIxL K) ix_list (pv 0) (pe_op op_add (pv 1) (pe_op op_mod (pv 4) pe_int)) (fun _ _ => rfl)) (pe_op op_add pe_int (pe_op op_fdiv (pv 4) pe_int))))
      (pss_cons (ps_if (PW.pt (pw_or (pt_cmpR (op_eqD hr.units) (pv 3) (pe_lst pa_nil) (nomark _)) (pw_or1 (pt_cmpR op_gt (pe_op op_mod (pv 5) pe_int) pe_int (nomark _))))) (pss_one (ps_expr (pe_bm PySem.F.plainAttrs_list PySem.F.slot_list_append PySem.F.type_list_append mt_append (pv 3) (pa_cons (pe_tup (pa_cons (pe_ix (r := rIxL K) ix_list (pe_lst (pa_cons pe_str (pa_cons pe_str (pa_cons pe_str (pa_cons pe_str pa_nil))))) (pe_op op_mod (pe_op op_fdiv (pv 5) pe_int) pe_int) (fun _ _ => rfl)) (pa_cons (pe_lst pa_nil) pa_nil))) pa_nil)))) pss_nil)
      (pss_one (ps_expr (pe_bm PySem.F.plainAttrs_list PySem.F.slot_list_append PySem.F.type_list_append mt_append (pe_ix (r := rIxT K) ix_tup (pe_ix (r := rIxL K) ix_list (pv 3) (pe_un un_neg pe_int) (fun _ _ => rfl)) pe_int (fun _ _ => rfl)) (pa_cons (pv 4) pa_nil)))))))
      (pss_one (ps_ret (pv 3))))), ?_⟩
  · obtain ⟨_, _, _, rfl, _⟩ := ap3 h
    rfl
  · rintro ⟨cs, N⟩ F H vs hp eF h Q k
    obtain ⟨hc, hN⟩ := hp
    dsimp only at hc hN h k
    obtain ⟨a, b, c, rfl, ra, rb, rc⟩ := ap3 h
    have rb' : b = .int 53 := rb
    subst rb'
    refine q_newL rNat (Up.refl eF) fun p H1 hp1 u1 U1 m1 => ?_
    have g1 : Gk H F H1 p [] [] [] := by
      obtain ⟨vs, h1, h2⟩ := m1
      have := h2.nilR
      subst this
      exact ⟨rfl, rfl, List.nodup_nil, by simp, h1, fun j t a g h => by simp at h, fun j a g h => by simp at h⟩
    refine q_forX (R := rNat) (ev_call (cs, N) (ea_cons (ev_var rfl ra) (ea_cons (ev_var (R := rInt) rfl rfl) (ea_cons (ev_var rfl rc) ea_nil))) ⟨hc, hN⟩) U1.s fun vo ord F2 H2 hord u2 ro => ?_
    dsimp only at hord
    have hol : ord.length = N := by rw [hord.length_eq, List.length_range]
    have U2 := U1.trans u2
    have g2 := g1.up u2
    have ra2 := (rLst rInt).mono u2.f ra
    refine q_for (R := rNat) (xs := ord) (ei_list (R := rNat) (ev_c ro)) U2.s
      (fun i σ F' H' => Up F H F' H' ∧ Same F2 F' ∧ ∃ gs ts as x4 x5, (∀ g ∈ gs, g.2 ≠ []) ∧ (toldOf gs).flatten = ord.take i ∧ gs.length ≤ i ∧ Gk H F' H' p ts as gs ∧ σ = [some a, some (.int 53), some c, some (.ref p), x4, x5])
      (fun F3 H3 u3 => ⟨U2.trans u3, u3.f, [], [], [], none, none, fun _ h => (by cases h), rfl, Nat.le_refl _, g2.up u3, rfl⟩) (fun _ _ _ _ p => p.1.s) ?_ ?_
    · rintro i n σ F3 H3 v hn ⟨U3, f3, gs, ts, as, x4, x5, hne, htold, hgl, g3, rfl⟩ rv
      have hil := (List.getElem?_eq_some_iff.mp hn).1
      have hnN : n < N := List.mem_range.mp (hord.mem_iff.mp (List.mem_of_getElem? hn))
      have rv' : v = .int (n : Int) := rv
      subst rv'
      have ra3 := (rLst rInt).mono f3 ra2
      generalize hC : cs.getD (53 + (n : Int) % 9).toNat 0 / (64 + (n : Int) / 9) = C
      refine q_set ((ev_fdiv (ev_cell (i := 53 + (n : Int) % 9) (ev_var rfl ra3) (ev_add (ev_var (R := rInt) rfl rfl) (ev_mod (Ev.ofNat (ev_var (R := rNat) (x := n) rfl rfl)) ev_int (by decide))) (by omega))
        (ev_add ev_int (ev_fdiv (Ev.ofNat (ev_var (R := rNat) (x := n) rfl rfl)) ev_int ⟨by decide, by decide⟩)) ⟨by omega, by omega⟩).is hC) U3.s fun v4 F4 H4 u4 r4 => ?_
      have r4' : v4 = .int C := r4
      subst r4'
      have U4 := U3.trans u4
      have g4 := g3.up u4
      refine q_ifJ (fun σ F' H' => Up F H F' H' ∧ Same F4 F' ∧ ∃ ini g ts as, (∀ x ∈ ini, x.2 ≠ []) ∧ (toldOf (ini ++ [g])).flatten = ord.take i ∧ ini.length ≤ i ∧ Gk H F' H' p ts as (ini ++ [g]) ∧ σ = [some a, some (.int 53), some c, some (.ref p), some (.int (n : Int)), some (.int C)])
        (eb_or (eb_gempty g4 U4.s rfl) fun _ => eb_test (ev_gt (ev_mod (ev_var (R := rInt) rfl rfl) ev_int (by decide)) ev_int)) U4.s ?_ (fun _ H5 u5 go => ?_) (fun hb H5 u5 go => ?_)
      · rintro σ F5 H5 ⟨U5, f5, ini, g, ts, as, hi1, hi2, hi3, g5, rfl⟩
        have hlen : g.2.length ≤ i := by
          have h1 := congrArg List.length hi2
          rw [told_app, List.length_append, List.length_take] at h1
          have h2 : (toldOf [g]).flatten = g.2 := by
            unfold toldOf
            rw [List.map_cons, List.map_nil, List.flatten_cons, List.flatten_nil, List.append_nil]
          rw [h2] at h1
          omega
        refine s_gapp (j := 4) (k := n) U5 g5 rfl rfl rfl (by omega) fun H6 U6 g6 => ?_
        refine ⟨F5, u4.f.trans f5, U6, f3.trans (u4.f.trans f5), ini ++ [(g.1, g.2 ++ [n])], ts, as, _, _, fun x hx => ?_, ?_, ?_, g6, rfl⟩
        · rcases List.mem_append.mp hx with m | m
          · exact hi1 x m
          · rw [List.mem_singleton.mp m]
            intro e
            have := congrArg List.length e
            simp at this
        · rw [take_snoc hn, ← hi2, told_app, told_app, List.append_assoc]
          congr 1
          unfold toldOf
          rw [List.map_cons, List.map_nil, List.flatten_cons, List.flatten_nil, List.append_nil, List.map_cons, List.map_nil, List.flatten_cons, List.flatten_nil, List.append_nil]
        · rw [List.length_append, List.length_singleton]; omega
      · refine s_gpush (kd := [Kd.any, .row, .come, .any].getD (C / 3 % 4).toNat .any) (U4.trans u5) (g4.up u5) rfl (ev_sel (R := rKd) (xs := [Kd.any, .row, .come, .any]) .any (ea_consL (ev_c rfl) (ea_consL (ev_c rfl) (ea_consL (ev_c rfl) (ea_consL (ev_c rfl) ea_nilL)))) (ev_mod (ev_fdiv (ev_var (R := rInt) rfl rfl) ev_int ⟨by decide, by decide⟩) ev_int (by decide)) rfl (by decide) (by decide)) (by omega) fun F6 H6 ts' as' f6 U6 g6 => ?_
        refine go _ _ _ ⟨U6, f6, gs, _, ts', as', hne, ?_, hgl, g6, rfl⟩
        rw [told_app, htold]
        exact List.append_nil _
      · rw [Bool.or_eq_false_iff] at hb
        have hgne : gs ≠ [] := fun e => by
          rw [e] at hb
          cases hb.1
        have e := List.dropLast_concat_getLast hgne
        have hdl : gs.dropLast.length ≤ i := by rw [List.length_dropLast]; omega
        refine go _ F4 H5 ⟨U4.trans u5, Same.refl _, gs.dropLast, gs.getLast hgne, ts, as, fun x hx => hne x (List.dropLast_subset _ hx), by rw [e]; exact htold, hdl, by rw [e]; exact g4.up u5, rfl⟩
    · rintro σ F3 H3 ⟨U3, f3, gs, ts, as, x4, x5, hne, htold, hgl, g3, rfl⟩
      rw [List.take_length] at htold
      obtain ⟨F4, f4, U4, r4⟩ := g3.freeze U3
      refine s_ret (ev_var (R := rGroups) rfl r4) U4.s fun v F5 H5 u5 r5 => k v F5 H5 (U4.trans u5) ⟨gs, r5, hne, ?_⟩
      show (toldOf gs).flatten.Perm (List.range N)
      rw [htold]
      exact hord
end
end PM
end

section
set_option Elab.async false
set_option linter.all false
set_option maxRecDepth 100000
set_option maxHeartbeats 4000000
/-! the law -/
namespace PM
open PySem PySem.Spec PyProof.Rows L2
abbrev s_law : Stmt := top 63
abbrev N_law : List Str := ["script", "cells", "passes", "letters", "groups", "levels", "opens", "mill", "wish", "word", "told", "k", "plan", "chain", "letter"]
theorem sc_law : FnScope N_law ["script"] (defScope s_law) := ⟨rfl, rfl, rfl, by decide +kernel, rfl, by decide +kernel, by decide +kernel⟩
section
variable {α β : Type} {K : PySem.W.Frag} {σ : L2.St} {F H F0 H0 : Hp} {te ta tb tv : TE} {R : Rep α} {S : Rep β} {D : Ends} {tz tu tw : TS} {t : TT} {φ : α → Prop} {x : Unit}
theorem q_setX {i : Nat} (h : Ev te σ F H (rEx R φ) x) (e : Same F H) (k : ∀ v y F' H', φ y → Up F H F' H' → R.r F' v y → tz D (σ.set i (some v)) H') : tSeq (tAsg te (gName i)) tz D σ H :=
  h H e (Same.refl _) _ fun v F' H' u r => by
    obtain ⟨y, r, hy⟩ := r
    exact k v y F' H' hy u r
theorem ev_catX {φ : List α → Prop} {ys : List α} (ha : Ev ta σ F H (rEx (rLst R) φ) x) (hb : Ev tb σ F H (rLst R) ys) (hz : ∀ xs, φ xs → xs.length + ys.length ≤ 100000) : Ev (tOp rCat ta tb) σ F H (rEx (rLst R) fun zs => ∃ xs, φ xs ∧ zs = xs ++ ys) () :=
  ev_two ha hb fun F1 H1 a b _ e1 _ ra rb Q q => by
    obtain ⟨xs, ⟨p, vs, rfl, h2, h3⟩, hx⟩ := ra
    obtain ⟨o, ws, rfl, h4, h5⟩ := rb
    exact ⟨p, o, vs, ws, rfl, rfl, e1 _ _ h2, e1 _ _ h4, Nat.le_trans (by rw [h3.length, h5.length]; exact hz xs hx) (by decide : 100000 ≤ sizeLine), fun l hl =>
      q _ _ _ (Up.new e1 hl) ⟨xs ++ ys, ⟨l, _, rfl, upd_same, (h3.append h5).up (Same.new (e1.free hl))⟩, xs, hx, rfl⟩⟩
theorem ev_isnotB {a b : Bool} (ha : Ev ta σ F H rBl a) (hb : Ev tb σ F H rBl b) : Ev (tOp (fun x y H Q => ∃ a b, x = .bl a ∧ y = .bl b ∧ Q (.bl (!decide (a = b))) H) ta tb) σ F H rBl (!decide (a = b)) :=
  ev_two ha hb fun F1 H1 v w _ e1 _ ra rb Q q => ⟨a, b, ra, rb, q _ F1 H1 (Up.refl e1) rfl⟩
end
theorem all2_ex {β : Type} {P : V → Nat → Prop} {Q : V → β → Prop} {T : Nat → β → Prop} (h : ∀ v n, P v n → ∃ l, Q v l ∧ T n l) : ∀ {vs : List V} {ns : List Nat}, All2 P vs ns → ∃ os, All2 Q vs os ∧ os.length = ns.length ∧ ∀ (j n : Nat) (l : β), ns[j]? = some n → os[j]? = some l → T n l
  | _, _, .nil => ⟨[], .nil, rfl, fun j n l h => by simp at h⟩
  | _, _, .cons x r => by
    obtain ⟨l, h1, h2⟩ := h _ _ x
    obtain ⟨os, g1, g2, g3⟩ := all2_ex h r
    refine ⟨l :: os, .cons h1 g1, by rw [List.length_cons, List.length_cons, g2], fun j n l' e1 e2 => ?_⟩
    cases j with
    | zero =>
      have e1' := Option.some.inj (show some _ = some n from e1)
      have e2' := Option.some.inj (show some _ = some l' from e2)
      subst e1'; subst e2'
      exact h2
    | succ j => exact g3 j n l' (by simpa using e1) (by simpa using e2)
/-- a def that is its caller's own -/
theorem ok_defF {P : Program} {w : World} {K : PySem.W.Frag} {mg : Str → Option Value} {base : Heap} {ι β : Type} {x : Str} {st : Stmt} {N ps : List Str} {k : Nat} {pre : ι → Prop} {A : ι → Ap} {R : ι → Rep β} {g : ι → β} {f : Addr} {fd : FuncData} (h2 : Fun K x x st f fd) (S : FnScope N ps (defScope st))
    (len : ∀ i F vs, (A i).p F vs → vs.length = ps.length)
    (hb : ∀ (cdv : Value) (A0 : Around) (outer : List Env) (s : Shared) (H0 : Hp) (E : XK), Room k (A0.deeper (envOfC x (defScope st) s.heap.objs.size f cdv)) →
      ∃ t, PSs (cxOf CX0 P w K mg base N x (defScope st) f cdv A0 outer s H0 E).nox (defBody st) t ∧ ∀ i F H vs, pre i → Same F H → (A i).p F vs → BodyF t (start N vs) F H (R i) (g i)) :
    FnOk P w K mg base CX0 (k + 1) f fd ps (SpF pre A R g) := by
  refine h2.ok S (fun vs H Q E h => ?_) fun cdv A0 outer s H vs Q E hr h => ?_
  · obtain ⟨i, F, _, _, h, _⟩ := h
    exact len i F vs h
  · obtain ⟨i, F, hp, hF, ha, q⟩ := h
    obtain ⟨t, ht, hk⟩ := hb cdv A0 outer s H E hr
    exact ⟨t, ht, hk i F H vs hp hF ha Q q⟩
/-- a row of open places, by its letter -/
def rRowO (ps : Passes') (ls : Letters) : Rep Nat := ⟨fun F v n => ∃ l, (rLst rOI).r F v l ∧ l.length ≤ 100000 ∧ ∀ x ∈ l, okOI ps ls n x, fun e h => by
  obtain ⟨l, h1, h2⟩ := h
  exact ⟨l, (rLst rOI).mono e h1, h2⟩⟩
theorem opens_of {ps : Passes'} {ls : Letters} {F : Hp} {v : V} {N : Nat} (hN : N = ls.length) (h24 : ls.length ≤ 24) (h : (rLst (rRowO ps ls)).r F v (List.range N)) : ∃ os, rOpens.r F v os ∧ OkO (ps, ls) os := by
  obtain ⟨a, vs, rfl, h1, h2⟩ := h
  obtain ⟨os, g1, g2, g3⟩ := all2_ex (Q := (rLst rOI).r F) (T := fun n l => l.length ≤ 100000 ∧ ∀ x ∈ l, okOI ps ls n x) (fun v n h => h) h2
  rw [List.length_range] at g2
  refine ⟨os, ⟨a, vs, rfl, h1, g1⟩, by rw [g2, hN], h24, fun n r hr => g3 n n r ?_ hr⟩
  have := (List.getElem?_eq_some_iff.mp hr).1
  exact List.getElem?_range (by omega)
theorem level_ne {ls : Letters} {gs : List Grp} (h : ∀ g ∈ gs, g.2 ≠ []) : ∀ l ∈ levelsOf ls gs, l ≠ [] := by
  intro l hl
  unfold levelsOf at hl
  obtain ⟨m, hm, hlm⟩ := List.mem_flatten.mp hl
  obtain ⟨g, hg, e⟩ := List.mem_map.mp hm
  subst e
  unfold groupLevels at hlm
  cases hk : g.1 with
  | any =>
    rw [hk] at hlm
    have e := List.mem_singleton.mp hlm
    subst e
    intro e
    have := (sortN_perm g.2).length_eq
    rw [e] at this
    exact h g hg (List.eq_nil_of_length_eq_zero this.symm)
  | row =>
    rw [hk] at hlm
    obtain ⟨a, _, e⟩ := List.mem_map.mp hlm
    rw [← e]
    exact List.cons_ne_nil _ _
  | come =>
    rw [hk] at hlm
    obtain ⟨a, _, e⟩ := List.mem_map.mp hlm
    rw [← e]
    exact List.cons_ne_nil _ _
section
variable {P : Program} {w : World} {K : PySem.W.Frag} {mg : Str → Option Value} {base : Heap} {Cm Cw ak bk : Addr} {σ : L2.St} {F H : Hp} {te : TE}
def sp_law (K : PySem.W.Frag) : Sp := SpF (ι := List Int) (fun i => i.length ≤ 1000) (fun i => apCons (rScr K) i apNil) (fun _ => rBl) (fun _ => true)
theorem ok_law {f : Addr} {fd : FuncData} (X : Tx K mg Cm Cw ak bk) (FF : Fun K "law" "law" s_law f fd) (h__law_folded : HasF P w K mg base "_law_folded" 2 ["script", "many"] (sp_folded K)) (h__law_passes : HasF P w K mg base "_law_passes" 2 ["cells", "most"] sp_passes)
    (h__law_letters : HasF P w K mg base "_law_letters" 1 ["cells", "at", "passes", "most"] sp_letters) (h__law_groups : HasF P w K mg base "_law_groups" 2 ["cells", "at", "many"] sp_groups) (h__law_levels : HasF P w K mg base "_law_levels" 1 ["letters", "groups"] sp_llevels)
    (h__law_open : HasF P w K mg base "_law_open" 2 ["passes", "letters", "letter"] (sp_open K)) (h_Mill_init : HasI P w K mg base Cm 3 ["self", "passes"] (sp_Mill_init Cm)) (h_Wish_init : HasI P w K mg base Cw 2 ["self", "letters", "groups"] (sp_Wish_init Cw))
    (h_least_plan : HasF P w K mg base "least_plan" 8 ["mill", "letters", "wish"] (sp_least_plan Cm Cw)) (h_does : HasF P w K mg base "does" 9 ["mill", "letters", "wish", "plan"] (sp_does Cm Cw)) (h_bars : HasF P w K mg base "bars" 9 ["mill", "letters", "wish", "chain"] (sp_bars Cm Cw))
    (h__law_plan : HasF P w K mg base "_law_plan" 1 ["opens", "cell"] sp_plan) (h__law_chain : HasF P w K mg base "_law_chain" 1 ["levels", "cell"] sp_lchain) : FnOk P w K mg base CX0 10 f fd ["script"] (sp_law K) := by
  refine ok_defF FF sc_law (fun i F vs h => ?_) fun cdv A0 outer s H0 E hr => ⟨_, (pss_cons (ps_set (i := 1) sc_law.nd rfl (.inl rfl) (pe_hf h__law_folded (hr.mono (by decide)) (by rfl) (pa_cons (pv 0) (pa_cons pe_int pa_nil))))
      (pss_cons (ps_set (i := 2) sc_law.nd rfl (.inr rfl) (pe_hf h__law_passes (hr.mono (by decide)) (by rfl) (pa_cons (pv 1) (pa_cons pe_int pa_nil))))
      (pss_cons (ps_set (i := 3) sc_law.nd rfl (.inr rfl) (pe_op op_cat (pe_hf h__law_letters (hr.mono (by decide)) (by rfl) (pa_cons (pv 1) (pa_cons pe_int (pa_cons (pv 2) (pa_cons pe_int pa_nil))))) (pe_lst (pa_cons (pe_tup (pa_cons pe_int (pa_cons pe_int pa_nil))) pa_nil))))
      (pss_cons (ps_set (i := 4) sc_law.nd rfl (.inl rfl) (pe_hf h__law_groups (hr.mono (by decide)) (by rfl) (pa_cons (pv 1) (pa_cons pe_int (pa_cons (pe_callB (r := rLenS K) call_len_seq (by rfl) X.z_len (by decide +kernel) (pa_cons (pv 3) pa_nil)) pa_nil)))))
      (pss_cons (ps_set (i := 5) sc_law.nd rfl (.inl rfl) (pe_hf h__law_levels (hr.mono (by decide)) (by rfl) (pa_cons (pv 3) (pa_cons (pv 4) pa_nil))))
      (pss_cons (ps_setLc (i := 6) (own := [("letter", 14)]) (g := (gName 14)) (tt := tYes) rfl sc_law.nd rfl rfl (sw_true rfl rfl rfl (by decide +kernel)) (pi_range1 (by rfl) X.z_range (pa_cons (pe_callB (r := rLenS K) call_len_seq (by rfl) X.z_len (by decide +kernel) (pa_cons (pv 3) pa_nil)) pa_nil)) (blkOk_by (N := N_law) (sc := defScope s_law) (by decide +kernel)) (fun _ _ _ _ _ => (pg_name (i := 14) sc_law.nd rfl (Or.inl rfl))) (fun _ _ _ _ _ => pts_nil) (fun _ _ _ _ _ => (pe_hf h__law_open (hr.mono (by decide)) (by rfl) (pa_cons (pv 2) (pa_cons (pv 3) (pa_cons (pv 14) pa_nil))))))
      (pss_cons (ps_set (i := 7) sc_law.nd rfl (.inl rfl) (pe_hmk h_Mill_init (hr.mono (by decide)) (by rfl) X.g_Mill (pa_cons (pv 2) pa_nil)))
      (pss_cons (ps_set (i := 8) sc_law.nd rfl (.inl rfl) (pe_hmk h_Wish_init (hr.mono (by decide)) (by rfl) X.g_Wish (pa_cons (pv 3) (pa_cons (pv 4) pa_nil))))
      (pss_cons (ps_asg (pe_hf h_least_plan (hr.mono (by decide)) (by rfl) (pa_cons (pv 7) (pa_cons (pv 3) (pa_cons (pv 8) pa_nil)))) (pg_tup rfl (pgs_cons (pg_name (i := 9) sc_law.nd rfl (Or.inl rfl)) (pgs_cons (pg_name (i := 10) sc_law.nd rfl (Or.inl rfl)) pgs_nil))))
      (pss_cons (ps_if (pt_cmpR op_eq (pv 9) pe_str (nomark _)) (pss_one (ps_if (pt_cmpR op_isnot_bl (pe_hf h_does (hr.mono (by decide)) (by rfl) (pa_cons (pv 7) (pa_cons (pv 3) (pa_cons (pv 8) (pa_cons (pv 10) pa_nil))))) pe_bl (nomark _)) (pss_one (ps_ret pe_bl)) pss_nil)) (pss_one (ps_if (PW.pt (pw_or (pt_cmpR op_ne (pv 9) pe_str (nomark _)) (pw_or1 (pt_cmpR op_isnot_bl (pe_hf h_bars (hr.mono (by decide)) (by rfl) (pa_cons (pv 7) (pa_cons (pv 3) (pa_cons (pv 8) (pa_cons (pv 10) pa_nil))))) pe_bl (nomark _))))) (pss_one (ps_ret pe_bl)) pss_nil)))
      (pss_cons (ps_for PassesOwn.never rfl (pi_range1 (by rfl) X.z_range (pa_cons pe_int pa_nil)) (pg_name (i := 11) sc_law.nd rfl (Or.inl rfl))
      (pss_cons (ps_set (i := 12) sc_law.nd rfl (.inl rfl) (pe_hf h__law_plan (hr.mono (by decide)) (by rfl) (pa_cons (pv 6) (pa_cons (pe_op op_mod (pe_ix (r := rIxL K) ix_list (pv 1) (pe_op op_add pe_int (pv 11)) (fun _ _ => rfl)) pe_int) pa_nil))))
      (pss_cons (ps_if (PW.pt (pw_and (pt_cmpR op_eq (pv 9) pe_str (nomark _)) (pw_and (pt_cmpR op_notN (pv 12) pe_non (nomark _)) (pw_and1 (pt_cmpR op_isnot_bl (pe_hf h_does (hr.mono (by decide)) (by rfl) (pa_cons (pv 7) (pa_cons (pv 3) (pa_cons (pv 8) (pa_cons (pv 12) pa_nil))))) pe_bl (nomark _)))))) (pss_one (ps_ret pe_bl)) pss_nil)
      (pss_cons (ps_set (i := 13) sc_law.nd rfl (.inl rfl) (pe_hf h__law_chain (hr.mono (by decide)) (by rfl) (pa_cons (pv 5) (pa_cons (pe_op op_mod (pe_ix (r := rIxL K) ix_list (pv 1) (pe_op op_add pe_int (pv 11)) (fun _ _ => rfl)) pe_int) pa_nil))))
      (pss_one (ps_if (PW.pt (pw_and (pt_cmpR op_eq (pv 9) pe_str (nomark _)) (pw_and1 (pt_cmpR op_isnot_bl (pe_hf h_bars (hr.mono (by decide)) (by rfl) (pa_cons (pv 7) (pa_cons (pv 3) (pa_cons (pv 8) (pa_cons (pv 13) pa_nil))))) pe_bl (nomark _))))) (pss_one (ps_ret pe_bl)) pss_nil))))))
      (pss_one (ps_ret pe_bl))))))))))))), ?_⟩
  · obtain ⟨_, rfl, _⟩ := ap1 h
    rfl
  · rintro ns F H vs hp eF h Q k
    obtain ⟨a, rfl, ra⟩ := ap1 h
    refine q_setX (R := rLst rInt) (ev_call ns (ea_cons (ev_var rfl ra) (ea_cons (ev_nat (i := 70)) ea_nil)) hp) eF fun v1 cs F1 H1 hcs u1 rcs => ?_
    refine q_setX (R := rPassesL) (ev_call cs (ea_cons (ev_var rfl rcs) (ea_cons (ev_int (i := 40)) ea_nil)) hcs) u1.s fun v2 ps F2 H2 wf u2 rps => ?_
    have U2 := u1.trans u2
    replace rcs := (rLst rInt).mono u2.f rcs
    refine q_setX (R := rLet) (ev_catX (R := rLetter) (ys := [(1, 0)]) (ev_call (cs, ps) (ea_cons (ev_var rfl rcs) (ea_cons (ev_int (i := 43)) (ea_cons (ev_var rfl rps) (ea_cons (ev_int (i := 23)) ea_nil)))) ⟨hcs, wf⟩) (ev_lst1 (R := rLetter) (ev_tup2 (R := rInt) (S := rNat) ev_int (ev_c rfl))) (fun xs hx => ?_)) u2.s fun v3 ls F3 H3 hls u3 rls => ?_
    · have h1 := hx.1
      show xs.length + 1 ≤ 100000
      omega
    obtain ⟨xs, ⟨hx1, hx2⟩, els⟩ := hls
    dsimp only at hx2
    have wl : WfL ps ls := by
      have hsn := hx2.snoc (l := (1, 0)) ⟨by decide, by decide⟩ (Nat.zero_le _)
      rw [← els] at hsn
      exact ⟨by rw [hsn.len]; omega, hsn.size, hsn.late⟩
    have hm := wl.many
    have U3 := U2.trans u3
    replace rcs := (rLst rInt).mono u3.f rcs
    replace rps := rPassesL.mono u3.f rps
    refine q_setX (R := rGroups) (ev_call (cs, ls.length) (ea_cons (ev_var rfl rcs) (ea_cons (ev_int (i := 53)) (ea_cons ((ev_lenL (R := rLetter) (ev_var rfl rls)).toNat rfl) ea_nil))) ⟨hcs, hm⟩) u3.s fun v4 gs F4 H4 wg u4 rgs => ?_
    dsimp only at wg
    have U4 := U3.trans u4
    replace rcs := (rLst rInt).mono u4.f rcs
    replace rps := rPassesL.mono u4.f rps
    replace rls := rLet.mono u4.f rls
    refine q_set (ev_call (ls, gs) (ea_cons (ev_var rfl rls) (ea_cons (ev_var rfl rgs) ea_nil)) ⟨wg, hm⟩) u4.s fun v5 F5 H5 u5 rll => ?_
    dsimp only at rll
    have U5 := U4.trans u5
    replace rcs := (rLst rInt).mono u5.f rcs
    replace rps := rPassesL.mono u5.f rps
    replace rls := rLet.mono u5.f rls
    replace rgs := rGroups.mono u5.f rgs
    refine q_set (ev_lcN (R := rNat) (S := rRowO ps ls) (j := 14) (vs := [14]) (f := fun n => n) (ei_rng1 (n := ls.length) (ea_cons (ev_lenL (R := rLetter) (ev_var rfl rls)) ea_nil) (by omega)) (by rw [List.length_range]; omega) (fun _ => rfl) fun n v6 F6 hn e6 r6 => ?_) u5.s fun v6 F6 H6 u6 ros => ?_
    · exact (ev_call (ps, ls, n) (ea_cons (ev_var rfl (rPassesL.mono e6 rps)) (ea_cons (ev_var rfl (rLet.mono e6 rls)) (ea_cons (ev_var rfl r6) ea_nil))) ⟨wf, wl, List.mem_range.mp hn⟩).as fun F v q => q
    rw [List.map_id'] at ros
    obtain ⟨os, ros, hos⟩ := opens_of rfl hm ros
    have U6 := U5.trans u6
    replace rcs := (rLst rInt).mono u6.f rcs
    replace rps := rPassesL.mono u6.f rps
    replace rls := rLet.mono u6.f rls
    replace rgs := rGroups.mono u6.f rgs
    replace rll := rLevels.mono u6.f rll
    refine q_set (ev_Mill wf (ea_cons (ev_var rfl rps) ea_nil)) u6.s fun v7 F7 H7 u7 rmi => ?_
    have U7 := U6.trans u7
    replace rcs := (rLst rInt).mono u7.f rcs
    replace rls := rLet.mono u7.f rls
    replace rgs := rGroups.mono u7.f rgs
    replace rll := rLevels.mono u7.f rll
    replace ros := rOpens.mono u7.f ros
    refine q_set (ev_Wish wg hm (ea_cons (ev_var rfl rls) (ea_cons (ev_var rfl rgs) ea_nil))) u7.s fun v8 F8 H8 u8 rwi => ?_
    have U8 := U7.trans u8
    replace rcs := (rLst rInt).mono u8.f rcs
    replace rls := rLet.mono u8.f rls
    replace rll := rLevels.mono u8.f rll
    replace ros := rOpens.mono u8.f ros
    replace rmi := (rMill Cm).mono u8.f rmi
    -- what the levels are
    have nd := levels_nodup (ls := ls) wg
    have mem := fun x => levels_mem (ls := ls) wg (x := x)
    have hcount := levels_le (ls := ls) wg gs.length
    rw [List.take_length] at hcount
    have hne := level_ne (ls := ls) wg.some
    generalize hll : levelsOf ls gs = ll at *
    have hfl : ll.flatten.length ≤ 24 := by
      have h := len_of_nodup nd (m := List.range ls.length) fun x hx => List.mem_range.mpr ((mem x).mp hx)
      rw [List.length_range] at h
      omega
    have hfew : ∀ l ∈ ll, l.length ≤ 100000 := fun l hl => by
      obtain ⟨j, hj⟩ := List.getElem?_of_mem hl
      have := flat_take_len hj
      omega
    have hlt : ∀ l ∈ ll, ∀ x ∈ l, x < ls.length := fun l hl x hx => (mem x).mp (List.mem_flatten.mpr ⟨l, hl, hx⟩)
    refine ev_call (E := E0) (σ := [some a, some v1, some v2, some v3, some v4, some v5, some v6, some v7, some v8, none, none, none, none, none, none]) (ps, ls, ll) (ea_cons (ev_var (i := 7) rfl rmi) (ea_cons (ev_var (i := 3) rfl rls) (ea_cons (ev_var (i := 8) rfl rwi) ea_nil))) ⟨wf, wl, nd, mem, by dsimp only; omega⟩ H8 u8.s (Same.refl _) _ fun v9 F9 H9 u9 r9 => ?_
    obtain ⟨told, rt, ht⟩ := r9
    have U9 := U8.trans u9
    replace rcs := (rLst rInt).mono u9.f rcs
    replace rls := rLet.mono u9.f rls
    replace rll := rLevels.mono u9.f rll
    replace ros := rOpens.mono u9.f ros
    replace rmi := (rMill Cm).mono u9.f rmi
    replace rwi := (rWish Cw).mono u9.f rwi
    -- cells, plans, chains of the loop
    have hck : ∀ {σ : L2.St} {F' H' : Hp} {c : Int} {n : Nat}, σ[1]? = some (some v1) → σ[11]? = some (some (.int (n : Int))) → Same F9 F' → 0 ≤ c ∧ c + (n : Int) < 70 → Ev (tOp (rI (fun _ j => 0 < j) fun i j => .int (i % j)) (tOp (rIxL K) (tVar 1) (tOp (rI0 fun i j => .int (i + j)) (tC (.int c)) (tVar 11))) (tC (.int 2147483647))) σ F' H' rInt (cs.getD (c + (n : Int)).toNat 0 % 2147483647) := fun h1 h2 e hc =>
      ev_mod (ev_cell (ev_var h1 ((rLst rInt).mono e rcs)) (ev_add ev_int (Ev.ofNat (ev_var (R := rNat) h2 rfl))) (by rw [hcs]; omega)) ev_int (by decide)
    cases told with
    | plan p =>
      obtain ⟨hg, hdo⟩ := ht
      dsimp only at hg hdo
      obtain ⟨x', y', h1, h2, h3⟩ := gt_tup2 (K := K) (i := 9) (j := 10) (σ := [some a, some v1, some v2, some v3, some v4, some v5, some v6, some v7, some v8, none, none, none, none, none, none]) (R := rStr) (S := rPlan) (p := ("plan", p)) rt
      refine h3 H9 u9.s _ ?_
      have hkept := (kept_does wf wl hg (levOf ll)).mpr hdo
      refine q_if ((eb_test (ev_eqS (ev_var (R := rStr) rfl h1) ev_str)).is (decide_eq_true rfl)) u9.s (fun _ H10 u10 => ?_) (fun hb => nomatch hb)
      have U10 := U9.trans u10
      refine s_guard ((eb_test (ev_isnotB (b := true) (ev_call (ps, ls, ll, p) (ea_cons (ev_var rfl rmi) (ea_cons (ev_var rfl rls) (ea_cons (ev_var rfl rwi) (ea_cons (ev_var (R := rPlan) rfl h2) ea_nil)))) ⟨⟨wf, wl, hg⟩, fun x hx => (mem x).mpr hx⟩) ev_bl)).is (by dsimp only; rw [hkept]; rfl)) u10.s fun H11 u11 => ?_
      have U11 := U10.trans u11
      refine q_for (ei_rng1 (n := 3) (ea_cons (ev_int (i := 3)) ea_nil) (by decide)) U11.s (fun i σ F' H' => Up F H F' H' ∧ Same F9 F' ∧ ∃ x11 x12 x13, σ = [some a, some v1, some v2, some v3, some v4, some v5, some v6, some v7, some v8, some x', some y', x11, x12, x13, none]) (fun F12 H12 u12 => ⟨U11.trans u12, u12.f, none, none, none, rfl⟩) (fun _ _ _ _ p => p.1.s) ?_ ?_
      · rintro i n σ F12 H12 v12 hn ⟨U12, f12, x11, x12, x13, rfl⟩ rv
        obtain ⟨rfl, hn3⟩ := range_get hn
        have rv' : v12 = .int (n : Int) := rv
        subst rv'
        refine q_setX (R := rOpt rPlan) (ev_call ((ps, ls), os, _) (ea_cons (ev_var rfl (rOpens.mono f12 ros)) (ea_cons (hck rfl rfl f12 ⟨by decide, by omega⟩) ea_nil)) hos) U12.s fun v13 op F13 H13 hop u13 rop => ?_
        have U13 := U12.trans u13
        have f13 := f12.trans u13.f
        refine q_guard ((eb_and (a := false) (b := false) ((eb_test (ev_eqS (ev_var (R := rStr) rfl (rStr.mono f13 h1)) ev_str)).is (decide_eq_false (by show ¬ (("plan" : Str) = "chain"); decide +kernel))) (fun hb => nomatch hb)).is rfl) U13.s fun H14 u14 => ?_
        have U14 := U13.trans u14
        refine q_setX (R := rRow) (ev_call (ls.length, ll, _) (ea_cons (ev_var rfl (rLevels.mono f13 rll)) (ea_cons (hck rfl rfl f13 ⟨by decide, by omega⟩) ea_nil)) ⟨hne, hlt, by dsimp only; omega, hfew⟩) U14.s fun v15 c F15 H15 hc u15 rc => ?_
        have U15 := U14.trans u15
        have f15 := f13.trans u15.f
        dsimp only at hc
        have hbar := bars_no wf wl hg hdo hc.1
        refine s_guard ((eb_and (a := true) (b := false) ((eb_test (ev_eqS (ev_var (R := rStr) rfl (rStr.mono f15 h1)) ev_str)).is (decide_eq_true rfl)) (fun _ => (eb_test (ev_isnotB (b := false) (ev_call (ps, ls, ll, c) (ea_cons (ev_var rfl ((rMill Cm).mono f15 rmi)) (ea_cons (ev_var rfl (rLet.mono f15 rls)) (ea_cons (ev_var rfl ((rWish Cw).mono f15 rwi)) (ea_cons (ev_var rfl rc) ea_nil))))
          ⟨wf, wl, hc.1, fun x hx => (mem x).mpr (hc.1 x hx), by dsimp only; omega⟩) ev_bl)).is (by dsimp only; rw [hbar]; rfl))).is rfl) U15.s fun H16 u16 => ?_
        exact ⟨F15, u13.f.trans u15.f, U15.trans u16, f15, _, _, _, rfl⟩
      · rintro σ F12 H12 ⟨U12, f12, x11, x12, x13, rfl⟩
        exact s_ret (R := rBl) (x := true) ev_bl U12.s fun v F13 H13 u13 r13 => k v F13 H13 (U12.trans u13) r13
    | chain c =>
      obtain ⟨hcl, hclen, hbar⟩ := ht
      dsimp only at hcl hclen hbar
      obtain ⟨x', y', h1, h2, h3⟩ := gt_tup2 (K := K) (i := 9) (j := 10) (σ := [some a, some v1, some v2, some v3, some v4, some v5, some v6, some v7, some v8, none, none, none, none, none, none]) (R := rStr) (S := rRow) (p := ("chain", c)) rt
      refine h3 H9 u9.s _ ?_
      refine q_if ((eb_test (ev_eqS (ev_var (R := rStr) rfl h1) ev_str)).is (decide_eq_false (by show ¬ (("chain" : Str) = "plan"); decide +kernel))) u9.s (fun hb => nomatch hb) (fun _ H10 u10 => ?_)
      have U10 := U9.trans u10
      refine s_guard (eb_or0 ((eb_test (ev_neS (ev_var (R := rStr) rfl h1) ev_str)).is (by rw [decide_eq_true rfl]; rfl)) ((eb_test (ev_isnotB (b := true) (ev_call (ps, ls, ll, c) (ea_cons (ev_var rfl rmi) (ea_cons (ev_var rfl rls) (ea_cons (ev_var rfl rwi) (ea_cons (ev_var (R := rRow) rfl h2) ea_nil))))
        ⟨wf, wl, hcl, fun x hx => (mem x).mpr (hcl x hx), hclen⟩) ev_bl)).is (by dsimp only; rw [hbar]; rfl))) u10.s fun H11 u11 => ?_
      have U11 := U10.trans u11
      refine q_for (ei_rng1 (n := 3) (ea_cons (ev_int (i := 3)) ea_nil) (by decide)) U11.s (fun i σ F' H' => Up F H F' H' ∧ Same F9 F' ∧ ∃ x11 x12 x13, σ = [some a, some v1, some v2, some v3, some v4, some v5, some v6, some v7, some v8, some x', some y', x11, x12, x13, none]) (fun F12 H12 u12 => ⟨U11.trans u12, u12.f, none, none, none, rfl⟩) (fun _ _ _ _ p => p.1.s) ?_ ?_
      · rintro i n σ F12 H12 v12 hn ⟨U12, f12, x11, x12, x13, rfl⟩ rv
        obtain ⟨rfl, hn3⟩ := range_get hn
        have rv' : v12 = .int (n : Int) := rv
        subst rv'
        refine q_setX (R := rOpt rPlan) (ev_call ((ps, ls), os, _) (ea_cons (ev_var rfl (rOpens.mono f12 ros)) (ea_cons (hck rfl rfl f12 ⟨by decide, by omega⟩) ea_nil)) hos) U12.s fun v13 op F13 H13 hop u13 rop => ?_
        have U13 := U12.trans u13
        have f13 := f12.trans u13.f
        have hguard : EvB (tAnd (tTest (tOp rEq (tVar 9) (tC (.str "chain")))) (tAnd (tTest (tOp (fun x y H Q => y = .non ∧ Q (.bl (!decide (x = .non))) H) (tVar 12) (tC .non))) (tTest (tOp (fun x y H Q => ∃ a b, x = .bl a ∧ y = .bl b ∧ Q (.bl (!decide (a = b))) H) (tCall (sp_does Cm Cw) [] E0 (tCons (tVar 7) (tCons (tVar 3) (tCons (tVar 8) (tCons (tVar 12) tNil))))) (tC (.bl false))))))
            [some a, some v1, some v2, some v3, some v4, some v5, some v6, some v7, some v8, some x', some y', some (.int (n : Int)), some v13, x13, none] F13 H13 false := by
          refine (eb_and (a := true) (b := false) ((eb_test (ev_eqS (ev_var (R := rStr) rfl (rStr.mono f13 h1)) ev_str)).is (decide_eq_true rfl)) fun _ => ?_).is rfl
          cases op with
          | none => exact (eb_and (a := false) (b := false) (eb_test (ev_notN (R := rPlan) (o := none) (ev_var rfl rop))) (fun hb => nomatch hb)).is rfl
          | some p =>
            have hgp : GoodP ps ls p := hop
            have hno := does_no wf wl hgp hcl hbar
            exact (eb_and (a := true) (b := false) (eb_test (ev_notN (R := rPlan) (o := some p) (ev_var rfl rop))) fun _ => (eb_test (ev_isnotB (b := false) (ev_call (ps, ls, ll, p) (ea_cons (ev_var rfl ((rMill Cm).mono f13 rmi)) (ea_cons (ev_var rfl (rLet.mono f13 rls)) (ea_cons (ev_var rfl ((rWish Cw).mono f13 rwi)) (ea_cons (ev_var (R := rPlan) rfl rop.1) ea_nil))))
              ⟨⟨wf, wl, hgp⟩, fun x hx => (mem x).mpr hx⟩) ev_bl)).is (by dsimp only; rw [hno]; rfl)).is rfl
        refine q_guard hguard U13.s fun H14 u14 => ?_
        have U14 := U13.trans u14
        refine q_setX (R := rRow) (ev_call (ls.length, ll, _) (ea_cons (ev_var rfl (rLevels.mono f13 rll)) (ea_cons (hck rfl rfl f13 ⟨by decide, by omega⟩) ea_nil)) ⟨hne, hlt, by dsimp only; omega, hfew⟩) U14.s fun v15 c' F15 H15 hc u15 rc => ?_
        have U15 := U14.trans u15
        have f15 := f13.trans u15.f
        refine s_guard ((eb_and (a := false) (b := false) ((eb_test (ev_eqS (ev_var (R := rStr) rfl (rStr.mono f15 h1)) ev_str)).is (decide_eq_false (by show ¬ (("chain" : Str) = "plan"); decide +kernel))) (fun hb => nomatch hb)).is rfl) U15.s fun H16 u16 => ?_
        exact ⟨F15, u13.f.trans u15.f, U15.trans u16, f15, _, _, _, rfl⟩
      · rintro σ F12 H12 ⟨U12, f12, x11, x12, x13, rfl⟩
        exact s_ret (R := rBl) (x := true) ev_bl U12.s fun v F13 H13 u13 r13 => k v F13 H13 (U12.trans u13) r13
end
end PM
end

section
set_option Elab.async false
set_option linter.all false
set_option maxRecDepth 100000
set_option maxHeartbeats 4000000
/-! the chain of all defs, over the facts of the top -/
namespace PM
open PySem PySem.Spec PyProof.Rows L2
section
variable {l : PySem.W.OpenLaw} {w : World} {K : PySem.W.Frag} {h : Heap} {mg : Str → Option Value}
theorem df_mk {x : Str} {st : Stmt} {f : Addr} {od an : Option Addr} {sl : Array (Option Value)} {oc kV dc pm cd ct : Value} (X : K.In h) (G : h.Ns mainGlobals mg)
    (a : PySem.W.nsIn K mainGlobals x = some (some (.ref f))) (b : K.lookup f = some ⟨oc, od, .func (PySem.W.fnOf x x (defArgs st) (defBody st) (defScope st) .none kV dc pm an cd ct), sl⟩) (c : PySem.W.codeIn K cd x = true) (k : PySem.W.keepIn K (.ref f) = true) : Df K mg x st :=
  ⟨⟨f, _, PySem.W.mg_of X G a, fun_mk b c k⟩⟩
theorem dm_mk {C : Addr} {m q : Str} {st : Stmt} {f : Addr} {od an : Option Addr} {sl : Array (Option Value)} {oc kV dc pm cd ct : Value}
    (a : PySem.W.findIn K (.ref C) m = some (some (.ref f))) (i : PySem.W.isFn K (.ref f) = true) (b : K.lookup f = some ⟨oc, od, .func (PySem.W.fnOf m q (defArgs st) (defBody st) (defScope st) .none kV dc pm an cd ct), sl⟩) (c : PySem.W.codeIn K cd q = true) (k : PySem.W.keepIn K (.ref f) = true) : Dm K C m q st :=
  ⟨⟨f, _, ⟨a, i, k⟩, fun_mk b c k⟩⟩
theorem di_mk {C : Addr} {q : Str} {st : Stmt} {f : Addr} {od an : Option Addr} {sl : Array (Option Value)} {oc kV dc pm cd ct : Value}
    (a : PySem.W.findIn K (.ref C) "__init__" = some (some (.ref f))) (i : PySem.W.isFn K (.ref f) = true) (b : K.lookup f = some ⟨oc, od, .func (PySem.W.fnOf "__init__" q (defArgs st) (defBody st) (defScope st) .none kV dc pm an cd ct), sl⟩) (c : PySem.W.codeIn K cd q = true) (k : PySem.W.keepIn K (.ref f) = true)
    (mk : PySem.W.makesIn K C = true) (kc : PySem.W.keepIn K (.ref C) = true) : Di K C q st :=
  ⟨⟨f, _, ⟨mk, a, i, kc⟩, fun_mk b c k⟩⟩
theorem tx_mk {Cm Cw ak bk : Addr} {od : Option Addr} {n1 n2 : Nat} {sl1 sl2 : Array (Option Value)} {t1 t2 t3 t4 t5 q0 q1 q2 q3 q4 : Tok} (X : K.In h) (G : h.Ns mainGlobals mg)
    (gM : PySem.W.nsIn K mainGlobals "Mill" = some (some (.ref Cm))) (gW : PySem.W.nsIn K mainGlobals "Wish" = some (some (.ref Cw)))
    (aK : PySem.W.nsIn K mainGlobals "KINDS_mills" = some (some (.ref ak))) (bK : PySem.W.nsIn K mainGlobals "KINDS_wishes" = some (some (.ref bk)))
    (aL : K.lookup ak = some ⟨.type "tuple", od, .seq #[.str "queue" t1, .str "pile" t2] n1, sl1⟩) (bL : K.lookup bk = some ⟨.type "list", none, .seq #[.str "any" t3, .str "come" t4, .str "row" t5] n2, sl2⟩)
    (c0 : PySem.W.nsIn K mainGlobals "MOST_PASSES" = some (some (.int 6 q0)))
    (c1 : PySem.W.nsIn K mainGlobals "MOST_POCKETS" = some (some (.int 6 q1)))
    (c2 : PySem.W.nsIn K mainGlobals "MOST_CODES" = some (some (.int 1000 q2)))
    (c3 : PySem.W.nsIn K mainGlobals "WIDEST" = some (some (.int 9 q3)))
    (c4 : PySem.W.nsIn K mainGlobals "MOST_LETTERS" = some (some (.int 24 q4)))
    (zlen : PySem.W.nsIn K mainGlobals "len" = some none)
    (zrange : PySem.W.nsIn K mainGlobals "range" = some none)
    (zzip : PySem.W.nsIn K mainGlobals "zip" = some none)
    (ztuple : PySem.W.nsIn K mainGlobals "tuple" = some none)
    (zlist : PySem.W.nsIn K mainGlobals "list" = some none)
    (zreversed : PySem.W.nsIn K mainGlobals "reversed" = some none)
    (zdivmod : PySem.W.nsIn K mainGlobals "divmod" = some none)
    (zall : PySem.W.nsIn K mainGlobals "all" = some none)
    (zmin : PySem.W.nsIn K mainGlobals "min" = some none)
    (zsorted : PySem.W.nsIn K mainGlobals "sorted" = some none)
    (zenumerate : PySem.W.nsIn K mainGlobals "enumerate" = some none)
    (pgm : PySem.W.plainGet K Cm Str.empty = true) (hdm : PySem.W.hasDictIn K Cm = true) (pom : PySem.W.plainOver K Cm = true) (sam : PySem.W.findIn K (.ref Cm) "__setattr__" = some (some (.builtin "object.__setattr__")))
    (pgw : PySem.W.plainGet K Cw Str.empty = true) (hdw : PySem.W.hasDictIn K Cw = true) (pow : PySem.W.plainOver K Cw = true) (saw : PySem.W.findIn K (.ref Cw) "__setattr__" = some (some (.builtin "object.__setattr__")))
    (npasses : PySem.W.findIn K (.ref Cm) "passes" = some none)
    (ngroups : PySem.W.findIn K (.ref Cw) "groups" = some none)
    (nlevels : PySem.W.findIn K (.ref Cw) "kept_levels" = some none)
    (nnumbers : PySem.W.findIn K (.ref Cw) "numbers" = some none)
    : Tx K mg Cm Cw ak bk :=
  { z_len := PySem.W.mg_none_of X G zlen,
    z_range := PySem.W.mg_none_of X G zrange,
    z_zip := PySem.W.mg_none_of X G zzip,
    z_tuple := PySem.W.mg_none_of X G ztuple,
    z_list := PySem.W.mg_none_of X G zlist,
    z_reversed := PySem.W.mg_none_of X G zreversed,
    z_divmod := PySem.W.mg_none_of X G zdivmod,
    z_all := PySem.W.mg_none_of X G zall,
    z_min := PySem.W.mg_none_of X G zmin,
    z_sorted := PySem.W.mg_none_of X G zsorted,
    z_enumerate := PySem.W.mg_none_of X G zenumerate,
    c_MOST_PASSES := ⟨_, PySem.W.mg_of X G c0⟩,
    c_MOST_POCKETS := ⟨_, PySem.W.mg_of X G c1⟩,
    c_MOST_CODES := ⟨_, PySem.W.mg_of X G c2⟩,
    c_WIDEST := ⟨_, PySem.W.mg_of X G c3⟩,
    c_MOST_LETTERS := ⟨_, PySem.W.mg_of X G c4⟩,
    c_KINDS_mills := PySem.W.mg_of X G aK,
    c_KINDS_wishes := PySem.W.mg_of X G bK,
    v_mills := fun _ => .inr ⟨_, _, _, aL, rfl, rfl, (by show 2 ≤ sizeLine; decide), .cons ⟨_, rfl⟩ (.cons ⟨_, rfl⟩ .nil)⟩,
    v_wishes := fun _ => .inr ⟨_, _, _, bL, rfl, rfl, rfl, (by show 3 ≤ sizeLine; decide), .cons ⟨_, rfl⟩ (.cons ⟨_, rfl⟩ (.cons ⟨_, rfl⟩ .nil))⟩,
    k_Mill := ⟨pgm, hdm, pom, sam⟩,
    k_Wish := ⟨pgw, hdw, pow, saw⟩,
    a_passes := npasses,
    a_groups := ngroups,
    a_levels := nlevels,
    a_numbers := nnumbers,
    g_Mill := PySem.W.mg_of X G gM,
    g_Wish := PySem.W.mg_of X G gW }
theorem all_mk {fa Cm Cw ak bk : Addr} (hfa : mg "law" = some (.ref fa)) (X : Tx K mg Cm Cw ak bk)
    (d_codes_ahead : Df K mg "codes_ahead" s_codes_ahead)
    (d_many : Dm K Cm "many" "Mill.many" s_Mill_many)
    (d_codes : Dm K Cm "codes" "Mill.codes" s_Mill_codes)
    (d_look_at_late : Df K mg "look_at_late" s_look_at_late)
    (d_look_at_word : Df K mg "look_at_word" s_look_at_word)
    (d_face : Df K mg "face" s_face)
    (d_fits : Df K mg "fits" s_fits)
    (d_code_word : Df K mg "code_word" s_code_word)
    (d_pockets_kept : Df K mg "pockets_kept" s_pockets_kept)
    (d_Mill_init : Di K Cm "Mill.__init__" s_Mill___init__)
    (d_look_at_letters : Df K mg "look_at_letters" s_look_at_letters)
    (d_word_for : Df K mg "word_for" s_word_for)
    (d_look_at_plan : Df K mg "look_at_plan" s_look_at_plan)
    (d_emptied : Df K mg "emptied" s_emptied)
    (d_trays : Df K mg "trays" s_trays)
    (d_end_row : Df K mg "end_row" s_end_row)
    (d_look_at_groups : Df K mg "look_at_groups" s_look_at_groups)
    (d_group_levels : Df K mg "group_levels" s_group_levels)
    (d_Wish_init : Di K Cw "Wish.__init__" s_Wish___init__)
    (d_wlevels : Dm K Cw "levels" "Wish.levels" s_Wish_levels)
    (d_behind : Dm K Cw "behind" "Wish.behind" s_Wish_behind)
    (d_breach : Dm K Cw "breach" "Wish.breach" s_Wish_breach)
    (d_kept_by : Dm K Cw "kept_by" "Wish.kept_by" s_Wish_kept_by)
    (d_places_open : Df K mg "places_open" s_places_open)
    (d_open_places : Df K mg "open_places" s_open_places)
    (d_next_place : Df K mg "next_place" s_next_place)
    (d_chain_to : Df K mg "chain_to" s_chain_to)
    (d_chain_places : Df K mg "chain_places" s_chain_places)
    (d_bars : Df K mg "bars" s_bars)
    (d_does : Df K mg "does" s_does)
    (d_least_plan : Df K mg "least_plan" s_least_plan)
    (d_l_cell_at : Df K mg "_law_cell_at" s__law_cell_at)
    (d_l_part : Df K mg "_law_part" s__law_part)
    (d_l_folded : Df K mg "_law_folded" s__law_folded)
    (d_l_pocket : Df K mg "_law_pocket" s__law_pocket)
    (d_l_passes : Df K mg "_law_passes" s__law_passes)
    (d_l_letters : Df K mg "_law_letters" s__law_letters)
    (d_l_words : Df K mg "_law_words" s__law_words)
    (d_l_code : Df K mg "_law_code" s__law_code)
    (d_l_open : Df K mg "_law_open" s__law_open)
    (d_l_order : Df K mg "_law_order" s__law_order)
    (d_l_groups : Df K mg "_law_groups" s__law_groups)
    (d_l_levels : Df K mg "_law_levels" s__law_levels)
    (d_l_plan : Df K mg "_law_plan" s__law_plan)
    (d_l_chain : Df K mg "_law_chain" s__law_chain)
    (d_law : Df K mg "law" s_law)
    : ∃ fd : FuncData, (∀ (s : Shared) (v : Value), BindsTo s fd ⟨[v], []⟩ [("script", v)]) ∧ ∀ base : Heap, K.In base → base.Ns mainGlobals mg → FnOk l.prog w K mg base CX0 10 fa fd ["script"] (sp_law K) := by
  obtain ⟨f, fd, h1, FF⟩ := d_law.ex
  have e := hfa.symm.trans h1
  cases e
  have FF2 := FF
  obtain ⟨⟨oc, od, kV, doc, pm, an, cdv, ct, osl, rfl, _, _⟩, _⟩ := FF2
  refine ⟨PySem.W.fnOf "law" "law" (defArgs s_law) (defBody s_law) (defScope s_law) .none kV doc pm an cdv ct, fun s v => .of_eq rfl, fun base _ _ => ?_⟩
  have h_codes_ahead := ok_codes_ahead (P := l.prog) (w := w) (base := base) X d_codes_ahead
  have h_many := ok_many (P := l.prog) (w := w) (base := base) X d_many
  have h_codes := ok_codes (P := l.prog) (w := w) (base := base) X d_codes h_codes_ahead h_many
  have h_look_at_late := ok_look_at_late (P := l.prog) (w := w) (base := base) X d_look_at_late h_many
  have h_look_at_word := ok_look_at_word (P := l.prog) (w := w) (base := base) X d_look_at_word h_look_at_late h_many
  have h_face := ok_face (P := l.prog) (w := w) (base := base) X d_face h_look_at_word
  have h_fits := ok_fits (P := l.prog) (w := w) (base := base) X d_fits h_look_at_word
  have h_code_word := ok_code_word (P := l.prog) (w := w) (base := base) X d_code_word h_look_at_late h_codes
  have h_pockets_kept := ok_pockets_kept (P := l.prog) (w := w) (base := base) X d_pockets_kept
  have h_Mill_init := ok_Mill_init (P := l.prog) (w := w) (base := base) X d_Mill_init h_pockets_kept h_codes
  have h_look_at_letters := ok_look_at_letters (P := l.prog) (w := w) (base := base) X d_look_at_letters h_many
  have h_word_for := ok_word_for (P := l.prog) (w := w) (base := base) X d_word_for h_fits
  have h_look_at_plan := ok_look_at_plan (P := l.prog) (w := w) (base := base) X d_look_at_plan h_look_at_letters h_word_for
  have h_emptied := ok_emptied (P := l.prog) (w := w) (base := base) X d_emptied
  have h_trays := ok_trays (P := l.prog) (w := w) (base := base) X d_trays h_look_at_plan h_many h_emptied
  have h_end_row := ok_end_row (P := l.prog) (w := w) (base := base) X d_end_row h_trays h_many
  have h_look_at_groups := ok_look_at_groups (P := l.prog) (w := w) (base := base) X d_look_at_groups
  have h_group_levels := ok_group_levels (P := l.prog) (w := w) (base := base) X d_group_levels
  have h_Wish_init := ok_Wish_init (P := l.prog) (w := w) (base := base) X d_Wish_init h_look_at_groups h_group_levels
  have h_wlevels := ok_wlevels (P := l.prog) (w := w) (base := base) X d_wlevels
  have h_behind := ok_behind (P := l.prog) (w := w) (base := base) X d_behind
  have h_breach := ok_breach (P := l.prog) (w := w) (base := base) X d_breach h_behind
  have h_kept_by := ok_kept_by (P := l.prog) (w := w) (base := base) X d_kept_by h_breach
  have h_places_open := ok_places_open (P := l.prog) (w := w) (base := base) X d_places_open h_codes h_code_word h_fits h_face
  have h_open_places := ok_open_places (P := l.prog) (w := w) (base := base) X d_open_places h_look_at_letters h_places_open
  have h_next_place := ok_next_place (P := l.prog) (w := w) (base := base) X d_next_place h_open_places
  have h_chain_to := ok_chain_to (P := l.prog) (w := w) (base := base) X d_chain_to
  have h_chain_places := ok_chain_places (P := l.prog) (w := w) (base := base) X d_chain_places h_look_at_letters h_next_place
  have h_bars := ok_bars (P := l.prog) (w := w) (base := base) X d_bars h_chain_places h_behind
  have h_does := ok_does (P := l.prog) (w := w) (base := base) X d_does h_kept_by h_end_row
  have h_least_plan := ok_least_plan (P := l.prog) (w := w) (base := base) X d_least_plan h_look_at_letters h_wlevels h_next_place h_chain_to h_code_word
  have h_l_cell_at := ok_cell_at (P := l.prog) (w := w) (base := base) X d_l_cell_at
  have h_l_part := ok_part (P := l.prog) (w := w) (base := base) X d_l_part
  have h_l_folded := ok_folded (P := l.prog) (w := w) (base := base) X d_l_folded h_l_cell_at h_l_part
  have h_l_pocket := ok_pocket (P := l.prog) (w := w) (base := base) X d_l_pocket
  have h_l_passes := ok_passes (P := l.prog) (w := w) (base := base) X d_l_passes h_l_pocket
  have h_l_letters := ok_letters (P := l.prog) (w := w) (base := base) X d_l_letters
  have h_l_words := ok_words (P := l.prog) (w := w) (base := base) X d_l_words
  have h_l_code := ok_lcode (P := l.prog) (w := w) (base := base) X d_l_code
  have h_l_open := ok_open (P := l.prog) (w := w) (base := base) X d_l_open h_l_words h_l_code
  have h_l_order := ok_order (P := l.prog) (w := w) (base := base) X d_l_order
  have h_l_groups := ok_groups (P := l.prog) (w := w) (base := base) X d_l_groups h_l_order
  have h_l_levels := ok_llevels (P := l.prog) (w := w) (base := base) X d_l_levels
  have h_l_plan := ok_plan (P := l.prog) (w := w) (base := base) X d_l_plan
  have h_l_chain := ok_lchain (P := l.prog) (w := w) (base := base) X d_l_chain
  exact ok_law X FF h_l_folded h_l_passes h_l_letters h_l_groups h_l_levels h_l_open h_Mill_init h_Wish_init h_least_plan h_does h_bars h_l_plan h_l_chain
end
theorem walk {l : PySem.W.OpenLaw} {q : Program} {loose : List Str} {XP : (Str → Option Value) → Heap → Prop} {YP : World → Heap → Prop} {d : DefRec} {K : Params → PySem.W.Frag} (hn : l.most = some 63) (hdf : d.params.defaults = [])
    (hY : ∀ (w : World) (h : Heap), YP w h → (K w.params).In h)
    (F : ∀ (w : World) (mg : Str → Option Value) (fa : Addr) (h : Heap), (K w.params).In h → h.Ns mainGlobals mg → mg d.name = some (.ref fa) →
      ∃ fd : FuncData, (∀ (s : Shared) (u : Value), BindsTo s fd ⟨[u], []⟩ [("script", u)]) ∧ ∀ base : Heap, (K w.params).In base → base.Ns mainGlobals mg → FnOk l.prog w (K w.params) mg base CX0 10 fa fd ["script"] (sp_law (K w.params))) :
    PySem.W.WalkO q loose XP YP l.row.toRowW d [] (fun f vs => PySem.call f vs) :=
  L2.walk_of (n := 63) (k := 10) (x := "script") (CX := fun _ => CX0) (sp := fun w => sp_law (K w.params)) hn (by decide) hdf ⟨rfl, by decide, by decide⟩ hY F
    (fun w H a ns hl _ hS => ⟨ns, H, Nat.le_trans hl (by decide), Same.refl _, ⟨.ref a, [], rfl, ⟨a, rfl, hS⟩, rfl⟩, fun v F' H' _ r => r⟩) fun _ _ _ _ _ z => z
end PM
end

section
set_option Elab.async false
open PySem PySem.W PyProof.Rows in
set_option maxRecDepth 100000 in
set_option maxHeartbeats 0 in
theorem PySem.Challenge.cw_pocketmill_k26_whole_plan_or_chain_holds : PySem.Challenge.rw_pocketmill_k26_whole_plan_or_chain.Holds := by
  w_on; o_law; k_head; (case hw => w_witness2)
  k_fill
  refine PM.walk (l := PySem.Challenge.rw_pocketmill_k26_whole_plan_or_chain) rfl rfl (fun w h Y => PySem.W.kIn_of Y) ?F
  case F =>
    intro w mg fa h KX G hmg
    refine' PM.all_mk hmg ?T ?d_codes_ahead ?d_many ?d_codes ?d_look_at_late ?d_look_at_word ?d_face ?d_fits ?d_code_word ?d_pockets_kept ?d_Mill_init ?d_look_at_letters ?d_word_for ?d_look_at_plan ?d_emptied ?d_trays ?d_end_row ?d_look_at_groups ?d_group_levels ?d_Wish_init ?d_wlevels ?d_behind ?d_breach ?d_kept_by ?d_places_open ?d_open_places ?d_next_place ?d_chain_to ?d_chain_places ?d_bars ?d_does ?d_least_plan ?d_l_cell_at ?d_l_part ?d_l_folded ?d_l_pocket ?d_l_passes ?d_l_letters ?d_l_words ?d_l_code ?d_l_open ?d_l_order ?d_l_groups ?d_l_levels ?d_l_plan ?d_l_chain ?d_law
    case T =>
      refine' PM.tx_mk KX G ?gM ?gW ?aK ?bK ?aL ?bL ?c0 ?c1 ?c2 ?c3 ?c4 ?zlen ?zrange ?zzip ?ztuple ?zlist ?zreversed ?zdivmod ?zall ?zmin ?zsorted ?zenumerate ?pgm ?hdm ?pom ?sam ?pgw ?hdw ?pow ?saw ?npasses ?ngroups ?nlevels ?nnumbers
      (case gM => k_is)
      (case gW => k_is)
      (case aK => k_is)
      (case bK => k_is)
      (case aL => k_is)
      (case bL => k_is)
      (case c0 => k_is)
      (case c1 => k_is)
      (case c2 => k_is)
      (case c3 => k_is)
      (case c4 => k_is)
      (case zlen => k_is)
      (case zrange => k_is)
      (case zzip => k_is)
      (case ztuple => k_is)
      (case zlist => k_is)
      (case zreversed => k_is)
      (case zdivmod => k_is)
      (case zall => k_is)
      (case zmin => k_is)
      (case zsorted => k_is)
      (case zenumerate => k_is)
      (case pgm => k_is)
      (case hdm => k_is)
      (case pom => k_is)
      (case sam => k_is)
      (case pgw => k_is)
      (case hdw => k_is)
      (case pow => k_is)
      (case saw => k_is)
      (case npasses => k_is)
      (case ngroups => k_is)
      (case nlevels => k_is)
      (case nnumbers => k_is)
    case d_codes_ahead => refine' PM.df_mk KX G ?a ?b ?c ?k; (case a => k_is); (case b => k_is); (case c => k_is); (case k => k_is)
    case d_many => refine' PM.dm_mk ?a ?i ?b ?c ?k; (case a => k_is); (case i => k_is); (case b => k_is); (case c => k_is); (case k => k_is)
    case d_codes => refine' PM.dm_mk ?a ?i ?b ?c ?k; (case a => k_is); (case i => k_is); (case b => k_is); (case c => k_is); (case k => k_is)
    case d_look_at_late => refine' PM.df_mk KX G ?a ?b ?c ?k; (case a => k_is); (case b => k_is); (case c => k_is); (case k => k_is)
    case d_look_at_word => refine' PM.df_mk KX G ?a ?b ?c ?k; (case a => k_is); (case b => k_is); (case c => k_is); (case k => k_is)
    case d_face => refine' PM.df_mk KX G ?a ?b ?c ?k; (case a => k_is); (case b => k_is); (case c => k_is); (case k => k_is)
    case d_fits => refine' PM.df_mk KX G ?a ?b ?c ?k; (case a => k_is); (case b => k_is); (case c => k_is); (case k => k_is)
    case d_code_word => refine' PM.df_mk KX G ?a ?b ?c ?k; (case a => k_is); (case b => k_is); (case c => k_is); (case k => k_is)
    case d_pockets_kept => refine' PM.df_mk KX G ?a ?b ?c ?k; (case a => k_is); (case b => k_is); (case c => k_is); (case k => k_is)
    case d_Mill_init => refine' PM.di_mk ?a ?i ?b ?c ?k ?mk ?kc; (case a => k_is); (case i => k_is); (case b => k_is); (case c => k_is); (case k => k_is); (case mk => k_is); (case kc => k_is)
    case d_look_at_letters => refine' PM.df_mk KX G ?a ?b ?c ?k; (case a => k_is); (case b => k_is); (case c => k_is); (case k => k_is)
    case d_word_for => refine' PM.df_mk KX G ?a ?b ?c ?k; (case a => k_is); (case b => k_is); (case c => k_is); (case k => k_is)
    case d_look_at_plan => refine' PM.df_mk KX G ?a ?b ?c ?k; (case a => k_is); (case b => k_is); (case c => k_is); (case k => k_is)
    case d_emptied => refine' PM.df_mk KX G ?a ?b ?c ?k; (case a => k_is); (case b => k_is); (case c => k_is); (case k => k_is)
    case d_trays => refine' PM.df_mk KX G ?a ?b ?c ?k; (case a => k_is); (case b => k_is); (case c => k_is); (case k => k_is)
    case d_end_row => refine' PM.df_mk KX G ?a ?b ?c ?k; (case a => k_is); (case b => k_is); (case c => k_is); (case k => k_is)
    case d_look_at_groups => refine' PM.df_mk KX G ?a ?b ?c ?k; (case a => k_is); (case b => k_is); (case c => k_is); (case k => k_is)
    case d_group_levels => refine' PM.df_mk KX G ?a ?b ?c ?k; (case a => k_is); (case b => k_is); (case c => k_is); (case k => k_is)
    case d_Wish_init => refine' PM.di_mk ?a ?i ?b ?c ?k ?mk ?kc; (case a => k_is); (case i => k_is); (case b => k_is); (case c => k_is); (case k => k_is); (case mk => k_is); (case kc => k_is)
    case d_wlevels => refine' PM.dm_mk ?a ?i ?b ?c ?k; (case a => k_is); (case i => k_is); (case b => k_is); (case c => k_is); (case k => k_is)
    case d_behind => refine' PM.dm_mk ?a ?i ?b ?c ?k; (case a => k_is); (case i => k_is); (case b => k_is); (case c => k_is); (case k => k_is)
    case d_breach => refine' PM.dm_mk ?a ?i ?b ?c ?k; (case a => k_is); (case i => k_is); (case b => k_is); (case c => k_is); (case k => k_is)
    case d_kept_by => refine' PM.dm_mk ?a ?i ?b ?c ?k; (case a => k_is); (case i => k_is); (case b => k_is); (case c => k_is); (case k => k_is)
    case d_places_open => refine' PM.df_mk KX G ?a ?b ?c ?k; (case a => k_is); (case b => k_is); (case c => k_is); (case k => k_is)
    case d_open_places => refine' PM.df_mk KX G ?a ?b ?c ?k; (case a => k_is); (case b => k_is); (case c => k_is); (case k => k_is)
    case d_next_place => refine' PM.df_mk KX G ?a ?b ?c ?k; (case a => k_is); (case b => k_is); (case c => k_is); (case k => k_is)
    case d_chain_to => refine' PM.df_mk KX G ?a ?b ?c ?k; (case a => k_is); (case b => k_is); (case c => k_is); (case k => k_is)
    case d_chain_places => refine' PM.df_mk KX G ?a ?b ?c ?k; (case a => k_is); (case b => k_is); (case c => k_is); (case k => k_is)
    case d_bars => refine' PM.df_mk KX G ?a ?b ?c ?k; (case a => k_is); (case b => k_is); (case c => k_is); (case k => k_is)
    case d_does => refine' PM.df_mk KX G ?a ?b ?c ?k; (case a => k_is); (case b => k_is); (case c => k_is); (case k => k_is)
    case d_least_plan => refine' PM.df_mk KX G ?a ?b ?c ?k; (case a => k_is); (case b => k_is); (case c => k_is); (case k => k_is)
    case d_l_cell_at => refine' PM.df_mk KX G ?a ?b ?c ?k; (case a => k_is); (case b => k_is); (case c => k_is); (case k => k_is)
    case d_l_part => refine' PM.df_mk KX G ?a ?b ?c ?k; (case a => k_is); (case b => k_is); (case c => k_is); (case k => k_is)
    case d_l_folded => refine' PM.df_mk KX G ?a ?b ?c ?k; (case a => k_is); (case b => k_is); (case c => k_is); (case k => k_is)
    case d_l_pocket => refine' PM.df_mk KX G ?a ?b ?c ?k; (case a => k_is); (case b => k_is); (case c => k_is); (case k => k_is)
    case d_l_passes => refine' PM.df_mk KX G ?a ?b ?c ?k; (case a => k_is); (case b => k_is); (case c => k_is); (case k => k_is)
    case d_l_letters => refine' PM.df_mk KX G ?a ?b ?c ?k; (case a => k_is); (case b => k_is); (case c => k_is); (case k => k_is)
    case d_l_words => refine' PM.df_mk KX G ?a ?b ?c ?k; (case a => k_is); (case b => k_is); (case c => k_is); (case k => k_is)
    case d_l_code => refine' PM.df_mk KX G ?a ?b ?c ?k; (case a => k_is); (case b => k_is); (case c => k_is); (case k => k_is)
    case d_l_open => refine' PM.df_mk KX G ?a ?b ?c ?k; (case a => k_is); (case b => k_is); (case c => k_is); (case k => k_is)
    case d_l_order => refine' PM.df_mk KX G ?a ?b ?c ?k; (case a => k_is); (case b => k_is); (case c => k_is); (case k => k_is)
    case d_l_groups => refine' PM.df_mk KX G ?a ?b ?c ?k; (case a => k_is); (case b => k_is); (case c => k_is); (case k => k_is)
    case d_l_levels => refine' PM.df_mk KX G ?a ?b ?c ?k; (case a => k_is); (case b => k_is); (case c => k_is); (case k => k_is)
    case d_l_plan => refine' PM.df_mk KX G ?a ?b ?c ?k; (case a => k_is); (case b => k_is); (case c => k_is); (case k => k_is)
    case d_l_chain => refine' PM.df_mk KX G ?a ?b ?c ?k; (case a => k_is); (case b => k_is); (case c => k_is); (case k => k_is)
    case d_law => refine' PM.df_mk KX G ?a ?b ?c ?k; (case a => k_is); (case b => k_is); (case c => k_is); (case k => k_is)
end
