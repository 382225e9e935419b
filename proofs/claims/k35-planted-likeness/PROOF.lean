import PyProof.Rows.All
import Wide.All
import OpenK.AllK
import Wide.FinOn
import HandS.ForMost
import HandS.Deep
import HandS.Codes
import HandS.Lambda
import HandS.IsInst
import HandS.Strs
import HandS.SortKw
import KE.SortData
import KE.Datum
import KE.DatumMore
import KE.DatumOrd
import KE.KEqDict
import HandS.Sort
import PyProof.EqKinds
import HandS.NestedK
import KE.SortKeyHeap
import HandS.Walk
import HandS.Text
import HandS.More
import HandS.Head0
import HandS.Head1
import HandS.Head2
import HandS.HeadHook1
import HandS.HeadHook2
import HandS.HeadHook3
import HandS.HeadHook4
import HandS.EndTab
import HandS.HeadWalk
import PySem.Challenge.RW_samegoing_k35_whole_planted_likeness
/-! The plain law: grammars with norms, bases, the refinement, and why its last base tells likeness. No program in sight. -/
namespace SG
set_option autoImplicit false
set_option linter.all false
variable {N L : Type}

/-- names in their order, the rules of each -/
structure Gm (N L : Type) where
  names : List N
  rules : N → List (L × List N)

def wt (w : N → Nat) (r : List N) : Nat := (r.map w).sum
theorem wt_nil (w : N → Nat) : wt w [] = 0 := rfl
theorem wt_cons (w : N → Nat) (a : N) (r : List N) : wt w (a :: r) = w a + wt w r := by simp [wt]
theorem wt_append (w : N → Nat) (a b : List N) : wt w (a ++ b) = wt w a + wt w b := by simp [wt]
theorem wt_le_of_mem (w : N → Nat) {x : N} : ∀ {r : List N}, x ∈ r → w x ≤ wt w r
  | y :: r, h => by
    rw [wt_cons]
    rcases List.mem_cons.mp h with rfl | h
    · omega
    · have := wt_le_of_mem w h; omega

def Over (g : Gm N L) (r : List N) : Prop := ∀ x ∈ r, x ∈ g.names
theorem Over.nil (g : Gm N L) : Over g [] := fun _ h => nomatch h
theorem Over.append {g : Gm N L} {a b : List N} (h : Over g a) (k : Over g b) : Over g (a ++ b) := fun x hx => (List.mem_append.mp hx).elim (h x) (k x)
theorem Over.left {g : Gm N L} {a b : List N} (h : Over g (a ++ b)) : Over g a := fun x hx => h x (List.mem_append_left _ hx)
theorem Over.right {g : Gm N L} {a b : List N} (h : Over g (a ++ b)) : Over g b := fun x hx => h x (List.mem_append_right _ hx)
theorem Over.tail {g : Gm N L} {x : N} {a : List N} (h : Over g (x :: a)) : Over g a := fun y hy => h y (List.mem_cons_of_mem _ hy)
theorem Over.cons {g : Gm N L} {x : N} {a : List N} (h : x ∈ g.names) (k : Over g a) : Over g (x :: a) := fun y hy => (List.mem_cons.mp hy).elim (fun e => e ▸ h) (k y)
theorem Over.one {g : Gm N L} {x : N} (h : x ∈ g.names) : Over g [x] := Over.cons h (Over.nil g)

/-- the norms w fit the grammar -/
structure Nms (g : Gm N L) (w : N → Nat) : Prop where
  closed : ∀ X ∈ g.names, ∀ p ∈ g.rules X, Over g p.2
  n1 : ∀ X ∈ g.names, ∃ p ∈ g.rules X, 1 + wt w p.2 = w X
  n2 : ∀ X ∈ g.names, ∀ p ∈ g.rules X, w X ≤ 1 + wt w p.2

/-- a row's step -/
def Stp (g : Gm N L) (x : List N) (l : L) (y : List N) : Prop := ∃ X r more, x = X :: r ∧ (l, more) ∈ g.rules X ∧ y = more ++ r
theorem Stp.nil {g : Gm N L} {l : L} {y : List N} (h : Stp g [] l y) : False := by
  obtain ⟨X, r, more, e, _⟩ := h
  cases e
theorem stp_cons {g : Gm N L} {X : N} {r : List N} {l : L} {y : List N} : Stp g (X :: r) l y ↔ ∃ more, (l, more) ∈ g.rules X ∧ y = more ++ r := by
  constructor
  · rintro ⟨X', r', more, e, h, rfl⟩
    cases e
    exact ⟨more, h, rfl⟩
  · rintro ⟨more, h, rfl⟩
    exact ⟨X, r, more, rfl, h, rfl⟩
theorem stp_append {g : Gm N L} {a b : List N} (ha : a ≠ []) {l : L} {y : List N} : Stp g (a ++ b) l y ↔ ∃ a', Stp g a l a' ∧ y = a' ++ b := by
  cases a with
  | nil => exact absurd rfl ha
  | cons X r =>
    rw [List.cons_append, stp_cons]
    constructor
    · rintro ⟨more, h, rfl⟩
      exact ⟨more ++ r, stp_cons.mpr ⟨more, h, rfl⟩, by rw [List.append_assoc]⟩
    · rintro ⟨a', h, rfl⟩
      obtain ⟨more, h2, e⟩ := stp_cons.mp h
      exact ⟨more, h2, by rw [e, List.append_assoc]⟩

section
variable {g : Gm N L} {w : N → Nat}
theorem Nms.pos (W : Nms g w) {X : N} (h : X ∈ g.names) : 1 ≤ w X := by
  obtain ⟨p, _, e⟩ := W.n1 X h
  omega
theorem Nms.nil_of (W : Nms g w) {x : List N} (h : Over g x) (e : wt w x = 0) : x = [] := by
  cases x with
  | nil => rfl
  | cons X r =>
    rw [wt_cons] at e
    have := W.pos (h X List.mem_cons_self)
    omega
theorem Nms.over_stp (W : Nms g w) {x y : List N} {l : L} (h : Over g x) (s : Stp g x l y) : Over g y := by
  obtain ⟨X, r, more, rfl, hm, rfl⟩ := s
  exact Over.append (W.closed X (h X List.mem_cons_self) _ hm) h.tail
theorem Nms.stp_le (W : Nms g w) {x y : List N} {l : L} (h : Over g x) (s : Stp g x l y) : wt w x ≤ 1 + wt w y := by
  obtain ⟨X, r, more, rfl, hm, rfl⟩ := s
  have := W.n2 X (h X List.mem_cons_self) _ hm
  rw [wt_cons, wt_append]
  show w X + wt w r ≤ 1 + (wt w more + wt w r)
  have e : wt w (l, more).2 = wt w more := rfl
  omega
/-- there is a lessening step -/
theorem Nms.less (W : Nms g w) {x : List N} (h : Over g x) (hx : x ≠ []) : ∃ l y, Stp g x l y ∧ wt w y + 1 = wt w x := by
  cases x with
  | nil => exact absurd rfl hx
  | cons X r =>
    obtain ⟨⟨l, more⟩, hp, e⟩ := W.n1 X (h X List.mem_cons_self)
    refine ⟨l, more ++ r, stp_cons.mpr ⟨more, hp, rfl⟩, ?_⟩
    rw [wt_append, wt_cons]
    have e' : 1 + wt w more = w X := e
    omega
end

/-! ### bisimulations keep norms -/
/-- R is a bisimulation over the grammar's rows -/
structure Bis (g : Gm N L) (R : List N → List N → Prop) : Prop where
  over : ∀ x y, R x y → Over g x ∧ Over g y
  fwd : ∀ x y, R x y → ∀ l x', Stp g x l x' → ∃ y', Stp g y l y' ∧ R x' y'
  bwd : ∀ x y, R x y → ∀ l y', Stp g y l y' → ∃ x', Stp g x l x' ∧ R x' y'
section
variable {g : Gm N L} {w : N → Nat} {R : List N → List N → Prop}
theorem Bis.symm (b : Bis g R) : Bis g fun x y => R y x := ⟨fun x y h => (b.over y x h).symm, fun x y h => b.bwd y x h, fun x y h => b.fwd y x h⟩
theorem Bis.wt_le (W : Nms g w) (b : Bis g R) : ∀ (n : Nat) (x y : List N), wt w x = n → R x y → wt w y ≤ wt w x := by
  intro n
  induction n with
  | zero =>
    intro x y e h
    have hx := W.nil_of (b.over x y h).1 e
    subst hx
    cases y with
    | nil => exact Nat.le_refl _
    | cons Y r =>
      obtain ⟨l, y', s, _⟩ := W.less (b.over _ _ h).2 (List.cons_ne_nil Y r)
      obtain ⟨x', s', _⟩ := b.bwd _ _ h l y' s
      exact s'.nil.elim
  | succ n ih =>
    intro x y e h
    have hx : x ≠ [] := by rintro rfl; rw [wt_nil] at e; omega
    obtain ⟨l, x', s, e'⟩ := W.less (b.over x y h).1 hx
    obtain ⟨y', s', h'⟩ := b.fwd x y h l x' s
    have := ih x' y' (by omega) h'
    have := W.stp_le (b.over x y h).2 s'
    omega
theorem Bis.wt_eq (W : Nms g w) (b : Bis g R) {x y : List N} (h : R x y) : wt w x = wt w y :=
  Nat.le_antisymm (b.symm.wt_le W _ y x rfl h) (b.wt_le W _ x y rfl h)
end

/-! ### bases and outs -/
/-- a row with makings in the places of names -/
def out (B : N → Option (List N)) (x : List N) : List N := x.flatMap fun X => (B X).getD [X]
section
variable {g : Gm N L} {w : N → Nat} {B : N → Option (List N)}
theorem out_nil : out B [] = [] := rfl
theorem out_cons (X : N) (r : List N) : out B (X :: r) = (B X).getD [X] ++ out B r := by simp [out]
theorem out_append (a b : List N) : out B (a ++ b) = out B a ++ out B b := by simp [out]
theorem out_one (X : N) : out B [X] = (B X).getD [X] := by simp [out]
theorem out_self : ∀ {x : List N}, (∀ X ∈ x, B X = none) → out B x = x
  | [], _ => rfl
  | X :: r, h => by
    rw [out_cons, h X List.mem_cons_self, out_self fun Y hY => h Y (List.mem_cons_of_mem _ hY)]
    rfl
theorem out_congr {B' : N → Option (List N)} : ∀ {x : List N}, (∀ X ∈ x, B X = B' X) → out B x = out B' x
  | [], _ => rfl
  | X :: r, h => by
    rw [out_cons, out_cons, h X List.mem_cons_self, out_congr fun Y hY => h Y (List.mem_cons_of_mem _ hY)]

/-- a base whose makings are rows, not empty, of names that have none -/
structure Mkd (g : Gm N L) (B : N → Option (List N)) : Prop where
  dom : ∀ X m, B X = some m → X ∈ g.names
  ne : ∀ X m, B X = some m → m ≠ []
  free : ∀ X m, B X = some m → ∀ Y ∈ m, B Y = none
  over : ∀ X m, B X = some m → Over g m
theorem Mkd.out_free (M : Mkd g B) : ∀ (x : List N), ∀ Y ∈ out B x, B Y = none
  | [], _, h => nomatch h
  | X :: r, Y, h => by
    rw [out_cons] at h
    rcases List.mem_append.mp h with h | h
    · cases e : B X with
      | none =>
        rw [e] at h
        have : Y = X := by simpa using h
        rw [this]; exact e
      | some m =>
        rw [e] at h
        exact M.free X m e Y h
    · exact M.out_free r Y h
theorem Mkd.out_out (M : Mkd g B) (x : List N) : out B (out B x) = out B x := out_self (M.out_free x)
theorem Mkd.out_over (M : Mkd g B) : ∀ {x : List N}, Over g x → Over g (out B x)
  | [], _ => Over.nil g
  | X :: r, h => by
    rw [out_cons]
    refine Over.append ?_ (M.out_over h.tail)
    cases e : B X with
    | none => exact Over.one (h X List.mem_cons_self)
    | some m => exact M.over X m e
theorem Mkd.out_ne (M : Mkd g B) (X : N) : out B [X] ≠ [] := by
  rw [out_one]
  cases e : B X with
  | none => exact List.cons_ne_nil _ _
  | some m => exact M.ne X m e
theorem Mkd.out_eq_nil (M : Mkd g B) {x : List N} (h : out B x = []) : x = [] := by
  cases x with
  | nil => rfl
  | cons X r =>
    have e : out B ([X] ++ r) = out B [X] ++ out B r := out_append [X] r
    have h' : out B ([X] ++ r) = [] := h
    rw [e] at h'
    exact absurd (List.append_eq_nil_iff.mp h').1 (M.out_ne X)

/-- the steps of two are alike by outs -/
def Alk (g : Gm N L) (B : N → Option (List N)) (x y : List N) : Prop :=
  (∀ l x', Stp g x l x' → ∃ y', Stp g y l y' ∧ out B x' = out B y') ∧ (∀ l y', Stp g y l y' → ∃ x', Stp g x l x' ∧ out B x' = out B y')
/-- the base holds -/
def Hlds (g : Gm N L) (B : N → Option (List N)) : Prop := ∀ X m, B X = some m → Alk g B [X] m

/-- a row and its out step alike -/
theorem hlds_out (M : Mkd g B) (K : Hlds g B) {x : List N} : Alk g B x (out B x) := by
  cases x with
  | nil => exact ⟨fun l x' s => s.nil.elim, fun l y' s => s.nil.elim⟩
  | cons X r =>
    rw [out_cons]
    cases e : B X with
    | none =>
      show Alk g B (X :: r) (X :: out B r)
      refine ⟨fun l x' s => ?_, fun l y' s => ?_⟩
      · obtain ⟨more, hm, rfl⟩ := stp_cons.mp s
        exact ⟨more ++ out B r, stp_cons.mpr ⟨more, hm, rfl⟩, by rw [out_append, out_append, M.out_out]⟩
      · obtain ⟨more, hm, rfl⟩ := stp_cons.mp s
        exact ⟨more ++ r, stp_cons.mpr ⟨more, hm, rfl⟩, by rw [out_append, out_append, M.out_out]⟩
    | some m =>
      show Alk g B (X :: r) (m ++ out B r)
      obtain ⟨k1, k2⟩ := K X m e
      have hm := M.ne X m e
      refine ⟨fun l x' s => ?_, fun l y' s => ?_⟩
      · have s' : Stp g ([X] ++ r) l x' := s
        obtain ⟨a, sa, rfl⟩ := (stp_append (List.cons_ne_nil _ _)).mp s'
        obtain ⟨b, sb, eb⟩ := k1 l a sa
        exact ⟨b ++ out B r, (stp_append hm).mpr ⟨b, sb, rfl⟩, by rw [out_append, out_append, M.out_out, eb]⟩
      · obtain ⟨b, sb, rfl⟩ := (stp_append hm).mp s
        obtain ⟨a, sa, ea⟩ := k2 l b sb
        refine ⟨a ++ r, (stp_append (a := [X]) (List.cons_ne_nil _ _)).mpr ⟨a, sa, rfl⟩, ?_⟩
        rw [out_append, out_append, M.out_out, ea]
/-- rows of one out are alike for ever -/
theorem hlds_bis (W : Nms g w) (M : Mkd g B) (K : Hlds g B) : Bis g fun x y => Over g x ∧ Over g y ∧ out B x = out B y := by
  refine ⟨fun x y h => ⟨h.1, h.2.1⟩, fun x y h l x' s => ?_, fun x y h l y' s => ?_⟩
  · obtain ⟨hx, hy, e⟩ := h
    obtain ⟨z, sz, ez⟩ := (hlds_out M K).1 l x' s
    rw [e] at sz
    obtain ⟨y', sy, ey⟩ := (hlds_out M K).2 l z sz
    exact ⟨y', sy, W.over_stp hx s, W.over_stp hy sy, ez.trans ey.symm⟩
  · obtain ⟨hx, hy, e⟩ := h
    obtain ⟨z, sz, ez⟩ := (hlds_out M K).1 l y' s
    rw [← e] at sz
    obtain ⟨x', sx, ex⟩ := (hlds_out M K).2 l z sz
    exact ⟨x', sx, W.over_stp hx sx, W.over_stp hy s, ex.trans ez.symm⟩
end
end SG

/-! The refinement: E, the greatest relation that a base allows; one way to be made of first names. -/
namespace SG
set_option autoImplicit false
set_option linter.all false
variable {N L : Type}

/-! ### the relation that the next base tells -/
/-- R is good for the base old: alike by outs, alike by steps up to outs, lessening steps met in R -/
structure Good (g : Gm N L) (w : N → Nat) (old : N → Option (List N)) (R : List N → List N → Prop) : Prop where
  over : ∀ x y, R x y → Over g x ∧ Over g y
  wt : ∀ x y, R x y → wt w x = wt w y
  out : ∀ x y, R x y → out old x = out old y
  alk : ∀ x y, R x y → Alk g old x y
  fwd : ∀ x y, R x y → ∀ l x', Stp g x l x' → SG.wt w x' + 1 = SG.wt w x → ∃ y', Stp g y l y' ∧ SG.wt w y' + 1 = SG.wt w y ∧ R x' y'
  bwd : ∀ x y, R x y → ∀ l y', Stp g y l y' → SG.wt w y' + 1 = SG.wt w y → ∃ x', Stp g x l x' ∧ SG.wt w x' + 1 = SG.wt w x ∧ R x' y'
def E (g : Gm N L) (w : N → Nat) (old : N → Option (List N)) (x y : List N) : Prop := ∃ R, Good g w old R ∧ R x y

section
variable {g : Gm N L} {w : N → Nat} {old : N → Option (List N)}
theorem Alk.symm {x y : List N} (h : Alk g old x y) : Alk g old y x :=
  ⟨fun l y' s => let ⟨x', a, b⟩ := h.2 l y' s; ⟨x', a, b.symm⟩, fun l x' s => let ⟨y', a, b⟩ := h.1 l x' s; ⟨y', a, b.symm⟩⟩
theorem Alk.refl (x : List N) : Alk g old x x := ⟨fun _ x' s => ⟨x', s, rfl⟩, fun _ x' s => ⟨x', s, rfl⟩⟩
theorem Alk.trans {x y z : List N} (h : Alk g old x y) (k : Alk g old y z) : Alk g old x z :=
  ⟨fun l x' s => let ⟨y', a, b⟩ := h.1 l x' s; let ⟨z', c, d⟩ := k.1 l y' a; ⟨z', c, b.trans d⟩, fun l z' s => let ⟨y', a, b⟩ := k.2 l z' s; let ⟨x', c, d⟩ := h.2 l y' a; ⟨x', c, d.trans b⟩⟩

theorem good_E : Good g w old (E g w old) where
  over := fun x y ⟨_, G, h⟩ => G.over x y h
  wt := fun x y ⟨_, G, h⟩ => G.wt x y h
  out := fun x y ⟨_, G, h⟩ => G.out x y h
  alk := fun x y ⟨_, G, h⟩ => G.alk x y h
  fwd := fun x y ⟨R, G, h⟩ l x' s e => let ⟨y', a, b, c⟩ := G.fwd x y h l x' s e; ⟨y', a, b, R, G, c⟩
  bwd := fun x y ⟨R, G, h⟩ l y' s e => let ⟨x', a, b, c⟩ := G.bwd x y h l y' s e; ⟨x', a, b, R, G, c⟩
theorem E.refl {x : List N} (W : Nms g w) (h : Over g x) : E g w old x x :=
  ⟨fun x y => Over g x ∧ x = y, ⟨fun x y h => ⟨h.1, h.2 ▸ h.1⟩, fun x y h => h.2 ▸ rfl, fun x y h => h.2 ▸ rfl, fun x y h => h.2 ▸ Alk.refl x, fun x y h l x' s e => ⟨x', h.2 ▸ s, h.2 ▸ e, W.over_stp h.1 s, rfl⟩, fun x y h l y' s e => ⟨y', h.2 ▸ s, h.2 ▸ e, W.over_stp (h.2 ▸ h.1) s, rfl⟩⟩, h, rfl⟩
theorem E.symm {x y : List N} (h : E g w old x y) : E g w old y x :=
  ⟨fun x y => E g w old y x, ⟨fun x y h => (good_E.over y x h).symm, fun x y h => (good_E.wt y x h).symm, fun x y h => (good_E.out y x h).symm, fun x y h => (good_E.alk y x h).symm, fun x y h => good_E.bwd y x h, fun x y h => good_E.fwd y x h⟩, h⟩
theorem E.trans {x y z : List N} (h : E g w old x y) (k : E g w old y z) : E g w old x z :=
  ⟨fun x z => ∃ y, E g w old x y ∧ E g w old y z, ⟨fun x z ⟨y, a, b⟩ => ⟨(good_E.over _ _ a).1, (good_E.over _ _ b).2⟩, fun x z ⟨y, a, b⟩ => (good_E.wt _ _ a).trans (good_E.wt _ _ b), fun x z ⟨y, a, b⟩ => (good_E.out _ _ a).trans (good_E.out _ _ b),
    fun x z ⟨y, a, b⟩ => (good_E.alk _ _ a).trans (good_E.alk _ _ b),
    fun x z ⟨y, a, b⟩ l x' s e => let ⟨y', s1, e1, r1⟩ := good_E.fwd _ _ a l x' s e; let ⟨z', s2, e2, r2⟩ := good_E.fwd _ _ b l y' s1 e1; ⟨z', s2, e2, y', r1, r2⟩,
    fun x z ⟨y, a, b⟩ l z' s e => let ⟨y', s1, e1, r1⟩ := good_E.bwd _ _ b l z' s e; let ⟨x', s2, e2, r2⟩ := good_E.bwd _ _ a l y' s1 e1; ⟨x', s2, e2, y', r2, r1⟩⟩, y, h, k⟩
/-- two rows put together -/
theorem E.append (W : Nms g w) {a b c d : List N} (h : E g w old a b) (k : E g w old c d) : E g w old (a ++ c) (b ++ d) := by
  refine ⟨fun x y => ∃ a b c d, x = a ++ c ∧ y = b ++ d ∧ E g w old a b ∧ E g w old c d, ⟨?_, ?_, ?_, ?_, ?_, ?_⟩, a, b, c, d, rfl, rfl, h, k⟩
  · rintro x y ⟨a, b, c, d, rfl, rfl, h, k⟩
    exact ⟨Over.append (good_E.over _ _ h).1 (good_E.over _ _ k).1, Over.append (good_E.over _ _ h).2 (good_E.over _ _ k).2⟩
  · rintro x y ⟨a, b, c, d, rfl, rfl, h, k⟩
    rw [wt_append, wt_append, good_E.wt _ _ h, good_E.wt _ _ k]
  · rintro x y ⟨a, b, c, d, rfl, rfl, h, k⟩
    rw [out_append, out_append, good_E.out _ _ h, good_E.out _ _ k]
  · rintro x y ⟨a, b, c, d, rfl, rfl, h, k⟩
    by_cases ha : a = []
    · subst ha
      have hb : b = [] := W.nil_of (good_E.over _ _ h).2 (good_E.wt _ _ h).symm
      subst hb
      exact good_E.alk _ _ k
    · have hb : b ≠ [] := by
        rintro rfl
        exact ha (W.nil_of (good_E.over _ _ h).1 (good_E.wt _ _ h))
      obtain ⟨h1, h2⟩ := good_E.alk _ _ h
      have ek := good_E.out _ _ k
      refine ⟨fun l x' s => ?_, fun l y' s => ?_⟩
      · obtain ⟨a', s', rfl⟩ := (stp_append ha).mp s
        obtain ⟨b', s2, e2⟩ := h1 l a' s'
        exact ⟨b' ++ d, (stp_append hb).mpr ⟨b', s2, rfl⟩, by rw [out_append, out_append, e2, ek]⟩
      · obtain ⟨b', s', rfl⟩ := (stp_append hb).mp s
        obtain ⟨a', s2, e2⟩ := h2 l b' s'
        exact ⟨a' ++ c, (stp_append ha).mpr ⟨a', s2, rfl⟩, by rw [out_append, out_append, e2, ek]⟩
  · rintro x y ⟨a, b, c, d, rfl, rfl, h, k⟩ l x' s e
    by_cases ha : a = []
    · subst ha
      have hb : b = [] := W.nil_of (good_E.over _ _ h).2 (good_E.wt _ _ h).symm
      subst hb
      obtain ⟨y', s1, e1, r1⟩ := good_E.fwd _ _ k l x' s e
      exact ⟨y', s1, e1, [], [], x', y', rfl, rfl, h, r1⟩
    · have hb : b ≠ [] := by
        rintro rfl
        exact ha (W.nil_of (good_E.over _ _ h).1 (good_E.wt _ _ h))
      obtain ⟨a', s', rfl⟩ := (stp_append ha).mp s
      rw [wt_append, wt_append] at e
      obtain ⟨b', s1, e1, r1⟩ := good_E.fwd _ _ h l a' s' (by omega)
      exact ⟨b' ++ d, (stp_append hb).mpr ⟨b', s1, rfl⟩, by rw [wt_append, wt_append]; omega, a', b', c, d, rfl, rfl, r1, k⟩
  · rintro x y ⟨a, b, c, d, rfl, rfl, h, k⟩ l y' s e
    by_cases hb : b = []
    · subst hb
      have ha : a = [] := W.nil_of (good_E.over _ _ h).1 (good_E.wt _ _ h)
      subst ha
      obtain ⟨x', s1, e1, r1⟩ := good_E.bwd _ _ k l y' s e
      exact ⟨x', s1, e1, [], [], x', y', rfl, rfl, h, r1⟩
    · have ha : a ≠ [] := by
        rintro rfl
        exact hb (W.nil_of (good_E.over _ _ h).2 (good_E.wt _ _ h).symm)
      obtain ⟨b', s', rfl⟩ := (stp_append hb).mp s
      rw [wt_append, wt_append] at e
      obtain ⟨a', s1, e1, r1⟩ := good_E.bwd _ _ h l b' s' (by omega)
      exact ⟨a' ++ c, (stp_append ha).mpr ⟨a', s1, rfl⟩, by rw [wt_append, wt_append]; omega, a', b', c, d, rfl, rfl, r1, k⟩
/-- the same row behind both is taken off -/
theorem E.cancel (W : Nms g w) {a b c : List N} (h : E g w old (a ++ c) (b ++ c)) : E g w old a b := by
  refine ⟨fun x y => ∃ c, E g w old (x ++ c) (y ++ c), ⟨?_, ?_, ?_, ?_, ?_, ?_⟩, c, h⟩
  · rintro x y ⟨c, h⟩
    exact ⟨(good_E.over _ _ h).1.left, (good_E.over _ _ h).2.left⟩
  · rintro x y ⟨c, h⟩
    have := good_E.wt _ _ h
    rw [wt_append, wt_append] at this
    omega
  · rintro x y ⟨c, h⟩
    have := good_E.out _ _ h
    rw [out_append, out_append] at this
    exact List.append_cancel_right this
  · rintro x y ⟨c, h⟩
    have ew := good_E.wt _ _ h
    rw [wt_append, wt_append] at ew
    by_cases hx : x = []
    · subst hx
      have hy : y = [] := W.nil_of (good_E.over _ _ h).2.left (by rw [wt_nil] at ew; omega)
      subst hy
      exact Alk.refl _
    · have hy : y ≠ [] := by
        rintro rfl
        exact hx (W.nil_of (good_E.over _ _ h).1.left (by rw [wt_nil] at ew; omega))
      obtain ⟨h1, h2⟩ := good_E.alk _ _ h
      refine ⟨fun l x' s => ?_, fun l y' s => ?_⟩
      · obtain ⟨z, s1, e1⟩ := h1 l (x' ++ c) ((stp_append hx).mpr ⟨x', s, rfl⟩)
        obtain ⟨y', s2, rfl⟩ := (stp_append hy).mp s1
        rw [out_append, out_append] at e1
        exact ⟨y', s2, List.append_cancel_right e1⟩
      · obtain ⟨z, s1, e1⟩ := h2 l (y' ++ c) ((stp_append hy).mpr ⟨y', s, rfl⟩)
        obtain ⟨x', s2, rfl⟩ := (stp_append hx).mp s1
        rw [out_append, out_append] at e1
        exact ⟨x', s2, List.append_cancel_right e1⟩
  · rintro x y ⟨c, h⟩ l x' s e
    have ew := good_E.wt _ _ h
    rw [wt_append, wt_append] at ew
    have hx : x ≠ [] := by rintro rfl; exact s.nil
    have hy : y ≠ [] := by
      rintro rfl
      exact hx (W.nil_of (good_E.over _ _ h).1.left (by rw [wt_nil] at ew; omega))
    obtain ⟨z, s1, e1, r1⟩ := good_E.fwd _ _ h l (x' ++ c) ((stp_append hx).mpr ⟨x', s, rfl⟩) (by rw [wt_append, wt_append]; omega)
    obtain ⟨y', s2, rfl⟩ := (stp_append hy).mp s1
    rw [wt_append, wt_append] at e1
    exact ⟨y', s2, by omega, c, r1⟩
  · rintro x y ⟨c, h⟩ l y' s e
    have ew := good_E.wt _ _ h
    rw [wt_append, wt_append] at ew
    have hy : y ≠ [] := by rintro rfl; exact s.nil
    have hx : x ≠ [] := by
      rintro rfl
      exact hy (W.nil_of (good_E.over _ _ h).2.left (by rw [wt_nil] at ew; omega))
    obtain ⟨z, s1, e1, r1⟩ := good_E.bwd _ _ h l (y' ++ c) ((stp_append hy).mpr ⟨y', s, rfl⟩) (by rw [wt_append, wt_append]; omega)
    obtain ⟨x', s2, rfl⟩ := (stp_append hx).mp s1
    rw [wt_append, wt_append] at e1
    exact ⟨x', s2, by omega, c, r1⟩
/-- a bisimulation that the old base does not part is within E -/
theorem E.of_bis (W : Nms g w) {R : List N → List N → Prop} (b : Bis g R) (h : ∀ x y, R x y → SG.out old x = SG.out old y) {x y : List N} (r : R x y) : E g w old x y := by
  refine ⟨R, ⟨b.over, fun x y r => b.wt_eq W r, h, fun x y r => ⟨fun l x' s => ?_, fun l y' s => ?_⟩, fun x y r l x' s e => ?_, fun x y r l y' s e => ?_⟩, r⟩
  · obtain ⟨y', s', r'⟩ := b.fwd x y r l x' s
    exact ⟨y', s', h _ _ r'⟩
  · obtain ⟨x', s', r'⟩ := b.bwd x y r l y' s
    exact ⟨x', s', h _ _ r'⟩
  · obtain ⟨y', s', r'⟩ := b.fwd x y r l x' s
    have e1 := b.wt_eq W r
    have e2 := b.wt_eq W r'
    exact ⟨y', s', by omega, r'⟩
  · obtain ⟨x', s', r'⟩ := b.bwd x y r l y' s
    have e1 := b.wt_eq W r
    have e2 := b.wt_eq W r'
    exact ⟨x', s', by omega, r'⟩
/-- by lessening steps the first name of a row is used up; the other one follows, within its own first name where that is no less -/
theorem E.follow (W : Nms g w) : ∀ (n : Nat) (p q a b : List N), SG.wt w p = n → SG.wt w p ≤ SG.wt w q → E g w old (p ++ a) (q ++ b) → ∃ c, E g w old a (c ++ b) ∧ SG.wt w c + SG.wt w p = SG.wt w q ∧ Over g c := by
  intro n
  induction n with
  | zero =>
    intro p q a b e _ h
    have hp := W.nil_of (good_E.over _ _ h).1.left e
    subst hp
    exact ⟨q, h, by rw [wt_nil]; rfl, (good_E.over _ _ h).2.left⟩
  | succ n ih =>
    intro p q a b e le h
    have hp : p ≠ [] := by rintro rfl; rw [wt_nil] at e; omega
    have hq : q ≠ [] := by rintro rfl; rw [wt_nil] at le; omega
    obtain ⟨l, p', s, ep⟩ := W.less (good_E.over _ _ h).1.left hp
    obtain ⟨z, s1, e1, r1⟩ := good_E.fwd _ _ h l (p' ++ a) ((stp_append hp).mpr ⟨p', s, rfl⟩) (by rw [wt_append, wt_append]; omega)
    obtain ⟨q', s2, rfl⟩ := (stp_append hq).mp s1
    rw [wt_append, wt_append] at e1
    obtain ⟨c, k1, k2, k3⟩ := ih p' q' a b (by omega) (by omega) r1
    exact ⟨c, k1, by omega, k3⟩
end
end SG

/-! The refinement as the program does it, and what its result tells. -/
namespace SG
set_option autoImplicit false
set_option linter.all false
variable {N L : Type} [DecidableEq N] [DecidableEq L]

/-- steps sorted, each once: all that is asked of it -/
structure Canon (cn : List (L × List N) → List (L × List N)) : Prop where
  mem : ∀ xs p, p ∈ cn xs ↔ p ∈ xs
  ext : ∀ xs ys, (∀ p, p ∈ xs ↔ p ∈ ys) → cn xs = cn ys

def lk (b : List (N × List N)) (X : N) : Option (List N) := (b.find? fun p => decide (p.1 = X)).map (·.2)
def without (whole part : List N) : Option (List N) := if whole.take part.length = part then some (whole.drop part.length) else none
def rowSteps (g : Gm N L) (cn : List (L × List N) → List (L × List N)) : List N → List (L × List N)
  | [] => []
  | X :: r => cn ((g.rules X).map fun p => (p.1, p.2 ++ r))
def outsOf (cn : List (L × List N) → List (L × List N)) (B : N → Option (List N)) (steps : List (L × List N)) : List (L × List N) := cn (steps.map fun s => (s.1, out B s.2))
def lessRules (g : Gm N L) (w : N → Nat) (X : N) : List (L × List N) := (g.rules X).filter fun p => decide (wt w p.2 + 1 = w X)
def lessened (g : Gm N L) (cn : List (L × List N) → List (L × List N)) (w : N → Nat) (x : List N) : List (L × List N) := (rowSteps g cn x).filter fun s => decide (wt w s.2 + 1 = wt w x)
def candsOf (g : Gm N L) (w : N → Nat) (B : N → Option (List N)) (l : L) (whole : List N) (F : N) : List (List N) :=
  (lessRules g w F).filterMap fun p => if p.1 = l then (without whole (out B p.2)).map fun rest => F :: rest else none
def cands (g : Gm N L) (w : N → Nat) (B : N → Option (List N)) (firsts : List N) (X : N) : List (List N) :=
  match lessRules g w X with
  | [] => []
  | p :: _ => firsts.flatMap fun F => candsOf g w B p.1 (out B p.2) F
def passes (g : Gm N L) (cn : List (L × List N) → List (L × List N)) (w : N → Nat) (old B : N → Option (List N)) (X : N) (m : List N) : Bool :=
  decide (out old [X] = out old m) && decide (outsOf cn old (rowSteps g cn [X]) = outsOf cn old (rowSteps g cn m)) &&
    decide (outsOf cn B (lessened g cn w [X]) = outsOf cn B (lessened g cn w m))

structure RS (N : Type) where
  base : List (N × List N)
  firsts : List N
def RS.take (g : Gm N L) (cn : List (L × List N) → List (L × List N)) (w : N → Nat) (old : N → Option (List N)) (st : RS N) (X : N) : RS N :=
  match (cands g w (lk st.base) st.firsts X).find? (passes g cn w old (lk st.base) X) with
  | some m => { st with base := st.base ++ [(X, m)] }
  | none => { st with firsts := st.firsts ++ [X] }
def refined (g : Gm N L) (cn : List (L × List N) → List (L × List N)) (w : N → Nat) (order : List N) (old : List (N × List N)) : List (N × List N) :=
  (order.foldl (RS.take g cn w (lk old)) ⟨[], []⟩).base

theorem lk_nil (X : N) : lk ([] : List (N × List N)) X = none := rfl
theorem lk_snoc {b : List (N × List N)} {X : N} {m : List N} (h : lk b X = none) (Y : N) : lk (b ++ [(X, m)]) Y = if Y = X then some m else lk b Y := by
  unfold lk at *
  rw [List.find?_append]
  by_cases e : Y = X
  · subst e
    have h' : b.find? (fun p => decide (p.1 = Y)) = none := by simpa using h
    rw [h']
    simp
  · rw [if_neg e]
    have : ([(X, m)] : List (N × List N)).find? (fun p => decide (p.1 = Y)) = none := by
      simp [Ne.symm e]
    rw [this, Option.or_none]
theorem lk_mem {b : List (N × List N)} {X : N} {m : List N} (h : lk b X = some m) : (X, m) ∈ b := by
  unfold lk at h
  obtain ⟨p, hp, rfl⟩ := Option.map_eq_some_iff.mp h
  have h1 := List.mem_of_find?_eq_some hp
  have h2 := List.find?_some hp
  have e : p.1 = X := by simpa using h2
  subst e
  exact h1
theorem lk_none {b : List (N × List N)} {X : N} : lk b X = none ↔ X ∉ b.map (·.1) := by
  unfold lk
  rw [Option.map_eq_none_iff, List.find?_eq_none]
  constructor
  · intro h hm
    obtain ⟨p, hp, e⟩ := List.mem_map.mp hm
    exact h p hp (by simpa using e)
  · intro h p hp e
    exact h (List.mem_map.mpr ⟨p, hp, by simpa using e⟩)
theorem lk_of_mem : ∀ {b : List (N × List N)} {X : N} {m : List N}, (b.map (·.1)).Nodup → (X, m) ∈ b → lk b X = some m
  | p :: b, X, m, hn, h => by
    rw [List.map_cons, List.nodup_cons] at hn
    unfold lk
    rw [List.find?_cons]
    rcases List.mem_cons.mp h with e | h
    · rw [← e]; simp
    · have hne : p.1 ≠ X := fun e => hn.1 (e ▸ List.mem_map.mpr ⟨(X, m), h, rfl⟩)
      simp only [hne, decide_false]
      exact lk_of_mem hn.2 h
theorem without_some {whole part rest : List N} : without whole part = some rest ↔ whole = part ++ rest := by
  unfold without
  constructor
  · intro h
    split at h
    · rename_i e
      have e2 := Option.some.inj h
      rw [← e2]
      have := List.take_append_drop part.length whole
      rw [e] at this
      exact this.symm
    · cases h
  · rintro rfl
    simp

section
variable {g : Gm N L} {w : N → Nat} {cn : List (L × List N) → List (L × List N)} {old B : N → Option (List N)}
theorem mem_rowSteps (C : Canon cn) {x : List N} {l : L} {y : List N} : (l, y) ∈ rowSteps g cn x ↔ Stp g x l y := by
  cases x with
  | nil => exact ⟨fun h => (nomatch h), fun h => h.nil.elim⟩
  | cons X r =>
    show (l, y) ∈ cn _ ↔ _
    rw [C.mem, stp_cons, List.mem_map]
    constructor
    · rintro ⟨p, hp, e⟩
      have e1 := congrArg Prod.fst e
      have e2 := congrArg Prod.snd e
      refine ⟨p.2, ?_, e2.symm⟩
      have e1 : p.1 = l := e1
      rw [← e1]
      exact hp
    · rintro ⟨more, h, rfl⟩
      exact ⟨(l, more), h, rfl⟩
theorem mem_lessened (C : Canon cn) {x : List N} {l : L} {y : List N} : (l, y) ∈ lessened g cn w x ↔ Stp g x l y ∧ wt w y + 1 = wt w x := by
  unfold lessened
  rw [List.mem_filter, mem_rowSteps C, decide_eq_true_eq]
theorem mem_lessRules {X : N} {l : L} {y : List N} : (l, y) ∈ lessRules g w X ↔ (l, y) ∈ g.rules X ∧ wt w y + 1 = w X := by
  unfold lessRules
  rw [List.mem_filter, decide_eq_true_eq]
theorem mem_outsOf (C : Canon cn) {steps : List (L × List N)} {l : L} {z : List N} : (l, z) ∈ outsOf cn B steps ↔ ∃ y, (l, y) ∈ steps ∧ out B y = z := by
  unfold outsOf
  rw [C.mem, List.mem_map]
  constructor
  · rintro ⟨p, hp, e⟩
    have e1 : p.1 = l := congrArg Prod.fst e
    exact ⟨p.2, by rw [← e1]; exact hp, congrArg Prod.snd e⟩
  · rintro ⟨y, hy, rfl⟩
    exact ⟨(l, y), hy, rfl⟩
theorem outsOf_eq (C : Canon cn) {s t : List (L × List N)} : outsOf cn B s = outsOf cn B t ↔ (∀ l x', (l, x') ∈ s → ∃ y', (l, y') ∈ t ∧ out B x' = out B y') ∧ (∀ l y', (l, y') ∈ t → ∃ x', (l, x') ∈ s ∧ out B x' = out B y') := by
  constructor
  · intro e
    refine ⟨fun l x' h => ?_, fun l y' h => ?_⟩
    · have : (l, out B x') ∈ outsOf cn B t := by rw [← e]; exact (mem_outsOf C).mpr ⟨x', h, rfl⟩
      obtain ⟨y', h1, h2⟩ := (mem_outsOf C).mp this
      exact ⟨y', h1, h2.symm⟩
    · have : (l, out B y') ∈ outsOf cn B s := by rw [e]; exact (mem_outsOf C).mpr ⟨y', h, rfl⟩
      obtain ⟨x', h1, h2⟩ := (mem_outsOf C).mp this
      exact ⟨x', h1, h2⟩
  · rintro ⟨h1, h2⟩
    unfold outsOf
    apply C.ext
    rintro ⟨l, z⟩
    constructor
    · intro h
      obtain ⟨p, hp, e⟩ := List.mem_map.mp h
      obtain ⟨y', k1, k2⟩ := h1 p.1 p.2 hp
      refine List.mem_map.mpr ⟨(p.1, y'), k1, ?_⟩
      rw [← e, ← k2]
    · intro h
      obtain ⟨p, hp, e⟩ := List.mem_map.mp h
      obtain ⟨x', k1, k2⟩ := h2 p.1 p.2 hp
      refine List.mem_map.mpr ⟨(p.1, x'), k1, ?_⟩
      rw [← e, k2]
theorem outsOf_alk (C : Canon cn) {x y : List N} : outsOf cn B (rowSteps g cn x) = outsOf cn B (rowSteps g cn y) ↔ Alk g B x y := by
  rw [outsOf_eq C]
  unfold Alk
  simp only [mem_rowSteps C]
end

/-! ### the invariant of one refinement: P the names taken so far -/
structure RInv (g : Gm N L) (w : N → Nat) (old : N → Option (List N)) (P : List N) (st : RS N) : Prop where
  inP : ∀ X m, lk st.base X = some m → X ∈ P
  fst : ∀ X ∈ P, lk st.base X = none → X ∈ st.firsts
  fnone : ∀ X ∈ st.firsts, lk st.base X = none
  sub : st.firsts.Sublist P
  keys : (st.base.map (·.1)).Nodup
  mkd : ∀ X m, lk st.base X = some m → (∀ Y ∈ m, Y ∈ st.firsts) ∧ E g w old [X] m
  ahead : ∀ X m, lk st.base X = some m → ∃ A C, P = A ++ X :: C ∧ ∀ Y ∈ m, Y ∈ A
  prime : ∀ f1 F f2, st.firsts = f1 ++ F :: f2 → ∀ a, (∀ Y ∈ a, Y ∈ f1) → ¬ E g w old [F] a

section
variable {g : Gm N L} {w : N → Nat} {cn : List (L × List N) → List (L × List N)} {old : N → Option (List N)} {P : List N} {st : RS N}
theorem RInv.nil : RInv g w old [] ⟨[], []⟩ :=
  ⟨fun X m h => (nomatch (show (none : Option (List N)) = some m from h)), fun X h => (nomatch h), fun X h => (nomatch h), List.Sublist.refl _, List.nodup_nil, fun X m h => (nomatch (show (none : Option (List N)) = some m from h)), fun X m h => (nomatch (show (none : Option (List N)) = some m from h)), fun f1 F f2 h => by simp at h⟩
theorem RInv.fstP (I : RInv g w old P st) {X : N} (h : X ∈ st.firsts) : X ∈ P := I.sub.subset h
/-- a row of names that were taken is E to its out -/
theorem RInv.out_E (W : Nms g w) (hP : ∀ X ∈ P, X ∈ g.names) (I : RInv g w old P st) : ∀ (x : List N), (∀ X ∈ x, X ∈ P) → E g w old x (out (lk st.base) x)
  | [], _ => E.refl W (Over.nil g)
  | X :: r, h => by
    rw [out_cons]
    have h1 := I.out_E W hP r fun Y hY => h Y (List.mem_cons_of_mem _ hY)
    have h2 : E g w old [X] ((lk st.base X).getD [X]) := by
      cases e : lk st.base X with
      | none => exact E.refl W (Over.one (hP X (h X List.mem_cons_self)))
      | some m => exact (I.mkd X m e).2
    exact h2.append W h1
theorem RInv.out_firsts (I : RInv g w old P st) : ∀ (x : List N), (∀ X ∈ x, X ∈ P) → ∀ Y ∈ out (lk st.base) x, Y ∈ st.firsts
  | [], _, _, h => nomatch h
  | X :: r, h, Y, hY => by
    rw [out_cons] at hY
    rcases List.mem_append.mp hY with hY | hY
    · cases e : lk st.base X with
      | none =>
        rw [e] at hY
        have : Y = X := by simpa using hY
        rw [this]
        exact I.fst X (h X List.mem_cons_self) e
      | some m =>
        rw [e] at hY
        exact (I.mkd X m e).1 Y hY
    · exact I.out_firsts r (fun Z hZ => h Z (List.mem_cons_of_mem _ hZ)) Y hY
theorem RInv.out_self (I : RInv g w old P st) {x : List N} (h : ∀ X ∈ x, X ∈ st.firsts) : out (lk st.base) x = x := SG.out_self fun X hX => I.fnone X (h X hX)
/-- a first name of lesser norm stands ahead -/
theorem RInv.fst_ahead (hs : P.Pairwise fun a b => w a ≤ w b) (I : RInv g w old P st) {f1 f2 : List N} {F Y : N} (e : st.firsts = f1 ++ F :: f2) (hY : Y ∈ st.firsts) (hw : w Y < w F) : Y ∈ f1 := by
  have hp : st.firsts.Pairwise fun a b => w a ≤ w b := hs.sublist I.sub
  rw [e] at hp hY
  rcases List.mem_append.mp hY with h | h
  · exact h
  · rcases List.mem_cons.mp h with rfl | h
    · omega
    · have := (List.pairwise_cons.mp (List.pairwise_append.mp hp).2.1).1 Y h
      omega
/-- two first names, one E to the other put with a row behind it: no such -/
theorem RInv.no_comp (W : Nms g w) (hP : ∀ X ∈ P, X ∈ g.names) (hs : P.Pairwise fun a b => w a ≤ w b) (hc : ∀ X ∈ g.names, ∀ Q ∈ P, w X < w Q → X ∈ P) (I : RInv g w old P st) {F Q : N} {c : List N}
    (hF : F ∈ st.firsts) (hQ : Q ∈ st.firsts) (h : E g w old ([F] ++ c) [Q]) (ho : Over g c) : c = [] ∧ F = Q := by
  have ew := good_E.wt _ _ h
  rw [wt_append, wt_cons, wt_cons, wt_nil] at ew
  by_cases e : c = []
  · subst e
    refine ⟨rfl, ?_⟩
    have h : E g w old [F] [Q] := h
    by_cases q : F = Q
    · exact q
    · exfalso
      obtain ⟨f1, f2, e1⟩ := List.append_of_mem hQ
      have hF' := hF
      rw [e1] at hF'
      rcases List.mem_append.mp hF' with m | m
      · exact I.prime f1 Q f2 e1 [F] (fun Y hY => by rw [List.mem_singleton.mp hY]; exact m) h.symm
      · rcases List.mem_cons.mp m with m | m
        · exact q m
        · obtain ⟨u1, u2, e2⟩ := List.append_of_mem m
          refine I.prime (f1 ++ Q :: u1) F u2 (by rw [e1, e2]; simp) [Q] (fun Y hY => ?_) h
          rw [List.mem_singleton.mp hY]
          exact List.mem_append_right _ List.mem_cons_self
  · exfalso
    have hcp : wt w c ≠ 0 := fun q => e (W.nil_of ho q)
    obtain ⟨f1, f2, e1⟩ := List.append_of_mem hQ
    have hcP : ∀ X ∈ c, X ∈ P := fun X hX => by
      have h1 := wt_le_of_mem w hX
      have h2 := W.pos (hP F (I.fstP hF))
      exact hc X (ho X hX) Q (I.fstP hQ) (by omega)
    have hoE := I.out_E W hP c hcP
    have hoF := I.out_firsts c hcP
    have ew2 := good_E.wt _ _ hoE
    have hFE : E g w old [F] [F] := E.refl W (Over.one (hP F (I.fstP hF)))
    refine I.prime f1 Q f2 e1 ([F] ++ out (lk st.base) c) (fun Y hY => ?_) (h.symm.trans (hFE.append W hoE))
    rcases List.mem_append.mp hY with m | m
    · rw [List.mem_singleton.mp m]
      exact I.fst_ahead hs e1 hF (by omega)
    · refine I.fst_ahead hs e1 (hoF Y m) ?_
      have h1 := wt_le_of_mem w m
      have h2 := W.pos (hP F (I.fstP hF))
      omega
/-- one way only -/
theorem RInv.unique (W : Nms g w) (hP : ∀ X ∈ P, X ∈ g.names) (hs : P.Pairwise fun a b => w a ≤ w b) (hc : ∀ X ∈ g.names, ∀ Q ∈ P, w X < w Q → X ∈ P) (I : RInv g w old P st) :
    ∀ (p q : List N), (∀ X ∈ p, X ∈ st.firsts) → (∀ X ∈ q, X ∈ st.firsts) → E g w old p q → p = q
  | [], q, _, _, h => (W.nil_of (good_E.over _ _ h).2 (good_E.wt _ _ h).symm).symm
  | p, [], _, _, h => W.nil_of (good_E.over _ _ h).1 (good_E.wt _ _ h)
  | F :: a, Q :: b, hp, hq, h => by
    have hF := hp F List.mem_cons_self
    have hQ := hq Q List.mem_cons_self
    have hFE : E g w old [F] [F] := E.refl W (Over.one (hP F (I.fstP hF)))
    have hQE : E g w old [Q] [Q] := E.refl W (Over.one (hP Q (I.fstP hQ)))
    have h' : E g w old ([F] ++ a) ([Q] ++ b) := h
    have both : E g w old a b ∧ F = Q := by
      by_cases le : w F ≤ w Q
      · obtain ⟨c, k1, k2, k3⟩ := E.follow W _ [F] [Q] a b rfl (by simpa [wt] using le) h'
        have z : E g w old (([F] ++ c) ++ b) ([Q] ++ b) := by
          rw [List.append_assoc]
          exact (hFE.append W k1.symm).trans h'
        obtain ⟨rfl, e⟩ := I.no_comp W hP hs hc hF hQ (z.cancel W) k3
        exact ⟨k1, e⟩
      · obtain ⟨c, k1, k2, k3⟩ := E.follow W _ [Q] [F] b a rfl (by simp [wt]; omega) h'.symm
        have z : E g w old (([Q] ++ c) ++ a) ([F] ++ a) := by
          rw [List.append_assoc]
          exact (hQE.append W k1.symm).trans h'.symm
        obtain ⟨rfl, e⟩ := I.no_comp W hP hs hc hQ hF (z.cancel W) k3
        exact ⟨k1.symm, e.symm⟩
    obtain ⟨r, rfl⟩ := both
    rw [I.unique W hP hs hc a b (fun X hX => hp X (List.mem_cons_of_mem _ hX)) (fun X hX => hq X (List.mem_cons_of_mem _ hX)) r]
/-- E is told by outs -/
theorem RInv.E_iff (W : Nms g w) (hP : ∀ X ∈ P, X ∈ g.names) (hs : P.Pairwise fun a b => w a ≤ w b) (hc : ∀ X ∈ g.names, ∀ Q ∈ P, w X < w Q → X ∈ P) (I : RInv g w old P st) {x y : List N}
    (hx : ∀ X ∈ x, X ∈ P) (hy : ∀ X ∈ y, X ∈ P) : E g w old x y ↔ out (lk st.base) x = out (lk st.base) y := by
  have ex := I.out_E W hP x hx
  have ey := I.out_E W hP y hy
  constructor
  · intro h
    exact I.unique W hP hs hc _ _ (I.out_firsts x hx) (I.out_firsts y hy) (ex.symm.trans (h.trans ey))
  · intro h
    rw [h] at ex
    exact ex.trans ey.symm

/-- one name more -/
theorem RInv.step (W : Nms g w) (C : Canon cn) (hP : ∀ X ∈ P, X ∈ g.names) (hs : P.Pairwise fun a b => w a ≤ w b) (hc : ∀ X ∈ g.names, ∀ Q ∈ P, w X < w Q → X ∈ P) {X : N} (hX : X ∈ g.names) (hXP : X ∉ P) (hlow : ∀ Y ∈ g.names, w Y < w X → Y ∈ P)
    (I : RInv g w old P st) : RInv g w old (P ++ [X]) (st.take g cn w old X) := by
  have low : ∀ x : List N, Over g x → wt w x + 1 = w X → ∀ Y ∈ x, Y ∈ P := fun x ho e Y hY => by
    have := wt_le_of_mem w hY
    exact hlow Y (ho Y hY) (by omega)
  have wX : wt w [X] = w X := by simp [wt]
  have hXn : lk st.base X = none := by
    cases e : lk st.base X with
    | none => rfl
    | some m => exact absurd (I.inP X m e) hXP
  have oX : Over g [X] := Over.one hX
  have fP : ∀ Y ∈ st.firsts, Y ∈ g.names := fun Y h => hP Y (I.fstP h)
  unfold RS.take
  cases ef : (cands g w (lk st.base) st.firsts X).find? (passes g cn w old (lk st.base) X) with
  | some m =>
    have h1 := List.mem_of_find?_eq_some ef
    have h2 := List.find?_some ef
    have hm : (∀ Y ∈ m, Y ∈ st.firsts) ∧ wt w m = w X := by
      unfold cands at h1
      cases el : lessRules g w X with
      | nil => rw [el] at h1; exact nomatch h1
      | cons p ps =>
        rw [el] at h1
        obtain ⟨F, hF, h1⟩ := List.mem_flatMap.mp h1
        unfold candsOf at h1
        obtain ⟨q, hq, h1⟩ := List.mem_filterMap.mp h1
        split at h1
        · rename_i e
          obtain ⟨rest, hr, rfl⟩ := Option.map_eq_some_iff.mp h1
          have hw := without_some.mp hr
          have hp : (p.1, p.2) ∈ lessRules g w X := by rw [el]; exact List.mem_cons_self
          have hp := mem_lessRules.mp hp
          have hq := mem_lessRules.mp (show (q.1, q.2) ∈ lessRules g w F from hq)
          have op : Over g p.2 := W.closed X hX _ hp.1
          have oq : Over g q.2 := W.closed F (fP F hF) _ hq.1
          have lp := low p.2 op hp.2
          have lq : ∀ Y ∈ q.2, Y ∈ P := fun Y hY => by
            have := wt_le_of_mem w hY
            exact hc Y (oq Y hY) F (I.fstP hF) (by omega)
          have w1 := good_E.wt _ _ (I.out_E W hP p.2 lp)
          have w2 := good_E.wt _ _ (I.out_E W hP q.2 lq)
          rw [hw, wt_append] at w1
          refine ⟨fun Y hY => ?_, ?_⟩
          · rcases List.mem_cons.mp hY with rfl | hY
            · exact hF
            · exact I.out_firsts p.2 lp Y (by rw [hw]; exact List.mem_append_right _ hY)
          · rw [wt_cons]
            omega
        · cases h1
    obtain ⟨hmf, hmw⟩ := hm
    have om : Over g m := fun Y hY => fP Y (hmf Y hY)
    have hE : E g w old [X] m := by
      unfold passes at h2
      rw [Bool.and_eq_true, Bool.and_eq_true, decide_eq_true_eq, decide_eq_true_eq, decide_eq_true_eq, outsOf_alk C, outsOf_eq C] at h2
      obtain ⟨⟨p1, p2⟩, p3, p4⟩ := h2
      refine ⟨fun x y => E g w old x y ∨ (x = [X] ∧ y = m), ⟨?_, ?_, ?_, ?_, ?_, ?_⟩, .inr ⟨rfl, rfl⟩⟩
      · rintro x y (h | ⟨rfl, rfl⟩)
        · exact good_E.over x y h
        · exact ⟨oX, om⟩
      · rintro x y (h | ⟨rfl, rfl⟩)
        · exact good_E.wt x y h
        · rw [wX, hmw]
      · rintro x y (h | ⟨rfl, rfl⟩)
        · exact good_E.out x y h
        · exact p1
      · rintro x y (h | ⟨rfl, rfl⟩)
        · exact good_E.alk x y h
        · exact p2
      · rintro x y (h | ⟨rfl, rfl⟩) l x' s e
        · obtain ⟨y', a, b, c⟩ := good_E.fwd x y h l x' s e
          exact ⟨y', a, b, .inl c⟩
        · obtain ⟨y', a, b⟩ := p3 l x' ((mem_lessened C).mpr ⟨s, e⟩)
          obtain ⟨a1, a2⟩ := (mem_lessened C).mp a
          refine ⟨y', a1, a2, .inl ?_⟩
          exact (I.E_iff W hP hs hc (low x' (W.over_stp oX s) (by rw [← wX]; exact e)) (low y' (W.over_stp om a1) (by rw [← hmw]; exact a2))).mpr b
      · rintro x y (h | ⟨rfl, rfl⟩) l y' s e
        · obtain ⟨y', a, b, c⟩ := good_E.bwd x y h l y' s e
          exact ⟨y', a, b, .inl c⟩
        · obtain ⟨x', a, b⟩ := p4 l y' ((mem_lessened C).mpr ⟨s, e⟩)
          obtain ⟨a1, a2⟩ := (mem_lessened C).mp a
          refine ⟨x', a1, a2, .inl ?_⟩
          exact (I.E_iff W hP hs hc (low x' (W.over_stp oX a1) (by rw [← wX]; exact a2)) (low y' (W.over_stp om s) (by rw [← hmw]; exact e))).mpr b
    have hlk := fun Y => lk_snoc (m := m) hXn Y
    refine ⟨fun Y m' h => ?_, fun Y hY h => ?_, fun Y hY => ?_, I.sub.trans (List.sublist_append_left _ _), ?_, fun Y m' h => ?_, fun Y m' h => ?_, I.prime⟩
    · rw [hlk] at h
      split at h
      · rename_i e
        rw [e]
        simp
      · exact List.mem_append_left _ (I.inP Y m' h)
    · rw [hlk] at h
      split at h
      · cases h
      · rename_i e
        rcases List.mem_append.mp hY with hY | hY
        · exact I.fst Y hY h
        · exact absurd (List.mem_singleton.mp hY) e
    · rw [hlk, if_neg (fun (e : Y = X) => hXP (e ▸ I.fstP hY))]
      exact I.fnone Y hY
    · show ((st.base ++ [(X, m)]).map (·.1)).Nodup
      rw [List.map_append, List.nodup_append]
      refine ⟨I.keys, by simp, fun a ha b hb => ?_⟩
      have : b = X := by simpa using hb
      rw [this]
      rintro rfl
      exact (lk_none.mp hXn) ha
    · rw [hlk] at h
      split at h
      · rename_i e
        obtain rfl := Option.some.inj h
        rw [e]
        exact ⟨hmf, hE⟩
      · exact I.mkd Y m' h
    · rw [hlk] at h
      split at h
      · rename_i e
        obtain rfl := Option.some.inj h
        rw [e]
        exact ⟨P, [], rfl, fun Z hZ => I.fstP (hmf Z hZ)⟩
      · obtain ⟨A, D, e, hA⟩ := I.ahead Y m' h
        exact ⟨A, D ++ [X], by rw [e]; simp, hA⟩
  | none =>
    have hno : ∀ a, (∀ Y ∈ a, Y ∈ st.firsts) → ¬ E g w old [X] a := by
      intro a ha hE
      have nf := List.find?_eq_none.mp ef
      have ew := good_E.wt _ _ hE
      rw [wX] at ew
      have oa : Over g a := (good_E.over _ _ hE).2
      cases a with
      | nil =>
        rw [wt_nil] at ew
        have := W.pos hX
        omega
      | cons F rest =>
        have hF := ha F List.mem_cons_self
        have hrest : ∀ Y ∈ rest, Y ∈ st.firsts := fun Y hY => ha Y (List.mem_cons_of_mem _ hY)
        have lowE : ∀ x y : List N, Over g x → Over g y → wt w x + 1 = w X → wt w y + 1 = w X → (E g w old x y ↔ out (lk st.base) x = out (lk st.base) y) := fun x y h1 h2 h3 h4 => I.E_iff W hP hs hc (low x h1 h3) (low y h2 h4)
        refine nf (F :: rest) ?_ ?_
        · unfold cands
          cases el : lessRules g w X with
          | nil =>
            obtain ⟨p, hp, e⟩ := W.n1 X hX
            have : (p.1, p.2) ∈ lessRules g w X := mem_lessRules.mpr ⟨hp, by omega⟩
            rw [el] at this
            exact nomatch this
          | cons p ps =>
            have hp : (p.1, p.2) ∈ lessRules g w X := by rw [el]; exact List.mem_cons_self
            have hp := mem_lessRules.mp hp
            have op : Over g p.2 := W.closed X hX _ hp.1
            have s : Stp g [X] p.1 p.2 := stp_cons.mpr ⟨p.2, hp.1, by simp⟩
            obtain ⟨z, s1, e1, r1⟩ := good_E.fwd _ _ hE p.1 p.2 s (by rw [wX]; exact hp.2)
            obtain ⟨more, hm, rfl⟩ := stp_cons.mp s1
            rw [wt_append, wt_cons] at e1
            have ez := (lowE p.2 (more ++ rest) op (good_E.over _ _ r1).2 hp.2 (by rw [wt_append]; rw [wt_cons] at ew; omega)).mp r1
            rw [out_append, I.out_self hrest] at ez
            refine List.mem_flatMap.mpr ⟨F, hF, ?_⟩
            unfold candsOf
            refine List.mem_filterMap.mpr ⟨(p.1, more), mem_lessRules.mpr ⟨hm, by omega⟩, ?_⟩
            rw [if_pos rfl, without_some.mpr ez]
            rfl
        · unfold passes
          rw [Bool.and_eq_true, Bool.and_eq_true, decide_eq_true_eq, decide_eq_true_eq, decide_eq_true_eq, outsOf_alk C, outsOf_eq C]
          refine ⟨⟨good_E.out _ _ hE, good_E.alk _ _ hE⟩, fun l x' h => ?_, fun l y' h => ?_⟩
          · obtain ⟨s, e⟩ := (mem_lessened C).mp h
            obtain ⟨y', s1, e1, r1⟩ := good_E.fwd _ _ hE l x' s e
            refine ⟨y', (mem_lessened C).mpr ⟨s1, e1⟩, (lowE x' y' (good_E.over _ _ r1).1 (good_E.over _ _ r1).2 (by rw [← wX]; exact e) (by rw [ew]; exact e1)).mp r1⟩
          · obtain ⟨s, e⟩ := (mem_lessened C).mp h
            obtain ⟨x', s1, e1, r1⟩ := good_E.bwd _ _ hE l y' s e
            refine ⟨x', (mem_lessened C).mpr ⟨s1, e1⟩, (lowE x' y' (good_E.over _ _ r1).1 (good_E.over _ _ r1).2 (by rw [← wX]; exact e1) (by rw [ew]; exact e)).mp r1⟩
    refine ⟨fun Y m h => List.mem_append_left _ (I.inP Y m h), fun Y hY h => ?_, fun Y hY => ?_, I.sub.append (List.Sublist.refl _), I.keys, fun Y m h => ?_, fun Y m h => ?_, fun f1 F f2 e a ha => ?_⟩
    · rcases List.mem_append.mp hY with hY | hY
      · exact List.mem_append_left _ (I.fst Y hY h)
      · exact List.mem_append_right _ hY
    · rcases List.mem_append.mp hY with hY | hY
      · exact I.fnone Y hY
      · rw [List.mem_singleton.mp hY]; exact hXn
    · exact ⟨fun Z hZ => List.mem_append_left _ ((I.mkd Y m h).1 Z hZ), (I.mkd Y m h).2⟩
    · obtain ⟨A, D, e, hA⟩ := I.ahead Y m h
      exact ⟨A, D ++ [X], by rw [e]; simp, hA⟩
    · have e : st.firsts ++ [X] = f1 ++ F :: f2 := e
      rcases List.append_eq_append_iff.mp e with ⟨c, e1, e2⟩ | ⟨c, e1, e2⟩
      · cases c with
        | nil =>
          have e2 : [X] = F :: f2 := e2
          obtain ⟨rfl, _⟩ := List.cons.inj e2
          rw [List.append_nil] at e1
          exact hno a (fun Y hY => by rw [← e1]; exact ha Y hY)
        | cons d ds =>
          have := congrArg List.length e2
          simp at this
      · cases c with
        | nil =>
          have e2 : F :: f2 = [X] := e2
          obtain ⟨rfl, _⟩ := List.cons.inj e2
          rw [List.append_nil] at e1
          exact hno a (fun Y hY => by rw [e1]; exact ha Y hY)
        | cons d ds =>
          obtain ⟨rfl, e3⟩ := List.cons.inj e2
          exact I.prime f1 F ds e1 a ha
end
end SG

/-! The bases one after another; the last one. -/
namespace SG
set_option autoImplicit false
set_option linter.all false
variable {N L : Type} [DecidableEq N] [DecidableEq L]

section
variable {g : Gm N L} {w : N → Nat} {cn : List (L × List N) → List (L × List N)}
/-- the order of the names: by rising norms -/
structure Ord (g : Gm N L) (w : N → Nat) (order : List N) : Prop where
  mem : ∀ X, X ∈ order ↔ X ∈ g.names
  nd : order.Nodup
  up : order.Pairwise fun a b => w a ≤ w b

theorem refined_inv (W : Nms g w) (C : Canon cn) {order : List N} (O : Ord g w order) (old : N → Option (List N)) :
    ∀ (rest P : List N) (st : RS N), order = P ++ rest → RInv g w old P st → RInv g w old order (rest.foldl (RS.take g cn w old) st)
  | [], P, st, e, I => by
    rw [List.append_nil] at e
    rw [e]
    exact I
  | X :: rest, P, st, e, I => by
    rw [List.foldl_cons]
    refine refined_inv W C O old rest (P ++ [X]) _ (by rw [e]; simp) ?_
    have hup := O.up
    have hnd := O.nd
    rw [e] at hup hnd
    obtain ⟨u1, u2, u3⟩ := List.pairwise_append.mp hup
    obtain ⟨v1, v2, v3⟩ := List.nodup_append.mp hnd
    have inO : ∀ Y, Y ∈ P ++ X :: rest ↔ Y ∈ g.names := fun Y => by rw [← e]; exact O.mem Y
    have low : ∀ Q ∈ P, ∀ Y ∈ g.names, w Y < w Q → Y ∈ P := fun Q hQ Y hY h => by
      rcases List.mem_append.mp ((inO Y).mpr hY) with k | k
      · exact k
      · have := u3 Q hQ Y k
        omega
    refine RInv.step W C (fun Y hY => (inO Y).mp (List.mem_append_left _ hY)) u1 (fun Y hY Q hQ h => low Q hQ Y hY h) ((inO X).mp (List.mem_append_right _ List.mem_cons_self)) (fun h => v3 X h X List.mem_cons_self rfl) (fun Y hY h => ?_) I
    rcases List.mem_append.mp ((inO Y).mpr hY) with k | k
    · exact k
    · rcases List.mem_cons.mp k with k | k
      · subst k; omega
      · have := (List.pairwise_cons.mp u2).1 Y k
        omega

/-- what each base is, whatever it was made of -/
structure BOk (g : Gm N L) (w : N → Nat) (order : List N) (b : List (N × List N)) : Prop where
  keys : (b.map (·.1)).Nodup
  mkd : Mkd g (lk b)
  ahead : ∀ X m, lk b X = some m → ∃ A C, order = A ++ X :: C ∧ ∀ Y ∈ m, Y ∈ A

structure Refd (g : Gm N L) (w : N → Nat) (order : List N) (old : N → Option (List N)) (b : List (N × List N)) : Prop where
  ok : BOk g w order b
  iff : ∀ x y, Over g x → Over g y → (E g w old x y ↔ out (lk b) x = out (lk b) y)
  one : ∀ X m, lk b X = some m → E g w old [X] m
theorem refined_ok (W : Nms g w) (C : Canon cn) {order : List N} (O : Ord g w order) (old : List (N × List N)) : Refd g w order (lk old) (refined g cn w order old) := by
  have I := refined_inv W C O (lk old) order [] ⟨[], []⟩ rfl RInv.nil
  have oO : ∀ X ∈ order, X ∈ g.names := fun X h => (O.mem X).mp h
  have cov : ∀ X ∈ g.names, ∀ Q ∈ order, w X < w Q → X ∈ order := fun X h _ _ _ => (O.mem X).mpr h
  refine ⟨⟨I.keys, ⟨fun X m h => oO X (I.inP X m h), fun X m h e => ?_, fun X m h Y hY => I.fnone Y ((I.mkd X m h).1 Y hY), fun X m h Y hY => oO Y (I.fstP ((I.mkd X m h).1 Y hY))⟩, I.ahead⟩, fun x y hx hy => ?_, fun X m h => (I.mkd X m h).2⟩
  · have h2 := good_E.wt _ _ (I.mkd X m h).2
    rw [e, wt_cons, wt_nil] at h2
    have := W.pos (oO X (I.inP X m h))
    omega
  · exact I.E_iff W oO O.up cov (fun X h => (O.mem X).mpr (hx X h)) (fun X h => (O.mem X).mpr (hy X h))

/-- the base by which all of one norm have one out -/
def base0 (w : N → Nat) (order : List N) : List (N × List N) :=
  match order with
  | [] => []
  | h :: t => t.map fun X => (X, List.replicate (w X) h)
theorem lk_base0 {h : N} {t : List N} (nd : (h :: t).Nodup) (X : N) : lk (base0 w (h :: t)) X = if X ∈ t then some (List.replicate (w X) h) else none := by
  have ek : ((base0 w (h :: t)).map (·.1)) = t := by
    show ((t.map fun X => (X, List.replicate (w X) h)).map (·.1)) = t
    rw [List.map_map]
    exact List.map_id' t
  by_cases hX : X ∈ t
  · rw [if_pos hX]
    refine lk_of_mem ?_ (List.mem_map.mpr ⟨X, hX, rfl⟩)
    rw [ek]
    exact (List.nodup_cons.mp nd).2
  · rw [if_neg hX]
    apply lk_none.mpr
    rw [ek]
    exact hX
theorem low_one (W : Nms g w) {h : N} {t : List N} (O : Ord g w (h :: t)) : w h = 1 := by
  have hn := (O.mem h).mp List.mem_cons_self
  obtain ⟨p, hp, e⟩ := W.n1 h hn
  have op := W.closed h hn p hp
  cases ep : p.2 with
  | nil => rw [ep, wt_nil] at e; omega
  | cons Y r =>
    exfalso
    have hY : Y ∈ p.2 := by rw [ep]; exact List.mem_cons_self
    have h1 := wt_le_of_mem w hY
    have h2 := (O.mem Y).mpr (op Y hY)
    rcases List.mem_cons.mp h2 with k | k
    · rw [k] at h1; omega
    · have := (List.pairwise_cons.mp O.up).1 Y k
      omega
theorem base0_ok (W : Nms g w) {order : List N} (O : Ord g w order) : BOk g w order (base0 w order) := by
  cases order with
  | nil => exact ⟨List.nodup_nil, ⟨fun X m h => (nomatch (show (none : Option (List N)) = some m from h)), fun X m h => (nomatch (show (none : Option (List N)) = some m from h)), fun X m h => (nomatch (show (none : Option (List N)) = some m from h)), fun X m h => (nomatch (show (none : Option (List N)) = some m from h))⟩, fun X m h => (nomatch (show (none : Option (List N)) = some m from h))⟩
  | cons h t =>
    have ek : ((base0 w (h :: t)).map (·.1)) = t := by
      show ((t.map fun X => (X, List.replicate (w X) h)).map (·.1)) = t
      rw [List.map_map]
      exact List.map_id' t
    have nd := O.nd
    have get : ∀ X m, lk (base0 w (h :: t)) X = some m → X ∈ t ∧ m = List.replicate (w X) h := fun X m e => by
      rw [lk_base0 nd] at e
      split at e
      · rename_i hX
        exact ⟨hX, (Option.some.inj e).symm⟩
      · cases e
    refine ⟨by rw [ek]; exact (List.nodup_cons.mp nd).2, ⟨fun X m e => ?_, fun X m e q => ?_, fun X m e Y hY => ?_, fun X m e Y hY => ?_⟩, fun X m e => ?_⟩
    · exact (O.mem X).mp (List.mem_cons_of_mem _ (get X m e).1)
    · obtain ⟨hX, rfl⟩ := get X m e
      have := W.pos ((O.mem X).mp (List.mem_cons_of_mem _ hX))
      have e3 := congrArg List.length q
      rw [List.length_replicate] at e3
      simp at e3
      omega
    · obtain ⟨hX, rfl⟩ := get X m e
      rw [List.eq_of_mem_replicate hY, lk_base0 nd, if_neg (List.nodup_cons.mp nd).1]
    · obtain ⟨hX, rfl⟩ := get X m e
      rw [List.eq_of_mem_replicate hY]
      exact (O.mem h).mp List.mem_cons_self
    · obtain ⟨hX, rfl⟩ := get X m e
      obtain ⟨s1, s2, e2⟩ := List.append_of_mem hX
      refine ⟨h :: s1, s2, by rw [e2]; rfl, fun Y hY => ?_⟩
      rw [List.eq_of_mem_replicate hY]
      exact List.mem_cons_self
theorem out_base0 (W : Nms g w) {h : N} {t : List N} (O : Ord g w (h :: t)) : ∀ {x : List N}, Over g x → out (lk (base0 w (h :: t))) x = List.replicate (wt w x) h
  | [], _ => rfl
  | X :: r, ho => by
    rw [out_cons, out_base0 W O ho.tail, wt_cons, lk_base0 O.nd, ← List.replicate_append_replicate]
    congr 1
    by_cases hX : X ∈ t
    · rw [if_pos hX]
      rfl
    · rw [if_neg hX]
      have : X = h := by
        rcases List.mem_cons.mp ((O.mem X).mpr (ho X List.mem_cons_self)) with k | k
        · exact k
        · exact absurd k hX
      rw [this, low_one W O]
      rfl

/-- the i-th base -/
def bases (g : Gm N L) (cn : List (L × List N) → List (L × List N)) (w : N → Nat) (order : List N) : Nat → List (N × List N)
  | 0 => base0 w order
  | i + 1 => refined g cn w order (bases g cn w order i)
/-- two dicts are equal -/
def deq (a b : List (N × List N)) : Bool := (a.length == b.length) && a.all fun p => decide (lk b p.1 = some p.2)
def firstStop (f : Nat → List (N × List N)) : Nat → Nat → Nat
  | 0, i => i
  | n + 1, i => if deq (f (i + 1)) (f i) = true then i else firstStop f n (i + 1)
/-- where the loop stops, the base told -/
def stopAt (g : Gm N L) (cn : List (L × List N) → List (L × List N)) (w : N → Nat) (order : List N) : Nat := firstStop (bases g cn w order) order.length 0
def lastBase (g : Gm N L) (cn : List (L × List N) → List (L × List N)) (w : N → Nat) (order : List N) : List (N × List N) := bases g cn w order (stopAt g cn w order)

theorem deq_lk {a b : List (N × List N)} (h : deq a b = true) (ha : (a.map (·.1)).Nodup) (hb : (b.map (·.1)).Nodup) : ∀ X, lk a X = lk b X := by
  unfold deq at h
  rw [Bool.and_eq_true, List.all_eq_true, beq_iff_eq] at h
  obtain ⟨hl, hall⟩ := h
  have sub : ∀ X m, lk a X = some m → lk b X = some m := fun X m e => by
    have := hall (X, m) (lk_mem e)
    simpa using this
  intro X
  cases e : lk a X with
  | some m => exact (sub X m e).symm
  | none =>
    cases e2 : lk b X with
    | none => rfl
    | some m =>
      exfalso
      have s1 : (X :: a.map (·.1)).Nodup := List.nodup_cons.mpr ⟨lk_none.mp e, ha⟩
      have s2 : (X :: a.map (·.1)) ⊆ b.map (·.1) := by
        intro Y hY
        rcases List.mem_cons.mp hY with rfl | hY
        · exact List.mem_map.mpr ⟨_, lk_mem e2, rfl⟩
        · cases e4 : lk b Y with
          | none =>
            exfalso
            cases e5 : lk a Y with
            | none => exact (lk_none.mp e5) hY
            | some m' => rw [sub Y m' e5] at e4; cases e4
          | some m' => exact List.mem_map.mpr ⟨_, lk_mem e4, rfl⟩
      have := s1.length_le_of_subset s2
      simp at this
      omega
theorem lk_deq {a b : List (N × List N)} (h : ∀ X, lk a X = lk b X) (ha : (a.map (·.1)).Nodup) (hb : (b.map (·.1)).Nodup) : deq a b = true := by
  have sub : ∀ (a b : List (N × List N)), (∀ X, lk a X = lk b X) → a.map (·.1) ⊆ b.map (·.1) := fun a b h Y hY => by
    cases e4 : lk b Y with
    | none => rw [← h] at e4; exact absurd hY (lk_none.mp e4)
    | some m' => exact List.mem_map.mpr ⟨_, lk_mem e4, rfl⟩
  have l1 := ha.length_le_of_subset (sub a b h)
  have l2 := hb.length_le_of_subset (sub b a fun X => (h X).symm)
  rw [List.length_map, List.length_map] at l1 l2
  unfold deq
  rw [Bool.and_eq_true, List.all_eq_true, beq_iff_eq]
  refine ⟨by omega, fun p hp => ?_⟩
  rw [decide_eq_true_eq, ← h]
  exact lk_of_mem ha hp

section
variable {order : List N}
theorem bases_ok (W : Nms g w) (C : Canon cn) (O : Ord g w order) : ∀ i, BOk g w order (bases g cn w order i)
  | 0 => base0_ok W O
  | i + 1 => (refined_ok W C O (bases g cn w order i)).ok
/-- what is alike for ever has one out by every base -/
theorem bases_bis (W : Nms g w) (C : Canon cn) (O : Ord g w order) {R : List N → List N → Prop} (b : Bis g R) : ∀ i x y, R x y → out (lk (bases g cn w order i)) x = out (lk (bases g cn w order i)) y
  | 0, x, y, h => by
    have ho := b.over x y h
    have ew := b.wt_eq W h
    show out (lk (base0 w order)) x = out (lk (base0 w order)) y
    cases order with
    | nil =>
      have hx : x = [] := by
        cases x with
        | nil => rfl
        | cons X r => exact nomatch (O.mem X).mpr (ho.1 X List.mem_cons_self)
      have hy : y = [] := by
        cases y with
        | nil => rfl
        | cons X r => exact nomatch (O.mem X).mpr (ho.2 X List.mem_cons_self)
      rw [hx, hy]
    | cons h0 t => rw [out_base0 W O ho.1, out_base0 W O ho.2, ew]
  | i + 1, x, y, h => by
    have ih := bases_bis W C O b i
    have ho := b.over x y h
    exact ((refined_ok W C O (bases g cn w order i)).iff x y ho.1 ho.2).mp (E.of_bis W b ih h)
def nones (order : List N) (b : List (N × List N)) : List N := order.filter fun X => (lk b X).isNone
theorem mem_nones {b : List (N × List N)} {X : N} : X ∈ nones order b ↔ X ∈ order ∧ lk b X = none := by
  unfold nones
  rw [List.mem_filter, Option.isNone_iff_eq_none]
theorem nones_up (W : Nms g w) (C : Canon cn) (O : Ord g w order) {b : List (N × List N)} (K : BOk g w order b) {X : N} (hX : X ∈ nones order b) : X ∈ nones order (refined g cn w order b) := by
  obtain ⟨h1, h2⟩ := mem_nones.mp hX
  refine mem_nones.mpr ⟨h1, ?_⟩
  have F := refined_ok W C O b
  cases e : lk (refined g cn w order b) X with
  | none => rfl
  | some m =>
    exfalso
    have eo := good_E.out _ _ (F.one X m e)
    rw [out_one, h2] at eo
    have eo : [X] = out (lk b) m := eo
    have hm := F.ok.mkd.ne X m e
    cases m with
    | nil => exact hm rfl
    | cons Y r =>
      have hr : r = [] := by
        have e1 : out (lk b) ([Y] ++ r) = out (lk b) [Y] ++ out (lk b) r := out_append [Y] r
        have e1 : out (lk b) (Y :: r) = out (lk b) [Y] ++ out (lk b) r := e1
        rw [e1] at eo
        have n1 := K.mkd.out_ne Y
        have l := congrArg List.length eo
        rw [List.length_append] at l
        have n2 : 0 < (out (lk b) [Y]).length := List.length_pos_iff.mpr n1
        have n3 : (out (lk b) r).length = 0 := by
          have : ([X] : List N).length = 1 := rfl
          omega
        exact K.mkd.out_eq_nil (List.length_eq_zero_iff.mp n3)
      subst hr
      obtain ⟨A, D, eO, hA⟩ := F.ok.ahead X _ e
      have hYA := hA Y List.mem_cons_self
      rw [out_one] at eo
      have nd := O.nd
      rw [eO] at nd
      have dj := (List.nodup_append.mp nd).2.2
      cases eY : lk b Y with
      | none =>
        rw [eY] at eo
        have : X = Y := by simpa using eo
        exact dj Y hYA X List.mem_cons_self this.symm
      | some m' =>
        rw [eY] at eo
        have eo : [X] = m' := eo
        obtain ⟨A', D', eO', hA'⟩ := K.ahead Y m' eY
        have hXA' := hA' X (by rw [← eo]; exact List.mem_cons_self)
        -- X ahead of Y and Y ahead of X
        obtain ⟨s1, s2, es⟩ := List.append_of_mem hYA
        have nd' := O.nd
        rw [eO'] at nd'
        obtain ⟨z1, z2, z3⟩ := List.nodup_append.mp nd'
        obtain ⟨t1, t2, et⟩ := List.append_of_mem hXA'
        have q : (s1 ++ Y :: (s2 ++ X :: D)) = (t1 ++ X :: (t2 ++ Y :: D')) := by
          have e1 : order = s1 ++ Y :: (s2 ++ X :: D) := by rw [eO, es]; simp
          have e2 : order = t1 ++ X :: (t2 ++ Y :: D') := by rw [eO', et]; simp
          rw [← e1, ← e2]
        have ndq := O.nd
        have e1 : order = s1 ++ Y :: (s2 ++ X :: D) := by rw [eO, es]; simp
        rw [e1] at ndq
        -- in q the name Y stands once, so the parts ahead of it are one
        have key : s1 = t1 ++ X :: t2 := by
          have q' : s1 ++ Y :: (s2 ++ X :: D) = (t1 ++ X :: t2) ++ Y :: D' := by rw [q]; simp
          have uniq : ∀ (a b c d : List N), (a ++ Y :: b).Nodup → a ++ Y :: b = c ++ Y :: d → a = c := by
            intro a
            induction a with
            | nil =>
              intro b c d hn he
              cases c with
              | nil => rfl
              | cons c0 cs =>
                exfalso
                obtain ⟨rfl, e3⟩ := List.cons.inj he
                have : Y ∈ b := by rw [e3]; exact List.mem_append_right _ List.mem_cons_self
                exact (List.nodup_cons.mp hn).1 this
            | cons a0 as ih =>
              intro b c d hn he
              cases c with
              | nil =>
                exfalso
                obtain ⟨rfl, e3⟩ := List.cons.inj he
                exact (List.nodup_cons.mp hn).1 (List.mem_append_right _ List.mem_cons_self)
              | cons c0 cs =>
                obtain ⟨rfl, e3⟩ := List.cons.inj he
                rw [ih b cs d (List.nodup_cons.mp hn).2 e3]
          exact uniq _ _ _ _ ndq q'
        have hXs : X ∈ s1 := by rw [key]; exact List.mem_append_right _ List.mem_cons_self
        have := (List.nodup_append.mp ndq).2.2 X hXs X (List.mem_cons_of_mem _ (List.mem_append_right _ List.mem_cons_self))
        exact this rfl
/-- where no name more is a first one, the base stays -/
theorem same_of_nones (W : Nms g w) (C : Canon cn) (O : Ord g w order) {b : List (N × List N)} (K : BOk g w order b) (h : ∀ X, X ∈ nones order (refined g cn w order b) → X ∈ nones order b) : deq (refined g cn w order b) b = true := by
  have F := refined_ok W C O b
  refine lk_deq (fun X => ?_) F.ok.keys K.keys
  cases e : lk (refined g cn w order b) X with
  | none =>
    cases e2 : lk b X with
    | none => rfl
    | some m =>
      have hX := (O.mem X).mpr (K.mkd.dom X m e2)
      have := (mem_nones.mp (h X (mem_nones.mpr ⟨hX, e⟩))).2
      rw [e2] at this
      cases this
  | some m =>
    have hX := (O.mem X).mpr (F.ok.mkd.dom X m e)
    have eo := good_E.out _ _ (F.one X m e)
    have fr : out (lk b) m = m := out_self fun Y hY => (mem_nones.mp (h Y (mem_nones.mpr ⟨(O.mem Y).mpr (F.ok.mkd.over X m e Y hY), F.ok.mkd.free X m e Y hY⟩))).2
    rw [fr, out_one] at eo
    cases e2 : lk b X with
    | none =>
      have := (mem_nones.mp (nones_up W C O K (mem_nones.mpr ⟨hX, e2⟩))).2
      rw [e] at this
      cases this
    | some m' =>
      rw [e2] at eo
      exact congrArg some (show m' = m from eo).symm
theorem firstStop_ok {f : Nat → List (N × List N)} {c : Nat → Nat} {top : Nat} (hc : ∀ i, deq (f (i + 1)) (f i) = false → c i < c (i + 1)) (ht : ∀ i, c i ≤ top) :
    ∀ n i, top ≤ n + c i → deq (f (firstStop f n i + 1)) (f (firstStop f n i)) = true ∧ ∀ j, i ≤ j → j < firstStop f n i → deq (f (j + 1)) (f j) = false
  | 0, i, h => by
    refine ⟨?_, fun j h1 h2 => ?_⟩
    · show deq (f (i + 1)) (f i) = true
      cases e : deq (f (i + 1)) (f i) with
      | true => rfl
      | false =>
        have h1 := hc i e
        have h2 := ht (i + 1)
        omega
    · have : firstStop f 0 i = i := rfl
      omega
  | n + 1, i, h => by
    cases e : deq (f (i + 1)) (f i) with
    | true =>
      have es : firstStop f (n + 1) i = i := by
        show (if deq (f (i + 1)) (f i) = true then i else firstStop f n (i + 1)) = i
        rw [if_pos e]
      rw [es]
      exact ⟨e, fun j h1 h2 => by omega⟩
    | false =>
      have es : firstStop f (n + 1) i = firstStop f n (i + 1) := by
        show (if deq (f (i + 1)) (f i) = true then i else firstStop f n (i + 1)) = _
        rw [if_neg (by rw [e]; simp)]
      rw [es]
      have h1 := hc i e
      obtain ⟨k1, k2⟩ := firstStop_ok hc ht n (i + 1) (by omega)
      refine ⟨k1, fun j h2 h3 => ?_⟩
      by_cases q : j = i
      · rw [q]; exact e
      · exact k2 j (by omega) h3
theorem stop_ok (W : Nms g w) (C : Canon cn) (O : Ord g w order) : deq (bases g cn w order (stopAt g cn w order + 1)) (lastBase g cn w order) = true ∧ ∀ j, j < stopAt g cn w order → deq (bases g cn w order (j + 1)) (bases g cn w order j) = false := by
  have h := firstStop_ok (f := bases g cn w order) (c := fun i => (nones order (bases g cn w order i)).length) (top := order.length) (fun i e => ?_) (fun i => List.length_filter_le _ _) order.length 0 (by omega)
  · exact ⟨h.1, fun j hj => h.2 j (Nat.zero_le _) hj⟩
  · have K := bases_ok W C O i
    have up : ∀ X, X ∈ nones order (bases g cn w order i) → X ∈ nones order (bases g cn w order (i + 1)) := fun X hX => nones_up W C O K hX
    have nd : ∀ i, (nones order (bases g cn w order i)).Nodup := fun i => O.nd.sublist List.filter_sublist
    have le := (nd i).length_le_of_subset (fun X hX => up X hX)
    rcases Nat.lt_or_ge (nones order (bases g cn w order i)).length (nones order (bases g cn w order (i + 1))).length with k | k
    · exact k
    · exfalso
      have all : ∀ X, X ∈ nones order (bases g cn w order (i + 1)) → X ∈ nones order (bases g cn w order i) := by
        intro X hX
        apply Classical.byContradiction
        intro hn
        have s1 : (X :: nones order (bases g cn w order i)).Nodup := List.nodup_cons.mpr ⟨hn, nd i⟩
        have := s1.length_le_of_subset (l₂ := nones order (bases g cn w order (i + 1))) (fun Y hY => by
          rcases List.mem_cons.mp hY with rfl | hY
          · exact hX
          · exact up Y hY)
        simp at this
        omega
      have := same_of_nones W C O K all
      have e' : deq (refined g cn w order (bases g cn w order i)) (bases g cn w order i) = false := e
      rw [this] at e'
      cases e'
/-- THE LAW OF THE LAST BASE: it holds, and what is alike for ever has one out by it -/
theorem lastBase_ok (W : Nms g w) (C : Canon cn) (O : Ord g w order) : BOk g w order (lastBase g cn w order) ∧ Hlds g (lk (lastBase g cn w order)) ∧
    ∀ R, Bis g R → ∀ x y, R x y → out (lk (lastBase g cn w order)) x = out (lk (lastBase g cn w order)) y := by
  have K := bases_ok W C O (stopAt g cn w order)
  refine ⟨K, fun X m h => ?_, fun R b x y r => bases_bis W C O b _ x y r⟩
  have F := refined_ok W C O (lastBase g cn w order)
  have e := deq_lk (stop_ok W C O).1 F.ok.keys K.keys X
  rw [h] at e
  exact good_E.alk _ _ (F.one X m e)
end
end
end SG

/-! What candidates are, ahead of the test. -/
namespace SG
set_option autoImplicit false
set_option linter.all false
variable {N L : Type} [DecidableEq N] [DecidableEq L]
variable {g : Gm N L} {w : N → Nat} {cn : List (L × List N) → List (L × List N)} {old : N → Option (List N)} {P : List N} {st : RS N}
/-- a candidate is a row of first names, of the name's norm -/
theorem RInv.cand (W : Nms g w) (hP : ∀ X ∈ P, X ∈ g.names) (hc : ∀ X ∈ g.names, ∀ Q ∈ P, w X < w Q → X ∈ P) {X : N} (hX : X ∈ g.names) (hlow : ∀ Y ∈ g.names, w Y < w X → Y ∈ P) (I : RInv g w old P st)
    {m : List N} (h1 : m ∈ cands g w (lk st.base) st.firsts X) : (∀ Y ∈ m, Y ∈ st.firsts) ∧ wt w m = w X := by
  have low : ∀ x : List N, Over g x → wt w x + 1 = w X → ∀ Y ∈ x, Y ∈ P := fun x ho e Y hY => by
    have := wt_le_of_mem w hY
    exact hlow Y (ho Y hY) (by omega)
  have fP : ∀ Y ∈ st.firsts, Y ∈ g.names := fun Y h => hP Y (I.fstP h)
  unfold cands at h1
  cases el : lessRules g w X with
  | nil => rw [el] at h1; exact nomatch h1
  | cons p ps =>
    rw [el] at h1
    obtain ⟨F, hF, h1⟩ := List.mem_flatMap.mp h1
    unfold candsOf at h1
    obtain ⟨q, hq, h1⟩ := List.mem_filterMap.mp h1
    split at h1
    · rename_i e
      obtain ⟨rest, hr, rfl⟩ := Option.map_eq_some_iff.mp h1
      have hw := without_some.mp hr
      have hp : (p.1, p.2) ∈ lessRules g w X := by rw [el]; exact List.mem_cons_self
      have hp := mem_lessRules.mp hp
      have hq := mem_lessRules.mp (show (q.1, q.2) ∈ lessRules g w F from hq)
      have op : Over g p.2 := W.closed X hX _ hp.1
      have oq : Over g q.2 := W.closed F (fP F hF) _ hq.1
      have lp := low p.2 op hp.2
      have lq : ∀ Y ∈ q.2, Y ∈ P := fun Y hY => by
        have := wt_le_of_mem w hY
        exact hc Y (oq Y hY) F (I.fstP hF) (by omega)
      have w1 := good_E.wt _ _ (I.out_E W hP p.2 lp)
      have w2 := good_E.wt _ _ (I.out_E W hP q.2 lq)
      rw [hw, wt_append] at w1
      refine ⟨fun Y hY => ?_, ?_⟩
      · rcases List.mem_cons.mp hY with rfl | hY
        · exact hF
        · exact I.out_firsts p.2 lp Y (by rw [hw]; exact List.mem_append_right _ hY)
      · rw [wt_cons]
        omega
    · cases h1
theorem len_le_wt (W : Nms g w) : ∀ {m : List N}, Over g m → m.length ≤ wt w m
  | [], _ => Nat.le_refl _
  | X :: r, h => by
    have ih := len_le_wt W h.tail
    have := W.pos (h X List.mem_cons_self)
    rw [wt_cons, List.length_cons]
    omega
/-- a prefix of the order: what the steps ask -/
theorem Ord.at {order : List N} (O : Ord g w order) {P rest : List N} {X : N} (e : order = P ++ X :: rest) : (∀ Y ∈ P, Y ∈ g.names) ∧ P.Pairwise (fun a b => w a ≤ w b) ∧ (∀ Y ∈ g.names, ∀ Q ∈ P, w Y < w Q → Y ∈ P) ∧ X ∈ g.names ∧ X ∉ P ∧ (∀ Y ∈ g.names, w Y < w X → Y ∈ P) := by
  have hup := O.up
  have hnd := O.nd
  rw [e] at hup hnd
  obtain ⟨u1, u2, u3⟩ := List.pairwise_append.mp hup
  obtain ⟨v1, v2, v3⟩ := List.nodup_append.mp hnd
  have inO : ∀ Y, Y ∈ P ++ X :: rest ↔ Y ∈ g.names := fun Y => by rw [← e]; exact O.mem Y
  refine ⟨fun Y hY => (inO Y).mp (List.mem_append_left _ hY), u1, fun Y hY Q hQ h => ?_, (inO X).mp (List.mem_append_right _ List.mem_cons_self), fun h => v3 X h X List.mem_cons_self rfl, fun Y hY h => ?_⟩
  · rcases List.mem_append.mp ((inO Y).mpr hY) with k | k
    · exact k
    · have := u3 Q hQ Y k
      omega
  · rcases List.mem_append.mp ((inO Y).mpr hY) with k | k
    · exact k
    · rcases List.mem_cons.mp k with k | k
      · subst k; omega
      · have := (List.pairwise_cons.mp u2).1 Y k
        omega
theorem bases_len (W : Nms g w) (C : Canon cn) {order : List N} (O : Ord g w order) : ∀ (i : Nat) (X : N) (m : List N), lk (bases g cn w order i) X = some m → m.length ≤ w X
  | 0, X, m, h => by
    have h : lk (base0 w order) X = some m := h
    cases order with
    | nil => cases h
    | cons h0 t =>
      rw [lk_base0 O.nd] at h
      split at h
      · rw [← Option.some.inj h, List.length_replicate]
        exact Nat.le_refl _
      · cases h
  | i + 1, X, m, h => by
    have F := refined_ok W C O (bases g cn w order i)
    have e := good_E.wt _ _ (F.one X m h)
    have l := len_le_wt W (F.ok.mkd.over X m h)
    rw [wt_cons, wt_nil] at e
    omega
theorem take_some {X : N} {m : List N} (h : (cands g w (lk st.base) st.firsts X).find? (passes g cn w old (lk st.base) X) = some m) : st.take g cn w old X = ⟨st.base ++ [(X, m)], st.firsts⟩ := by
  unfold RS.take
  rw [h]
theorem take_none {X : N} (h : (cands g w (lk st.base) st.firsts X).find? (passes g cn w old (lk st.base) X) = none) : st.take g cn w old X = ⟨st.base, st.firsts ++ [X]⟩ := by
  unfold RS.take
  rw [h]
end SG

set_option Elab.async false
set_option linter.all false
set_option maxRecDepth 100000
set_option maxHeartbeats 4000000
set_option autoImplicit false
/-! Data in the abstract heap, with a Lean type; what stays; views. -/
namespace SG
open PySem PySem.Spec PyProof.Rows L2 LamX

/-! ### what stays: all but tables of code objects -/
def Kp (H H' : Hp) : Prop := ∀ b o, H b = some o → (∀ ps, o ≠ .tbl ps) → H' b = some o
structure Sm (T : List (Addr × Str)) (H H' : Hp) : Prop where
  kp : Kp H H'
  fr : ∀ b, H' b = Option.none → H b = Option.none
  tb : Tabs T H → Tabs T H'
section
variable {T : List (Addr × Str)} {H H1 H2 H' G : Hp}
theorem Kp.refl (H : Hp) : Kp H H := fun _ _ h _ => h
theorem Kp.trans (a : Kp H H1) (b : Kp H1 H2) : Kp H H2 := fun c o h n => b c o (a c o h n) n
theorem Kp.of (e : ∀ b o, H b = some o → H' b = some o) : Kp H H' := fun b o h _ => e b o h
theorem Sm.refl (T : List (Addr × Str)) (H : Hp) : Sm T H H := ⟨Kp.refl H, fun _ h => h, fun h => h⟩
theorem Sm.trans (a : Sm T H H1) (b : Sm T H1 H2) : Sm T H H2 := ⟨a.kp.trans b.kp, fun c h => a.fr c (b.fr c h), fun h => b.tb (a.tb h)⟩
theorem free_of (e : ∀ b o, H b = some o → H' b = some o) (b : Addr) (h : H' b = Option.none) : H b = Option.none := by
  cases q : H b with
  | none => rfl
  | some o => rw [e b o q] at h; cases h
theorem Sm.of (e : ∀ b o, H b = some o → H' b = some o) : Sm T H H' := ⟨Kp.of e, free_of e, fun h => h.ext e⟩
theorem Sm.new {p : Addr} {o : HO} (h : H p = Option.none) : Sm T H (upd H p o) := Sm.of fun b u e => by
  rw [upd_ne (ne_of_none e h)]
  exact e
/-- an object of one's own: a list, a dict, an instance -/
def Own : HO → Prop
  | .lst _ => True
  | .dK _ => True
  | .ins _ _ _ => True
  | _ => False
theorem Own.tbl {u : HO} (h : Own u) (ps : Array Value) : u ≠ .tbl ps := by rintro rfl; exact h
theorem Own.code {u : HO} (h : Own u) (c : Addr) (q : Str) : u ≠ CodeO c q := by
  intro e
  rw [e] at h
  exact h
/-- an object that was not there at H may change -/
theorem Sm.mut {p : Addr} {o u : HO} (e : Sm T H H') (h : H p = Option.none) (hu : H' p = some u) (n : Own u) : Sm T H (upd H' p o) where
  kp := fun a v ha n => by
    rw [upd_ne (ne_of_none ha h)]
    exact e.kp a v ha n
  fr := fun b hb => by
    by_cases q : b = p
    · rw [q]; exact h
    · rw [upd_ne q] at hb
      exact e.fr b hb
  tb := fun t q hq => by
    obtain ⟨ps, a, b, c⟩ := e.tb t q hq
    refine ⟨ps, ?_, b, fun pos cv hc => ?_⟩
    · rw [upd_ne]
      · exact a
      · intro z
        rw [z, hu] at a
        exact n.tbl _ (Option.some.inj a)
    · obtain ⟨d, e1, e2⟩ := c pos cv hc
      refine ⟨d, e1, ?_⟩
      rw [upd_ne]
      · exact e2
      · intro z
        rw [z, hu] at e2
        exact n.code _ _ (Option.some.inj e2)
end

/-! ### views: the heap without an object; what is new -/
def hid (H : Hp) (D : Addr) : Hp := fun b => if b = D then Option.none else H b
def dif (H' H : Hp) : Hp := fun b => match H b with
  | Option.none => H' b
  | some _ => Option.none
section
variable {T : List (Addr × Str)} {A B G H H0 H1 H2 H' H'' : Hp} {D : Addr} {o : HO}
theorem hid_at : hid H D D = Option.none := if_pos rfl
theorem hid_ne {b : Addr} (h : b ≠ D) : hid H D b = H b := if_neg h
theorem hid_kp : Kp (hid H D) H := fun b o h _ => by
  by_cases q : b = D
  · rw [q, hid_at] at h; cases h
  · rw [hid_ne q] at h; exact h
theorem Kp.hid (k : Kp A B) (h : A D = Option.none) : Kp A (hid B D) := fun b o e n => by
  have q : b ≠ D := fun z => by rw [z, h] at e; cases e
  rw [hid_ne q]
  exact k b o e n
theorem dif_new {b : Addr} (h : H b = Option.none) : dif H' H b = H' b := by unfold dif; rw [h]
theorem dif_old {b : Addr} (h : H b = some o) : dif H' H b = Option.none := by unfold dif; rw [h]
theorem dif_some {b : Addr} (h : dif H' H b = some o) : H b = Option.none ∧ H' b = some o := by
  cases q : H b with
  | none => exact ⟨rfl, by rw [← dif_new (H' := H') q]; exact h⟩
  | some u => rw [dif_old q] at h; cases h
theorem dif_kp : Kp (dif H' H) H' := fun b o h _ => (dif_some h).2
/-- the later the end and the earlier the beginning, the more is new -/
theorem dif_mono (a : ∀ b, H b = Option.none → H0 b = Option.none) (k : Kp H' H'') : Kp (dif H' H) (dif H'' H0) := fun b o h n => by
  obtain ⟨h1, h2⟩ := dif_some h
  rw [dif_new (a b h1)]
  exact k b o h2 n
theorem Sm.dif (a : Sm T H0 H) (k : Kp H' H'') : Kp (dif H' H) (dif H'' H0) := dif_mono a.fr k
end

/-! ### data with a type -/
class Rep (α : Type) where
  at_ : Hp → V → α → Prop
  mono : ∀ {H H' : Hp} {v : V} {x : α}, Kp H H' → at_ H v x → at_ H' v x
  lock : ∀ {H : Hp} {d : Addr} {o : Obj} {kvs : List (Key × V)} {v : V} {x : α}, H d = some (.dK kvs) → at_ H v x → at_ (upd H d (.frz o (.dK kvs))) v x
abbrev At {α : Type} [Rep α] (H : Hp) (v : V) (x : α) : Prop := Rep.at_ H v x
theorem At.lock {α : Type} [Rep α] {H : Hp} {d : Addr} {o : Obj} {kvs : List (Key × V)} {v : V} {x : α} (h : At H v x) (e : H d = some (.dK kvs)) : At (upd H d (.frz o (.dK kvs))) v x := Rep.lock e h
theorem At.mono {α : Type} [Rep α] {H H' : Hp} {v : V} {x : α} (h : At H v x) (k : Kp H H') : At H' v x := Rep.mono k h
def AllAt {α : Type} [Rep α] (H : Hp) : List V → List α → Prop
  | [], [] => True
  | v :: vs, x :: xs => At H v x ∧ AllAt H vs xs
  | _, _ => False
section
variable {α : Type} [Rep α] {H H' : Hp}
theorem AllAt.mono (k : Kp H H') : ∀ {vs : List V} {xs : List α}, AllAt H vs xs → AllAt H' vs xs
  | [], [], _ => True.intro
  | [], _ :: _, h => h
  | _ :: _, [], h => h
  | _ :: _, _ :: _, h => ⟨h.1.mono k, AllAt.mono k h.2⟩
theorem AllAt.lock {d : Addr} {o : Obj} {kvs : List (Key × V)} (e : H d = some (.dK kvs)) : ∀ {vs : List V} {xs : List α}, AllAt H vs xs → AllAt (upd H d (.frz o (.dK kvs))) vs xs
  | [], [], _ => True.intro
  | [], _ :: _, h => h
  | _ :: _, [], h => h
  | _ :: _, _ :: _, h => ⟨h.1.lock e, AllAt.lock e h.2⟩
theorem AllAt.length : ∀ {vs : List V} {xs : List α}, AllAt H vs xs → vs.length = xs.length
  | [], [], _ => rfl
  | [], _ :: _, h => h.elim
  | _ :: _, [], h => h.elim
  | _ :: _, _ :: _, h => congrArg (· + 1) (AllAt.length h.2)
theorem AllAt.get : ∀ {vs : List V} {xs : List α} {i : Nat} {x : α}, AllAt H vs xs → xs[i]? = some x → ∃ v, vs[i]? = some v ∧ At H v x
  | [], [], i, x, _, e => by simp at e
  | [], _ :: _, _, _, h, _ => h.elim
  | _ :: _, [], _, _, h, _ => h.elim
  | v :: _, y :: _, 0, x, h, e => by
    have e : y = x := by simpa using e
    rw [← e]
    exact ⟨v, rfl, h.1⟩
  | _ :: vs, _ :: xs, i + 1, x, h, e => by
    obtain ⟨v, a, b⟩ := AllAt.get (i := i) (x := x) h.2 (by simpa using e)
    exact ⟨v, by simpa using a, b⟩
theorem AllAt.getV : ∀ {vs : List V} {xs : List α} {i : Nat} {v : V}, AllAt H vs xs → vs[i]? = some v → ∃ x, xs[i]? = some x ∧ At H v x
  | [], [], i, x, _, e => by simp at e
  | [], _ :: _, _, _, h, _ => h.elim
  | _ :: _, [], _, _, h, _ => h.elim
  | v :: _, y :: _, 0, x, h, e => by
    have e : v = x := by simpa using e
    rw [← e]
    exact ⟨y, rfl, h.1⟩
  | _ :: vs, _ :: xs, i + 1, x, h, e => by
    obtain ⟨v, a, b⟩ := AllAt.getV (i := i) (v := x) h.2 (by simpa using e)
    exact ⟨v, by simpa using a, b⟩
theorem AllAt.append : ∀ {vs : List V} {xs : List α} {us : List V} {ys : List α}, AllAt H vs xs → AllAt H us ys → AllAt H (vs ++ us) (xs ++ ys)
  | [], [], _, _, _, k => k
  | [], _ :: _, _, _, h, _ => h.elim
  | _ :: _, [], _, _, h, _ => h.elim
  | _ :: _, _ :: _, _, _, h, k => ⟨h.1, AllAt.append h.2 k⟩
theorem AllAt.snoc {vs : List V} {xs : List α} {v : V} {x : α} (h : AllAt H vs xs) (k : At H v x) : AllAt H (vs ++ [v]) (xs ++ [x]) := h.append ⟨k, True.intro⟩
theorem AllAt.take : ∀ {vs : List V} {xs : List α} (n : Nat), AllAt H vs xs → AllAt H (vs.take n) (xs.take n)
  | [], [], n, h => by simp [List.take_nil]; exact True.intro
  | [], _ :: _, _, h => h.elim
  | _ :: _, [], _, h => h.elim
  | _ :: _, _ :: _, 0, _ => True.intro
  | _ :: _, _ :: _, n + 1, h => ⟨h.1, AllAt.take n h.2⟩
theorem AllAt.drop : ∀ {vs : List V} {xs : List α} (n : Nat), AllAt H vs xs → AllAt H (vs.drop n) (xs.drop n)
  | [], [], n, h => by simp [List.drop_nil]; exact True.intro
  | [], _ :: _, _, h => h.elim
  | _ :: _, [], _, h => h.elim
  | _ :: _, _ :: _, 0, h => h
  | _ :: _, _ :: _, n + 1, h => AllAt.drop n h.2
theorem AllAt.set : ∀ {vs : List V} {xs : List α} (i : Nat) {v : V} {x : α}, AllAt H vs xs → At H v x → AllAt H (vs.set i v) (xs.set i x)
  | [], [], _, _, _, h, _ => h
  | [], _ :: _, _, _, _, h, _ => h.elim
  | _ :: _, [], _, _, _, h, _ => h.elim
  | _ :: _, _ :: _, 0, _, _, h, k => ⟨k, h.2⟩
  | _ :: _, _ :: _, n + 1, _, _, h, k => ⟨h.1, AllAt.set n h.2 k⟩
end
instance : Rep Int := ⟨fun _ v x => v = .int x, fun _ h => h, fun _ h => h⟩
instance : Rep Nat := ⟨fun _ v x => v = .int (x : Int), fun _ h => h, fun _ h => h⟩
instance : Rep Bool := ⟨fun _ v x => v = .bl x, fun _ h => h, fun _ h => h⟩
instance : Rep Str := ⟨fun _ v x => v = .str x, fun _ h => h, fun _ h => h⟩
theorem ne_dK {H : Hp} {a d : Addr} {u : HO} {kvs : List (Key × V)} (h : H a = some u) (e : H d = some (.dK kvs)) (n : ∀ k, u ≠ .dK k) : a ≠ d := ne_of h e (n kvs)
instance {α : Type} [Rep α] : Rep (Option α) := ⟨fun H v x => match x with
  | Option.none => v = .non
  | some y => At H v y, fun {H H' v x} k h => match x, h with
  | Option.none, h => h
  | some _, h => At.mono h k, fun {H d o kvs v x} e h => match x, h with
  | Option.none, h => h
  | some _, h => At.lock h e⟩
instance {α : Type} [Rep α] : Rep (List α) := ⟨fun H v xs => ∃ (a : Addr) (vs : List V), v = .ref a ∧ H a = some (.lst vs) ∧ AllAt H vs xs, fun k ⟨a, vs, e, h, r⟩ => ⟨a, vs, e, k a _ h (fun _ z => nomatch z), r.mono k⟩,
  fun q ⟨a, vs, e, h, r⟩ => ⟨a, vs, e, by rw [upd_ne (ne_dK h q fun _ z => nomatch z)]; exact h, r.lock q⟩⟩
instance {α β : Type} [Rep α] [Rep β] : Rep (α × β) := ⟨fun H v x => ∃ (a : Addr) (u w : V), v = .ref a ∧ H a = some (.tup [u, w]) ∧ At H u x.1 ∧ At H w x.2, fun k ⟨a, u, w, e, h, r, s⟩ => ⟨a, u, w, e, k a _ h (fun _ z => nomatch z), r.mono k, s.mono k⟩,
  fun q ⟨a, u, w, e, h, r, s⟩ => ⟨a, u, w, e, by rw [upd_ne (ne_dK h q fun _ z => nomatch z)]; exact h, r.lock q, s.lock q⟩⟩
/-- a rule: name, letter, row -/
abbrev Rul := PySem.W.T3 Str Str (List Str)
instance {α β γ : Type} [Rep α] [Rep β] [Rep γ] : Rep (PySem.W.T3 α β γ) := ⟨fun H v x => ∃ (a : Addr) (u w z : V), v = .ref a ∧ H a = some (.tup [u, w, z]) ∧ At H u x.a ∧ At H w x.b ∧ At H z x.c,
  fun k ⟨a, u, w, z, e, h, r, s, t⟩ => ⟨a, u, w, z, e, k a _ h (fun _ z => nomatch z), r.mono k, s.mono k, t.mono k⟩,
  fun q ⟨a, u, w, z, e, h, r, s, t⟩ => ⟨a, u, w, z, e, by rw [upd_ne (ne_dK h q fun _ z => nomatch z)]; exact h, r.lock q, s.lock q, t.lock q⟩⟩
/-- a dict with text keys -/
structure Dct (α : Type) where
  kvs : List (Str × α)
def AllKv {α : Type} [Rep α] (H : Hp) : List (Key × V) → List (Str × α) → Prop
  | [], [] => True
  | p :: ps, x :: xs => p.1 = Sum.inr x.1 ∧ At H p.2 x.2 ∧ AllKv H ps xs
  | _, _ => False
section
variable {α : Type} [Rep α] {H H' : Hp}
theorem AllKv.mono (k : Kp H H') : ∀ {ps : List (Key × V)} {xs : List (Str × α)}, AllKv H ps xs → AllKv H' ps xs
  | [], [], _ => True.intro
  | [], _ :: _, h => h
  | _ :: _, [], h => h
  | _ :: _, _ :: _, h => ⟨h.1, h.2.1.mono k, AllKv.mono k h.2.2⟩
theorem AllKv.lock {d : Addr} {o : Obj} {kvs : List (Key × V)} (e : H d = some (.dK kvs)) : ∀ {ps : List (Key × V)} {xs : List (Str × α)}, AllKv H ps xs → AllKv (upd H d (.frz o (.dK kvs))) ps xs
  | [], [], _ => True.intro
  | [], _ :: _, h => h
  | _ :: _, [], h => h
  | _ :: _, _ :: _, h => ⟨h.1, h.2.1.lock e, AllKv.lock e h.2.2⟩
theorem AllKv.length : ∀ {ps : List (Key × V)} {xs : List (Str × α)}, AllKv H ps xs → ps.length = xs.length
  | [], [], _ => rfl
  | [], _ :: _, h => h.elim
  | _ :: _, [], h => h.elim
  | _ :: _, _ :: _, h => congrArg (· + 1) (AllKv.length h.2.2)
theorem AllKv.append : ∀ {ps qs : List (Key × V)} {xs ys : List (Str × α)}, AllKv H ps xs → AllKv H qs ys → AllKv H (ps ++ qs) (xs ++ ys)
  | [], _, [], _, _, k => k
  | [], _, _ :: _, _, h, _ => h.elim
  | _ :: _, _, [], _, h, _ => h.elim
  | _ :: _, _, _ :: _, _, h, k => ⟨h.1, h.2.1, AllKv.append h.2.2 k⟩
theorem AllKv.keys : ∀ {ps : List (Key × V)} {xs : List (Str × α)}, AllKv H ps xs → ps.map (·.1) = xs.map fun p => (Sum.inr p.1 : Key)
  | [], [], _ => rfl
  | [], _ :: _, h => h.elim
  | _ :: _, [], h => h.elim
  | _ :: _, _ :: _, h => by rw [List.map_cons, List.map_cons, h.1, AllKv.keys h.2.2]
/-- look up -/
def dlk {β : Type} (b : List (Str × β)) (X : Str) : Option β := (b.find? fun p => decide (p.1 = X)).map (·.2)
theorem AllKv.lk : ∀ {ps : List (Key × V)} {xs : List (Str × α)} (X : Str), AllKv H ps xs → match dlk xs X with
    | Option.none => valV ps (Sum.inr X : Key) = Option.none
    | some x => ∃ v, valV ps (Sum.inr X : Key) = some v ∧ At H v x
  | [], [], X, _ => rfl
  | [], _ :: _, _, h => h.elim
  | _ :: _, [], _, h => h.elim
  | (k, v) :: ps, (y, x) :: xs, X, h => by
    have ih := AllKv.lk X h.2.2
    obtain ⟨h1, h2, h3⟩ := h
    have h1 : k = Sum.inr y := h1
    subst h1
    unfold dlk at ih ⊢
    rw [List.find?_cons]
    by_cases e : y = X
    · subst e
      simp only [decide_true, Option.map_some]
      refine ⟨v, ?_, h2⟩
      simp [valV]
    · have e2 : ¬ (Sum.inr y : Key) = Sum.inr X := fun z => e (Sum.inr.inj z)
      simp only [e, decide_false]
      have ev : valV ((Sum.inr y, v) :: ps : List (Key × V)) (Sum.inr X) = valV ps (Sum.inr X : Key) := by
        simp [valV, e2]
      rw [ev]
      exact ih
theorem AllKv.some {ps : List (Key × V)} {xs : List (Str × α)} {X : Str} {x : α} (h : AllKv H ps xs) (e : dlk xs X = some x) : ∃ v, valV ps (Sum.inr X : Key) = some v ∧ At H v x := by
  have := h.lk X
  rw [e] at this
  exact this
theorem AllKv.none {ps : List (Key × V)} {xs : List (Str × α)} {X : Str} (h : AllKv H ps xs) (e : dlk xs X = Option.none) : valV ps (Sum.inr X : Key) = Option.none := by
  have := h.lk X
  rw [e] at this
  exact this
end
theorem Kp.rd {H H' : Hp} (k : Kp H H') {a : Addr} {ps : List (Key × V)} (h : Rd H a (.dK ps)) : Rd H' a (.dK ps) := by
  rcases h with h | ⟨o, h⟩
  · exact .inl (k a _ h (fun _ z => nomatch z))
  · exact .inr ⟨o, k a _ h (fun _ z => nomatch z)⟩
theorem rd_lock {H : Hp} {a d : Addr} {o : Obj} {ps kvs : List (Key × V)} (h : Rd H a (.dK ps)) (e : H d = some (.dK kvs)) : Rd (upd H d (.frz o (.dK kvs))) a (.dK ps) := by
  by_cases q : a = d
  · subst q
    rcases h with h | ⟨o', h⟩
    · rw [h] at e
      cases e
      exact .inr ⟨o, upd_same⟩
    · rw [h] at e
      cases e
  · rcases h with h | ⟨o', h⟩
    · exact .inl (by rw [upd_ne q]; exact h)
    · exact .inr ⟨o', by rw [upd_ne q]; exact h⟩
instance {α : Type} [Rep α] : Rep (Dct α) := ⟨fun H v x => ∃ (a : Addr) (ps : List (Key × V)), v = .ref a ∧ Rd H a (.dK ps) ∧ AllKv H ps x.kvs, fun k ⟨a, ps, e, h, r⟩ => ⟨a, ps, e, k.rd h, r.mono k⟩,
  fun q ⟨a, ps, e, h, r⟩ => ⟨a, ps, e, rd_lock h q, r.lock q⟩⟩
theorem dget_rd {H : Hp} {a : Addr} {kvs : List (Key × V)} {X : Str} (e : Rd H a (.dK kvs)) : DGet H a (.str X) (valV kvs (Sum.inr X : Key)) := .inl ⟨kvs, Sum.inr X, e, rfl, rfl⟩
/-- what a look-up gives -/
theorem At.dlk {α : Type} [Rep α] {H : Hp} {v : V} {b : List (Str × α)} (h : At H v (Dct.mk b)) (X : Str) : ∃ a, v = .ref a ∧ IsD H a ∧ match dlk b X with
    | Option.none => DGet H a (.str X) Option.none
    | some x => ∃ u, DGet H a (.str X) (some u) ∧ At H u x := by
  obtain ⟨a, ps, e, hd, hps⟩ := h
  refine ⟨a, e, .inl ⟨ps, hd⟩, ?_⟩
  have := hps.lk X
  have g := dget_rd (X := X) hd
  cases q : SG.dlk b X with
  | none =>
    rw [q] at this
    rw [show valV ps (Sum.inr X : Key) = Option.none from this] at g
    exact g
  | some x =>
    rw [q] at this
    obtain ⟨u, e1, e2⟩ := this
    rw [e1] at g
    exact ⟨u, g, e2⟩
/-- opts as values -/
def optV : Option Int → V
  | Option.none => .non
  | some n => .int n
theorem opts_at {H : Hp} : ∀ {vs : List V} {xs : List (Option Int)}, AllAt H vs xs ↔ vs = xs.map optV
  | [], [] => ⟨fun _ => rfl, fun _ => True.intro⟩
  | [], _ :: _ => ⟨fun h => h.elim, fun h => nomatch h⟩
  | _ :: _, [] => ⟨fun h => h.elim, fun h => nomatch h⟩
  | v :: vs, x :: xs => by
    have ih := opts_at (H := H) (vs := vs) (xs := xs)
    have e : At H v x ↔ v = optV x := by cases x <;> exact Iff.rfl
    constructor
    · intro h
      rw [List.map_cons, ← ih.mp h.2, e.mp h.1]
    · intro h
      obtain ⟨h1, h2⟩ := List.cons.inj h
      exact ⟨e.mpr h1, ih.mpr h2⟩
theorem strs_at {H : Hp} : ∀ {vs : List V} {xs : List Str}, AllAt H vs xs ↔ vs = xs.map V.str
  | [], [] => ⟨fun _ => rfl, fun _ => True.intro⟩
  | [], _ :: _ => ⟨fun h => h.elim, fun h => nomatch h⟩
  | _ :: _, [] => ⟨fun h => h.elim, fun h => nomatch h⟩
  | v :: vs, x :: xs => by
    have ih := strs_at (H := H) (vs := vs) (xs := xs)
    constructor
    · intro h
      rw [List.map_cons, ← ih.mp h.2, show v = V.str x from h.1]
    · intro h
      obtain ⟨h1, h2⟩ := List.cons.inj h
      exact ⟨h1, ih.mpr h2⟩
theorem ints_at {H : Hp} : ∀ {vs : List V} {xs : List Int}, AllAt H vs xs ↔ vs = xs.map V.int
  | [], [] => ⟨fun _ => rfl, fun _ => True.intro⟩
  | [], _ :: _ => ⟨fun h => h.elim, fun h => nomatch h⟩
  | _ :: _, [] => ⟨fun h => h.elim, fun h => nomatch h⟩
  | v :: vs, x :: xs => by
    have ih := ints_at (H := H) (vs := vs) (xs := xs)
    constructor
    · intro h
      rw [List.map_cons, ← ih.mp h.2, show v = V.int x from h.1]
    · intro h
      obtain ⟨h1, h2⟩ := List.cons.inj h
      exact ⟨h1, ih.mpr h2⟩
theorem bls_at {H : Hp} : ∀ {vs : List V} {xs : List Bool}, AllAt H vs xs ↔ vs = xs.map V.bl
  | [], [] => ⟨fun _ => rfl, fun _ => True.intro⟩
  | [], _ :: _ => ⟨fun h => h.elim, fun h => nomatch h⟩
  | _ :: _, [] => ⟨fun h => h.elim, fun h => nomatch h⟩
  | v :: vs, x :: xs => by
    have ih := bls_at (H := H) (vs := vs) (xs := xs)
    constructor
    · intro h
      rw [List.map_cons, ← ih.mp h.2, show v = V.bl x from h.1]
    · intro h
      obtain ⟨h1, h2⟩ := List.cons.inj h
      exact ⟨h1, ih.mpr h2⟩
/-- a list of texts at an address -/
theorem At.strs {H : Hp} {v : V} {xs : List Str} (h : At H v xs) : ∃ a, v = .ref a ∧ H a = some (.lst (xs.map V.str)) := by
  obtain ⟨a, vs, e, h1, h2⟩ := h
  exact ⟨a, e, by rw [h1, strs_at.mp h2]⟩
theorem At.of_strs {H : Hp} {a : Addr} {xs : List Str} (h : H a = some (.lst (xs.map V.str))) : At H (.ref a) xs := ⟨a, _, rfl, h, strs_at.mpr rfl⟩
end SG

set_option Elab.async false
set_option linter.all false
set_option maxRecDepth 100000
set_option maxHeartbeats 4000000
set_option autoImplicit false
/-! Rules over typed data: ==, !=, in; comprehensions; defs by name. -/
namespace SG
open PySem PySem.Spec PyProof.Rows L2 LamX

/-! ### typed data are data -/
class RepD (α : Type) [DecidableEq α] [PySem.W.Datum α] [Rep α] : Prop where
  dp : ∀ (K : PySem.W.Frag) (H : Hp) (v : V) (x : α), At H v x → Dp K H v (PySem.W.Datum.toD x)
instance : RepD Int := ⟨fun _ _ _ x h => by rw [show _ = V.int x from h]; exact .int x⟩
instance : RepD Bool := ⟨fun _ _ _ x h => by rw [show _ = V.bl x from h]; exact .bl x⟩
instance : RepD Str := ⟨fun _ _ _ x h => by rw [show _ = V.str x from h]; exact .str x⟩
section
variable {α β γ : Type} [DecidableEq α] [PySem.W.Datum α] [Rep α] [RepD α] [DecidableEq β] [PySem.W.Datum β] [Rep β] [RepD β] [DecidableEq γ] [PySem.W.Datum γ] [Rep γ] [RepD γ]
theorem dp_all (K : PySem.W.Frag) (H : Hp) : ∀ (vs : List V) (xs : List α), AllAt H vs xs → DpAll K H vs (xs.map PySem.W.Datum.toD)
  | [], [], _ => .nil
  | [], _ :: _, h => h.elim
  | _ :: _, [], h => h.elim
  | v :: vs, x :: xs, h => .cons (RepD.dp K H v x h.1) (dp_all K H vs xs h.2)
instance : RepD (List α) := ⟨fun K H v xs ⟨a, vs, e, h, r⟩ => by
  rw [e]
  exact .lst (SqL.of h) (dp_all K H vs xs r)⟩
instance : RepD (α × β) := ⟨fun K H v x ⟨a, u, z, e, h, r, s⟩ => by
  rw [e]
  exact .tup (SqT.of h) (.cons (RepD.dp K H u x.1 r) (.cons (RepD.dp K H z x.2 s) .nil))⟩
instance : RepD (PySem.W.T3 α β γ) := ⟨fun K H v x ⟨a, u, y, z, e, h, r, s, t⟩ => by
  rw [e]
  exact .tup (SqT.of h) (.cons (RepD.dp K H u x.a r) (.cons (RepD.dp K H y x.b s) (.cons (RepD.dp K H z x.c t) .nil)))⟩
theorem at_holds {X : Cx} {pins : List (Addr × Obj)} {σ : L2.St} {H : Hp} {s : Shared} {v : V} {u : Value} {x : α} (I : Inv X pins σ H s) (h : At H v x) (r : RelV v u) : PySem.W.Holds s.heap u x :=
  Dp.reads I _ v u (RepD.dp X.K H v x h) r
end

/-! ### ==, != , in, not in -/
section
variable {X : Cx} (α : Type) [DecidableEq α] [PySem.W.Datum α] [Rep α] [RepD α]
def rEqT : R2 := fun v u H Q => ∃ x y : α, At H v x ∧ At H u y ∧ Q (.bl (decide (x = y))) H
def rNeT : R2 := fun v u H Q => ∃ x y : α, At H v x ∧ At H u y ∧ Q (.bl (!decide (x = y))) H
def rInT : R2 := fun v u H Q => ∃ (x : α) (xs : List α), At H v x ∧ At H u xs ∧ Q (.bl (decide (x ∈ xs))) H
def rNotInT : R2 := fun v u H Q => ∃ (x : α) (xs : List α), At H v x ∧ At H u xs ∧ Q (.bl (!decide (x ∈ xs))) H
theorem op_eqT (hu : X.A.units + 64 < cLine) (hd : PySem.W.Datum.depth α ≤ 60 := by decide) : OpR X (compareOp .Eq) (rEqT α) := by
  intro pins s σ H x y v u Q I rx ry h
  obtain ⟨a, b, ha, hb, q⟩ := h
  exact PySem.W.eq_datum (at_holds I ha rx) (at_holds I hb ry) (by omega) ⟨.bl _, H, I, rfl, q⟩
theorem op_neT (hu : X.A.units + 64 < cLine) (hd : PySem.W.Datum.depth α ≤ 60 := by decide) : OpR X (compareOp .NotEq) (rNeT α) := by
  intro pins s σ H x y v u Q I rx ry h
  obtain ⟨a, b, ha, hb, q⟩ := h
  exact PySem.W.ne_datum (at_holds I ha rx) (at_holds I hb ry) (by omega) ⟨.bl _, H, I, rfl, by rw [decide_not]; exact q⟩
theorem holdAll_of {X : Cx} {pins : List (Addr × Obj)} {σ : L2.St} {H : Hp} {s : Shared} (I : Inv X pins σ H s) : ∀ {vs : List V} {us : List Value} {xs : List α}, Vals vs us → AllAt H vs xs → PySem.W.HoldAll s.heap us xs
  | [], _, [], r, _ => by cases r; exact PySem.W.HoldAll.nil
  | [], _, _ :: _, _, h => h.elim
  | _ :: _, _, [], _, h => h.elim
  | v :: vs, _, x :: xs, r, h => by
    cases r with
    | cons r1 r2 => exact PySem.W.HoldAll.cons (at_holds I h.1 r1) (holdAll_of I r2 h.2)
theorem op_inT (hu : X.A.units + 65 < cLine) (hd : PySem.W.Datum.depth α ≤ 60 := by decide) : OpR X (compareOp .In) (rInT α) := by
  intro pins s σ H x y v u Q I rx ry h
  obtain ⟨a, xs, ha, ⟨p, vs, rfl, hp, hx⟩, q⟩ := h
  cases ry
  obtain ⟨its, rv, hl, hz⟩ := I.list (SqL.of hp)
  exact PySem.W.in_list_datum hl.isList (holdAll_of α I rv hx) (at_holds I ha rx) (by omega) ⟨.bl _, H, I, rfl, q⟩
theorem op_notInT (hu : X.A.units + 65 < cLine) (hd : PySem.W.Datum.depth α ≤ 60 := by decide) : OpR X (compareOp .NotIn) (rNotInT α) := by
  intro pins s σ H x y v u Q I rx ry h
  obtain ⟨a, xs, ha, ⟨p, vs, rfl, hp, hx⟩, q⟩ := h
  cases ry
  obtain ⟨its, rv, hl, hz⟩ := I.list (SqL.of hp)
  exact PySem.W.notIn_list_datum hl.isList (holdAll_of α I rv hx) (at_holds I ha rx) (by omega) ⟨.bl _, H, I, rfl, by rw [decide_not]; exact q⟩

/-! ### sorted -/
def srt (xs : List α) : List α := xs.mergeSort (PySem.W.dataLe false PySem.W.Datum.toD)
def rSortT : List V → Hp → VK → Prop := fun vs H Q => ∃ (G : Hp) (a : Addr) (ws : List V) (xs : List α), vs = [.ref a] ∧ H a = some (.lst ws) ∧ AllAt G ws xs ∧ Kp G H ∧ xs.length ≤ 100000 ∧ ∀ (p : Addr) (us : List V), H p = Option.none → AllAt G us (srt α xs) → Q (.ref p) (upd H p (.lst us))
theorem each_of {H : Hp} : ∀ {vs : List V} {us : List Value} {xs : List α}, Vals vs us → AllAt H vs xs → PySem.W.EachIs (fun u x => ∃ v, RelV v u ∧ At H v x) us xs
  | [], _, [], r, _ => by cases r; exact .nil
  | [], _, _ :: _, _, h => h.elim
  | _ :: _, _, [], _, h => h.elim
  | v :: vs, _, x :: xs, r, h => by
    cases r with
    | cons r1 r2 => exact .cons ⟨v, r1, h.1⟩ (each_of r2 h.2)
theorem of_each {H : Hp} : ∀ {us : List Value} {xs : List α}, PySem.W.EachIs (fun u x => ∃ v, RelV v u ∧ At H v x) us xs → ∃ vs, Vals vs us ∧ AllAt H vs xs
  | _, _, .nil => ⟨[], .nil, True.intro⟩
  | _, _, .cons ⟨v, r, h⟩ t => by
    obtain ⟨vs, a, b⟩ := of_each t
    exact ⟨v :: vs, .cons r a, h, b⟩
theorem cr_sortT (hal : ∀ a b : α, PySem.W.alike (PySem.W.Datum.toD a) (PySem.W.Datum.toD b) = true) (hk : ∀ bs : List α, PySem.W.Sortable (bs.map PySem.W.Datum.toD)) (hu : X.A.units + 64 < cLine) (hd : PySem.W.Datum.depth α ≤ 60 := by decide) :
    CallR X (.builtin "sorted") (rSortT α) := by
  intro pins s σ H vs us Q I r h
  obtain ⟨G, a, vs, xs, rfl, ha, hx, kp, hlen, q⟩ := h
  obtain rfl := Vals.ref1 r
  obtain ⟨its, rv, hl, hz⟩ := I.list (SqL.of ha)
  have er := each_of α rv hx
  refine PySem.W.sorted_data (R := fun u x => ∃ v, RelV v u ∧ At G v x) (enc := PySem.W.Datum.toD) hl.isList er (er.mono fun u x ⟨v, r1, h1⟩ => at_holds I (h1.mono kp) r1) (PySem.W.AllAlike.of hal) (hk xs) (Nat.le_trans hlen (by decide)) (fun b _ => ?_) fun out ho eo => ?_
  · have := PySem.W.Datum.depth_le b
    omega
  · obtain ⟨zs, r2, h2⟩ := of_each α eo
    obtain ⟨ep, he'⟩ := PyProof.Rows.sortedAll_at s.heap its out.toArray
    have hlen2 : zs.length ≤ sizeLine := by
      rw [r2.length, ho]
      exact Nat.le_trans hlen (by decide)
    exact ⟨.ref _, upd H (s.heap.objs.size + 1) (.lst zs), I.laid (t' := s.toks) (fun _ _ => PyProof.Rows.sortedAll_old) (Nat.le_succ _) ⟨hlen2, out, ep, r2, he'⟩, rfl, q _ _ (I.hok.fresh (Nat.le_succ _)) h2⟩
end
end SG

set_option Elab.async false
set_option linter.all false
set_option maxRecDepth 100000
set_option maxHeartbeats 4000000
set_option autoImplicit false
/-! Comprehensions over typed lists; promises; defs by name. -/
namespace SG
open PySem PySem.Spec PyProof.Rows L2 LamX C8

section
variable {T : List (Addr × Str)} {H H0 H1 H2 H3 H4 G A B : Hp} {D : Addr}
theorem Sm.lst (a : Sm T H H1) {p : Addr} {xs : List V} (h : H p = some (.lst xs)) : H1 p = some (.lst xs) := a.kp p _ h (fun _ z => nomatch z)
theorem Sm.tup (a : Sm T H H1) {p : Addr} {xs : List V} (h : H p = some (.tup xs)) : H1 p = some (.tup xs) := a.kp p _ h (fun _ z => nomatch z)
theorem Sm.dK (a : Sm T H H1) {p : Addr} {xs : List (Key × V)} (h : H p = some (.dK xs)) : H1 p = some (.dK xs) := a.kp p _ h (fun _ z => nomatch z)
theorem Sm.ins (a : Sm T H H1) {p C dx : Addr} {fs : List (Str × V)} (h : H p = some (.ins C dx fs)) : H1 p = some (.ins C dx fs) := a.kp p _ h (fun _ z => nomatch z)
theorem Sm.at_ {α : Type} [Rep α] (a : Sm T H H1) {v : V} {x : α} (h : At H v x) : At H1 v x := h.mono a.kp
theorem Sm.all {α : Type} [Rep α] (a : Sm T H H1) {v : List V} {x : List α} (h : AllAt H v x) : AllAt H1 v x := h.mono a.kp
/-- new things of a step stay new things, seen without D -/
theorem kp_new (a : Sm T H0 H) (hD : H D ≠ Option.none) (k : Kp H4 H3) : Kp (dif H4 H) (hid (dif H3 H0) D) := (a.dif k).hid (by
  cases q : H D with
  | none => exact absurd q hD
  | some o => exact dif_old q)
theorem hid_upd {o : HO} : Kp (hid (dif H G) D) (hid (dif (upd H D o) G) D) := fun b u e n => by
  by_cases q : b = D
  · rw [q, hid_at] at e; cases e
  · rw [hid_ne q] at e ⊢
    obtain ⟨h1, h2⟩ := dif_some e
    rw [dif_new h1, upd_ne q]
    exact h2
theorem hid_mono (k : Kp A B) : Kp (hid A D) (hid B D) := fun b u e n => by
  by_cases q : b = D
  · rw [q, hid_at] at e; cases e
  · rw [hid_ne q] at e ⊢
    exact k b u e n
/-- a comprehension over a typed list: what each turn gives, or not -/
theorem lc_rep {α β : Type} [Rep α] [Rep β] {K : PySem.W.Frag} {S : Hp} {a : Addr} {vs0 : List V} {xs : List α} {g : TG} {tt : TT} {te : TE} {ws : List Nat} {σ : L2.St} {Qd : Hp → Prop}
    (T : List (Addr × Str)) (G0 : Hp) (f : α → Option β) (hD : H1 D = Option.none) (hG : ∀ b, H1 b = Option.none → G0 b = Option.none) (ha : H1 a = some (.lst vs0)) (hx : AllAt S vs0 xs) (hlen : xs.length ≤ 100000)
    (turn : ∀ (i : Nat) (v : V) (x : α) (H : Hp), xs[i]? = some x → At S v x → Sm T H1 H → H D ≠ Option.none → ∀ (Ky : V → Hp → Prop) (Kn : Hp → Prop), (∀ y z H4, f x = some z → Sm T H H4 → At (hid (dif H4 G0) D) y z → Ky y H4) → (∀ H3, f x = Option.none → Sm T H H3 → Kn H3) →
      g v (wipe σ ws) H fun σ2 H2 => wipe σ2 ws = wipe σ ws ∧ tt σ2 H2 fun b H3 => if b = true then te σ2 H3 Ky else Kn H3)
    (hd : ∀ H ys, Sm T H1 H → H D = some (.lst ys) → AllAt (hid (dif H G0) D) ys (xs.filterMap f) → Qd H) :
    ∃ W : Nat → Nat → Hp → Prop, (∃ m, W 0 m (upd H1 D (.lst []))) ∧ ∀ i m H, W i m H →
      ((Itl K a).stop i H ∧ Qd H) ∨ ((Itl K a).go i H ∧ ∃ Nx : Hp → Prop, (∀ H', Nx H' → ∃ m', m' < m ∧ W (i + 1) m' H') ∧ ∀ x H', (Itl K a).yld i H x H' → g x (wipe σ ws) H' fun σ2 H2 => wipe σ2 ws = wipe σ ws ∧ tt σ2 H2 fun b H3 =>
        if b = true then te σ2 H3 fun y H4 => ∃ acc, H4 D = some (.lst acc) ∧ acc.length < sizeLine ∧ Nx (upd H4 D (.lst (acc ++ [y]))) else Nx H3) := by
  have hlv := hx.length
  refine lc_list (K := K) (a := a) (xs := vs0) (fun i H => Sm T H1 H ∧ ∃ ys, H D = some (.lst ys) ∧ ys.length ≤ i ∧ AllAt (hid (dif H G0) D) ys ((xs.take i).filterMap f)) ⟨Sm.new hD, [], upd_same, Nat.zero_le _, True.intro⟩ (fun i H _ ⟨p, _⟩ => SqL.of (p.lst ha)) ?_ ?_
  · rintro i v H hi ⟨p, ys, hys, hl, hA⟩
    obtain ⟨x, hxi, hat⟩ := hx.getV hi
    have hil : i < xs.length := (List.getElem?_eq_some_iff.mp hxi).1
    have et : xs.take (i + 1) = xs.take i ++ [x] := by
      rw [List.take_add_one, hxi]
      rfl
    refine turn i v x H hxi hat p (by rw [hys]; exact fun z => nomatch z) _ _ (fun y z H4 hf q hy => ?_) (fun H3 hf q => ?_)
    · have h4 := q.lst hys
      refine ⟨ys, h4, Nat.lt_of_lt_of_le (Nat.lt_of_le_of_lt hl (Nat.lt_of_lt_of_le hil hlen)) (by decide), (p.trans q).mut hD h4 True.intro, ys ++ [y], upd_same, by rw [List.length_append]; exact Nat.succ_le_succ hl, ?_⟩
      rw [et, List.filterMap_append]
      have e1 : [x].filterMap f = [z] := by simp [hf]
      rw [e1]
      exact ((hA.mono (hid_mono (dif_mono (fun _ h => h) q.kp))).snoc hy).mono hid_upd
    · refine ⟨p.trans q, ys, q.lst hys, Nat.le_succ_of_le hl, ?_⟩
      rw [et, List.filterMap_append]
      have e1 : [x].filterMap f = [] := by simp [hf]
      rw [e1, List.append_nil]
      exact hA.mono (hid_mono (dif_mono (fun _ h => h) q.kp))
  · rintro H ⟨p, ys, hys, _, hA⟩
    rw [hlv, List.take_length] at hA
    exact hd H ys p hys hA
/-- the list that such a comprehension has made, as a new thing -/
theorem lc_new {β : Type} [Rep β] {H' : Hp} {ys : List V} {zs : List β} (h : H' D = some (.lst ys)) (hG : G D = Option.none) (hA : AllAt (hid (dif H' G) D) ys zs) : At (dif H' G) (.ref D) zs :=
  ⟨D, ys, rfl, by rw [dif_new hG]; exact h, hA.mono hid_kp⟩
end

/-! ### promises -/
/-- a new thing is handed back, all else stays -/
def Ret {α : Type} [Rep α] (T : List (Addr × Str)) (H : Hp) (Q : VK) (y : α) : Prop := ∀ v H', Sm T H H' → At (dif H' H) v y → Q v H'
/-- a thing is handed back, all else stays -/
def RetA {α : Type} [Rep α] (T : List (Addr × Str)) (H : Hp) (Q : VK) (y : α) : Prop := ∀ v H', Sm T H H' → At H' v y → Q v H'
section
variable {α : Type} [Rep α] {T : List (Addr × Str)} {H H1 H' : Hp} {Q : VK} {y : α}
theorem Ret.go (k : Ret T H Q y) (e : Sm T H H1) {v : V} (e2 : Sm T H1 H') (h : At (dif H' H1) v y) : Q v H' := k v H' (e.trans e2) (h.mono (e.dif (Kp.refl _)))
theorem new_at {v : V} (h : At (dif H' H) v y) : At H' v y := h.mono dif_kp
end

/-! ### defs by name -/
structure DefB (K : PySem.W.Frag) (mg : Str → Option Value) (x : Str) (st : Stmt) (ps : List Str) : Prop where
  ex : ∃ (f : Addr) (fd : FuncData), Def K mg x st f fd ∧ Binds K fd ps []
structure MetB (K : PySem.W.Frag) (C : Addr) (m qual : Str) (st : Stmt) (ps : List Str) : Prop where
  ex : ∃ (f : Addr) (fd : FuncData), Cls K C ∧ Meth K C m f ∧ C8.Fun K m qual st f fd ∧ Binds K fd ps []
structure MakB (K : PySem.W.Frag) (mg : Str → Option Value) (x qual : Str) (C : Addr) (st : Stmt) (ps : List Str) : Prop where
  ex : ∃ (f : Addr) (fd : FuncData), Mk K C f ∧ mg x = some (.ref C) ∧ C8.Fun K "__init__" qual st f fd ∧ Binds K fd ps []
section
variable {P : Program} {w : World} {K : PySem.W.Frag} {mg : Str → Option Value} {base : Heap}
/-- the body's task, for a def -/
abbrev BodyOf (P : Program) (w : World) (K : PySem.W.Frag) (mg : Str → Option Value) (base : Heap) (k : Nat) (N : List Str) (qual : Str) (st : Stmt) (sp : Sp) : Prop :=
  ∀ (f : Addr) (cdv : Value) (A : Around) (outer : List Env) (s : Shared) (H : Hp) (vs : List V) (Q : VK) (E : XK), Room k (A.deeper (envOfC qual (fnScope st) s.heap.objs.size f cdv)) → sp vs H Q E →
    ∃ t, PSs (cxOf C8.CX0 P w K mg base N qual (fnScope st) f cdv A outer s H E).nox (fnBody st) t ∧ t { nx := fun _ H' => Q .non H', rt := Q } (start N vs) H
theorem cal_of {x : Str} {st : Stmt} {N ps : List Str} {k : Nat} {sp : Sp} (F : DefB K mg x st ps) (S : FnScope N ps (fnScope st)) (len : ∀ vs H Q E, sp vs H Q E → vs.length = ps.length) (hbody : BodyOf P w K mg base k N x st sp) : Cal P w K mg base (k + 1) x sp [] := by
  obtain ⟨f, fd, F, b⟩ := F.ex
  exact cal0 F b .nil S len (hbody f)
theorem met_of {m qual : Str} {C : Addr} {st : Stmt} {N ps : List Str} {k : Nat} {sp : Sp} (F : MetB K C m qual st ps) (S : FnScope N ps (fnScope st)) (len : ∀ vs H Q E, sp vs H Q E → vs.length = ps.length) (hbody : BodyOf P w K mg base k N qual st sp) : Met P w K mg base (k + 1) C m sp [] := by
  obtain ⟨f, fd, c, me, F, b⟩ := F.ex
  exact met0 c me F b S len (hbody f)
theorem mak_of {x qual : Str} {C : Addr} {st : Stmt} {N ps : List Str} {k : Nat} {sp : Sp} (F : MakB K mg x qual C st ps) (S : FnScope N ps (fnScope st)) (len : ∀ vs H Q E, sp vs H Q E → vs.length = ps.length) (hbody : BodyOf P w K mg base k N qual st sp) : Mak P w K mg base (k + 1) x C sp [] := by
  obtain ⟨f, fd, M, hm, F, b⟩ := F.ex
  exact mak0 M hm F b .nil S len (hbody f)
end

/-! ### the text by places -/
def top (i : Nat) : Stmt := PySem.Challenge.pw_samegoing_k35_whole_planted_likeness.main.body.getD i (.Pass ⟨0, 0, 0, 0⟩)
/-- the built-ins' names are free -/
structure Gs (mg : Str → Option Value) : Prop where
  len : mg "len" = Option.none
  sorted : mg "sorted" = Option.none
  all : mg "all" = Option.none
  sum : mg "sum" = Option.none
  max : mg "max" = Option.none
  min : mg "min" = Option.none
  set : mg "set" = Option.none
  dict : mg "dict" = Option.none
  list : mg "list" = Option.none
  tuple : mg "tuple" = Option.none
  range : mg "range" = Option.none
  enumerate : mg "enumerate" = Option.none
  isinstance : mg "isinstance" = Option.none
  most_norm : ∃ t, mg "MOST_NORM" = some (.int 12 t)
  most_row_norm : ∃ t, mg "MOST_ROW_NORM" = some (.int 24 t)
  most_bag_norm : ∃ t, mg "MOST_BAG_NORM" = some (.int 16 t)
  small : ∃ t, mg "SMALL" = some (.str "abcdefghijklmnopqrstuvwxyz" t)
  most_names : ∃ t, mg "MOST_NAMES" = some (.int 6 t)
  most_rules : ∃ t, mg "MOST_RULES" = some (.int 4 t)
  most_row : ∃ t, mg "MOST_ROW" = some (.int 3 t)
end SG

set_option Elab.async false
set_option linter.all false
set_option maxRecDepth 100000
set_option maxHeartbeats 4000000
set_option autoImplicit false
/-! Calls of built-ins whose readings name K (so that they fit within comprehensions). -/
namespace SG
open PySem PySem.Spec PyProof.Rows L2 LamX C8
/-- slices -/
theorem cutV_from {xs : List V} {k : Nat} (h : k ≤ xs.length) : cutV xs (some (k : Int)) Option.none = xs.drop k := by
  unfold cutV
  rw [HT.sIx_nat, HT.sIx_none, Nat.min_eq_left h]
  rw [List.take_of_length_le (by rw [List.length_drop]; exact Nat.le_refl _)]
theorem cutV_to {xs : List V} {k : Nat} : cutV xs Option.none (some (k : Int)) = xs.take k := by
  unfold cutV
  rw [HT.sIx_nat, HT.sIx_none, List.drop_zero, Nat.sub_zero]
  by_cases h : k ≤ xs.length
  · rw [Nat.min_eq_left h]
  · rw [Nat.min_eq_right (by omega), List.take_of_length_le (Nat.le_refl _), List.take_of_length_le (by omega)]
/-- a comprehension without an if -/
theorem yes_if {A B : Hp → Prop} {σ : L2.St} {H : Hp} (h : A H) : tYes σ H (fun b H3 => if b = true then A H3 else B H3) := by
  show (if true = true then A H else B H)
  rw [if_pos rfl]
  exact h
section
variable {X : Cx} {e : Expr} {es : List Expr} {t : TA} {te : TE} {p pos : Pos}
def rListK (K : PySem.W.Frag) : List V → Hp → VK → Prop := fun xs H Q => ∃ p ys, xs = [V.ref p] ∧ (SqL K H p ys ∨ SqT K H p ys) ∧ ∀ l, H l = Option.none → Q (.ref l) (upd H l (.lst ys))
def rLenK (K : PySem.W.Frag) : List V → Hp → VK → Prop := fun xs H Q => ∃ p ys, xs = [V.ref p] ∧ (SqL K H p ys ∨ SqT K H p ys) ∧ Q (.int ys.length) H
theorem boot_list_ : bootBuiltins "list" = some (.type "list") := by decide +kernel
theorem boot_len_ : bootBuiltins "len" = some (.builtin "len") := by decide +kernel
theorem boot_sorted_ : bootBuiltins "sorted" = some (.builtin "sorted") := by decide +kernel
theorem boot_all_ : bootBuiltins "all" = some (.builtin "all") := by decide +kernel
theorem boot_sum_ : bootBuiltins "sum" = some (.builtin "sum") := by decide +kernel
theorem boot_max_ : bootBuiltins "max" = some (.builtin "max") := by decide +kernel
theorem boot_min_ : bootBuiltins "min" = some (.builtin "min") := by decide +kernel
theorem boot_dict_ : bootBuiltins "dict" = some (.type "dict") := by decide +kernel
theorem boot_set_ : bootBuiltins "set" = some (.type "set") := by decide +kernel
theorem boot_isinstance_ : bootBuiltins "isinstance" = some (.builtin "isinstance") := by decide +kernel
theorem boot_tuple_ : bootBuiltins "tuple" = some (.type "tuple") := by decide +kernel
theorem pe_listK (K : PySem.W.Frag) (hK : X.K = K) (hg : Gl X "list") (hm : X.mg "list" = Option.none) (ha : PA X (e :: es) t)
    (he : starEach (e :: es) X.env = (false, eval e X.env) :: starEach es X.env := by rfl) (hpl : (backTo pos (starEach es X.env)).any (·.1) = false := by rfl) : PE X (.Call (.Name "list" p) (e :: es) [] pos) (tCB (rListK K) t) := by
  subst hK
  exact pe_callTy call_list_of hg hm boot_list_ ha (he := he) (hpl := hpl)
theorem pe_lenK (K : PySem.W.Frag) (hK : X.K = K) (hg : Gl X "len") (hm : X.mg "len" = Option.none) (ha : PA X (e :: es) t)
    (he : starEach (e :: es) X.env = (false, eval e X.env) :: starEach es X.env := by rfl) (hpl : (backTo pos (starEach es X.env)).any (·.1) = false := by rfl) : PE X (.Call (.Name "len" p) (e :: es) [] pos) (tCB (rLenK K) t) := by
  subst hK
  exact pe_callB call_len_seq hg hm boot_len_ ha (he := he) (hpl := hpl)
theorem pe_allK (K : PySem.W.Frag) (hK : X.K = K) (hc : X.calm = true) (hg : Gl X "all") (hm : X.mg "all" = Option.none) (ha : PA X (e :: es) t)
    (he : starEach (e :: es) X.env = (false, eval e X.env) :: starEach es X.env := by rfl) (hpl : (backTo pos (starEach es X.env)).any (·.1) = false := by rfl) : PE X (.Call (.Name "all" p) (e :: es) [] pos) (tCB (rAll K) t) := by
  subst hK
  exact pe_callB (cr_all hc) hg hm boot_all_ ha (he := he) (hpl := hpl)
theorem pe_sumK (K : PySem.W.Frag) (hK : X.K = K) (hc : X.calm = true) (hg : Gl X "sum") (hm : X.mg "sum" = Option.none) (ha : PA X (e :: es) t)
    (he : starEach (e :: es) X.env = (false, eval e X.env) :: starEach es X.env := by rfl) (hpl : (backTo pos (starEach es X.env)).any (·.1) = false := by rfl) : PE X (.Call (.Name "sum" p) (e :: es) [] pos) (tCB (rSum K) t) := by
  subst hK
  exact pe_callB (cr_sum hc) hg hm boot_sum_ ha (he := he) (hpl := hpl)
theorem pe_fldK (K : PySem.W.Frag) (hK : X.K = K) {f : Str} (he : PE X e te) (hb : attributeBase e f X.env (eval e X.env) = eval e X.env) : PE X (.Attribute e f pos) (tFld K te f) := by
  subst hK
  exact pe_fld he hb
theorem sl_listK (K : PySem.W.Frag) (hK : X.K = K) : SlR X (rSlL K) := by
  subst hK
  exact sl_list
theorem ix_listK (K : PySem.W.Frag) (hK : X.K = K) : IxR X (rIxL K) := by
  subst hK
  exact ix_list
theorem ix_tupK (K : PySem.W.Frag) (hK : X.K = K) : IxR X (rIxT K) := by
  subst hK
  exact ix_tup
theorem pg_tup2K (K : PySem.W.Frag) (hK : X.K = K) (hc : X.calm = true) (hN : X.N.Nodup) {i j k : Nat} {x y : Str} {px py pt : Pos} (hi : X.N[i]? = some x) (hj : X.N[j]? = some y) (hx : Loc X.env.scope x) (hy : Loc X.env.scope y)
    (fx : X.fn x = true ∨ X.env.scope.names.lookup x = some .local) (fy : X.fn y = true ∨ X.env.scope.names.lookup y = some .local) : PG X (.Tuple [.Name x px, .Name y py] k pt) (gTup K 2 (gCons (gName i) (gCons (gName j) gNil))) := by
  subst hK
  exact pg_tup hc (pgs_cons (pg_name hN hi hx fx) (pgs_cons (pg_name hN hj hy fy) pgs_nil))
theorem pg_tup3K (K : PySem.W.Frag) (hK : X.K = K) (hc : X.calm = true) (hN : X.N.Nodup) {i j l k : Nat} {x y z : Str} {px py pz pt : Pos} (hi : X.N[i]? = some x) (hj : X.N[j]? = some y) (hl : X.N[l]? = some z) (hx : Loc X.env.scope x) (hy : Loc X.env.scope y) (hz : Loc X.env.scope z)
    (fx : X.fn x = true ∨ X.env.scope.names.lookup x = some .local) (fy : X.fn y = true ∨ X.env.scope.names.lookup y = some .local) (fz : X.fn z = true ∨ X.env.scope.names.lookup z = some .local) :
    PG X (.Tuple [.Name x px, .Name y py, .Name z pz] k pt) (gTup K 3 (gCons (gName i) (gCons (gName j) (gCons (gName l) gNil)))) := by
  subst hK
  exact pg_tup hc (pgs_cons (pg_name hN hi hx fx) (pgs_cons (pg_name hN hj hy fy) (pgs_cons (pg_name hN hl hz fz) pgs_nil)))
end
end SG

set_option Elab.async false
set_option linter.all false
set_option maxRecDepth 100000
set_option maxHeartbeats 4000000
set_option autoImplicit false
/-! The grammar's methods that tell. -/
namespace SG
open PySem PySem.Spec PyProof.Rows L2 LamX C8

theorem look_ne {f g : Str} {v : V} {fs : List (Str × V)} (h : ¬ g = f) : ((f, v) :: fs).lookup g = fs.lookup g := by
  rw [List.lookup_cons]
  have : (g == f) = false := by simpa using h
  rw [this]
theorem look_eq {f : Str} {v : V} {fs : List (Str × V)} : ((f, v) :: fs).lookup f = some v := by
  rw [List.lookup_cons]
  simp

/-- a grammar's data -/
structure Gr where
  names : List Str
  stored : List (Str × List (Str × List Str))
def gfs (kn d od : Addr) : List (Str × V) := [("known", .ref kn), ("stored", .ref d), ("order", .ref od)]
theorem gfs_known (kn d od : Addr) : (gfs kn d od).lookup ("known" : Str) = some (.ref kn) := look_eq
theorem gfs_stored (kn d od : Addr) : (gfs kn d od).lookup ("stored" : Str) = some (.ref d) := by
  unfold gfs
  rw [look_ne (by decide +kernel), look_eq]
theorem gfs_order (kn d od : Addr) : (gfs kn d od).lookup ("order" : Str) = some (.ref od) := by
  unfold gfs
  rw [look_ne (by decide +kernel), look_ne (by decide +kernel), look_eq]
theorem gfs_no (kn d od : Addr) {m : Str} (h1 : ¬ m = "known") (h2 : ¬ m = "stored") (h3 : ¬ m = "order") : (gfs kn d od).lookup m = Option.none := by
  unfold gfs
  rw [look_ne h1, look_ne h2, look_ne h3]
  rfl
/-- a grammar stands at v -/
def GrAt (C : Addr) (H : Hp) (v : V) (g : Gr) : Prop := ∃ p dx kn d od, v = .ref p ∧ H p = some (.ins C dx (gfs kn d od)) ∧ At H (.ref kn) g.names ∧ At H (.ref d) (Dct.mk g.stored)
theorem GrAt.mono {C : Addr} {H H' : Hp} {v : V} {g : Gr} (k : Kp H H') (h : GrAt C H v g) : GrAt C H' v g := by
  obtain ⟨p, dx, kn, d, od, e, h1, h2, h3⟩ := h
  exact ⟨p, dx, kn, d, od, e, k p _ h1 (fun _ z => nomatch z), h2.mono k, h3.mono k⟩

/-- the class Grammar as the top has made it -/
structure GCls (K : PySem.W.Frag) (C : Addr) : Prop where
  cl : Cls K C
  nK : NoAttr K C "known"
  nS : NoAttr K C "stored"
  nO : NoAttr K C "order"

abbrev sGram : Stmt := top 46
abbrev sNames : Stmt := inClass sGram 2
abbrev sHas : Stmt := inClass sGram 3
abbrev sRulesOf : Stmt := inClass sGram 4

def spNames (T : List (Addr × Str)) (C : Addr) : Sp := fun vs H Q _ => ∃ (v : V) (g : Gr), vs = [v] ∧ GrAt C H v g ∧ Ret T H Q g.names
def spHas (C : Addr) : Sp := fun vs H Q _ => ∃ (v : V) (g : Gr) (x : Str), vs = [v, .str x] ∧ GrAt C H v g ∧ Q (.bl (dlk g.stored x).isSome) H
def spRulesOf (T : List (Addr × Str)) (C : Addr) : Sp := fun vs H Q _ => ∃ (v : V) (g : Gr) (x : Str) (rs : List (Str × List Str)), vs = [v, .str x] ∧ GrAt C H v g ∧ dlk g.stored x = some rs ∧ rs.length ≤ 100000 ∧ Ret T H Q rs

section
variable {P : Program} {w : World} {K : PySem.W.Frag} {mg : Str → Option Value} {base : Heap} {T : List (Addr × Str)} {C : Addr}
theorem scNames : FnScope ["self"] ["self"] (fnScope sNames) := fnScope_by (by decide +kernel)
theorem met_names (X : Gs mg) (G : GCls K C) (F : MetB K C "names" "Grammar.names" sNames ["self"]) : Met P w K mg base 1 C "names" (spNames T C) [] := by
  refine met_of F scNames (fun vs H Q E h => ?_) (fun f cdv A outer s H vs Q E hr h => ?_)
  · obtain ⟨v, g, rfl, _⟩ := h
    rfl
  · obtain ⟨v, g, rfl, ⟨p, dx, kn, d, od, rfl, h1, h2, h3⟩, k⟩ := h
    obtain ⟨_, ns, e, hk, hns⟩ := h2
    cases e
    -- return list(self.known)
    refine ⟨_, pss_one (ps_ret (pe_callTy call_list_of (by rfl) X.list (by decide +kernel) (pa_cons (pe_fld (pv 0) rfl) pa_nil))), ?_⟩
    refine ⟨_, rfl, p, C, dx, _, _, rfl, h1, G.cl, G.nK, gfs_known _ _ _, kn, ns, rfl, .inl (SqL.of hk), fun l hl => ?_⟩
    exact k _ _ (Sm.new hl) ⟨l, ns, rfl, by rw [dif_new hl, upd_same], by rw [strs_at] at hns ⊢; exact hns⟩
theorem scHas : FnScope ["self", "name"] ["self", "name"] (fnScope sHas) := fnScope_by (by decide +kernel)
theorem met_has (X : Gs mg) (G : GCls K C) (F : MetB K C "has" "Grammar.has" sHas ["self", "name"]) : Met P w K mg base 1 C "has" (spHas C) [] := by
  refine met_of F scHas (fun vs H Q E h => ?_) (fun f cdv A outer s H vs Q E hr h => ?_)
  · obtain ⟨v, g, x, rfl, _⟩ := h
    rfl
  · obtain ⟨v, g, x, rfl, ⟨p, dx, kn, d, od, rfl, h1, h2, h3⟩, k⟩ := h
    obtain ⟨_, e, _, hd⟩ := h3.dlk x
    cases e
    have hu := hu_of hr
    -- return name in self.stored
    refine ⟨_, pss_one (ps_ret (pe_cmp (pc_din hu (pv 1) (pe_fld (pv 0) rfl)))), ?_⟩
    cases e : dlk g.stored x with
    | none =>
      rw [e] at hd k
      exact ⟨_, rfl, _, rfl, p, C, dx, _, _, rfl, h1, G.cl, G.nS, gfs_stored _ _ _, d, _, rfl, hd, k⟩
    | some r =>
      rw [e] at hd k
      obtain ⟨u, hd, _⟩ := hd
      exact ⟨_, rfl, _, rfl, p, C, dx, _, _, rfl, h1, G.cl, G.nS, gfs_stored _ _ _, d, _, rfl, hd, k⟩
theorem scRulesOf : FnScope ["self", "name", "letter", "row"] ["self", "name"] (fnScope sRulesOf) := fnScope_by (by decide +kernel)
theorem met_rules_of (X : Gs mg) (G : GCls K C) (F : MetB K C "rules_of" "Grammar.rules_of" sRulesOf ["self", "name"]) : Met P w K mg base 1 C "rules_of" (spRulesOf T C) [] := by
  refine met_of F scRulesOf (fun vs H Q E h => ?_) (fun f cdv A outer s H vs Q E hr h => ?_)
  · obtain ⟨v, g, x, rs, rfl, _⟩ := h
    rfl
  · obtain ⟨v, g, x, rs, rfl, ⟨p, dx, kn, d, od, rfl, h1, h2, h3⟩, hrs, hlen, k⟩ := h
    obtain ⟨_, e, _, hd⟩ := h3.dlk x
    cases e
    have hu := hu_of hr
    rw [hrs] at hd
    obtain ⟨u, hd, a, vs, rfl, ha, hvs⟩ := hd
    -- return [(letter, list(row)) for letter, row in self.stored[name]]
    refine ⟨_, pss_one (ps_ret (pe_lc (own := [("letter", 2), ("row", 3)]) rfl scRulesOf.nd (pi_list (pe_dget hu (pe_fld (pv 0) rfl) (pv 1) (fun _ _ => rfl)))
      (blkOk_by (N := ["self", "name", "letter", "row"]) (sc := fnScope sRulesOf) (by decide +kernel))
      (fun _ _ _ _ _ => pg_tup2K K rfl rfl scRulesOf.nd (i := 2) (j := 3) rfl rfl (.inl rfl) (.inl rfl) (.inr rfl) (.inr rfl))
      (fun _ _ _ _ _ => pts_nil) (fun _ _ _ _ _ => pe_tup (pa_cons (pv 2) (pa_cons (pe_listK K rfl rfl X.list (pa_cons (pv 3) pa_nil)) pa_nil))))), ?_⟩
    refine ⟨_, rfl, p, C, dx, _, _, rfl, h1, G.cl, G.nS, gfs_stored _ _ _, _, rfl, d, _, rfl, hd, a, rfl, ⟨_, SqL.of ha⟩, fun D hD => ?_⟩
    refine lc_rep T H some hD (fun _ z => z) ha hvs hlen (fun i v y H1 hi hat q hDn Ky Kn ky kn => ?_) (fun H1 ys q h1 hA => ?_)
    · obtain ⟨b, u, z, rfl, hb, hu', c, zs, rfl, hc, hzs⟩ := hat
      refine ⟨b, _, rfl, SqT.of (q.tup hb), rfl, _, _, rfl, _, _, rfl, rfl, rfl, yes_if ?_⟩
      refine ⟨_, rfl, _, rfl, c, zs, rfl, .inl (SqL.of (q.lst hc)), fun l hl => ⟨by show 2 ≤ sizeLine; decide, fun t ht => ?_⟩⟩
      have lt : l ≠ t := ne_of_none upd_same ht
      have htn : H1 t = Option.none := by rw [upd_ne lt.symm] at ht; exact ht
      refine ky _ y _ rfl ((Sm.new hl).trans (Sm.new ht)) (At.mono (H := dif (upd (upd H1 l (.lst zs)) t (.tup [u, .ref l])) H1) ⟨t, u, .ref l, rfl, by rw [dif_new htn, upd_same], hu', l, zs, rfl, by rw [dif_new hl, upd_ne lt, upd_same], by rw [strs_at] at hzs ⊢; exact hzs⟩ (kp_new q hDn (Kp.refl _)))
    · rw [List.filterMap_some] at hA
      exact k _ _ q (lc_new h1 hD hA)
end
end SG

set_option Elab.async false
set_option linter.all false
set_option maxRecDepth 100000
set_option maxHeartbeats 4000000
set_option autoImplicit false
/-! Steps sorted, each once: by what stands in them alone. -/
namespace SG
open PySem PySem.W
class TOrd (α : Type) [DecidableEq α] [DatumOrd α] : Prop where
  irr : ∀ a : α, DatumOrd.lt a a = false
  tr : ∀ a b c : α, DatumOrd.lt a b = true → DatumOrd.lt b c = true → DatumOrd.lt a c = true
  tri : ∀ a b : α, DatumOrd.lt a b = false → DatumOrd.lt b a = false → a = b
theorem str_ext {x y : Str} (h : x.cps.toList = y.cps.toList) : x = y := by
  cases x with
  | mk a =>
    cases y with
    | mk b =>
      have : a = b := Array.toList_inj.mp h
      rw [this]
instance : TOrd Str where
  irr a := by
    show decide (a.cps.toList < a.cps.toList) = false
    exact decide_eq_false (List.lt_irrefl _)
  tr a b c h k := by
    have h : decide (a.cps.toList < b.cps.toList) = true := h
    have k : decide (b.cps.toList < c.cps.toList) = true := k
    show decide (a.cps.toList < c.cps.toList) = true
    exact decide_eq_true (List.lt_trans (of_decide_eq_true h) (of_decide_eq_true k))
  tri a b h k := by
    have h : decide (a.cps.toList < b.cps.toList) = false := h
    have k : decide (b.cps.toList < a.cps.toList) = false := k
    exact str_ext (List.le_antisymm (List.not_lt.mp (of_decide_eq_false k)) (List.not_lt.mp (of_decide_eq_false h)))
section
variable {α β : Type} [DecidableEq α] [DatumOrd α] [TOrd α] [DecidableEq β] [DatumOrd β] [TOrd β]
theorem listLt_irr : ∀ a : List α, listLt a a = false
  | [] => rfl
  | x :: xs => by rw [listLt, if_pos rfl]; exact listLt_irr xs
theorem listLt_tr : ∀ a b c : List α, listLt a b = true → listLt b c = true → listLt a c = true
  | [], [], _, h, _ => by cases h
  | [], _ :: _, [], _, k => by cases k
  | [], _ :: _, _ :: _, _, _ => rfl
  | _ :: _, [], _, h, _ => by cases h
  | _ :: _, _ :: _, [], _, k => by cases k
  | x :: xs, y :: ys, z :: zs, h, k => by
    rw [listLt] at h k ⊢
    by_cases e1 : x = y
    · subst e1
      rw [if_pos rfl] at h
      by_cases e2 : x = z
      · rw [if_pos e2] at k ⊢
        exact listLt_tr xs ys zs h k
      · rw [if_neg e2] at k ⊢
        exact k
    · rw [if_neg e1] at h
      by_cases e2 : y = z
      · subst e2
        rw [if_neg e1]
        exact h
      · rw [if_neg e2] at k
        have := TOrd.tr x y z h k
        by_cases e3 : x = z
        · subst e3
          rw [TOrd.irr] at this
          cases this
        · rw [if_neg e3]
          exact this
theorem listLt_tri : ∀ a b : List α, listLt a b = false → listLt b a = false → a = b
  | [], [], _, _ => rfl
  | [], _ :: _, h, _ => by cases h
  | _ :: _, [], _, k => by cases k
  | x :: xs, y :: ys, h, k => by
    rw [listLt] at h k
    by_cases e : x = y
    · subst e
      rw [if_pos rfl] at h k
      rw [listLt_tri xs ys h k]
    · rw [if_neg e] at h
      rw [if_neg (Ne.symm e)] at k
      exact absurd (TOrd.tri x y h k) e
instance : TOrd (List α) := ⟨listLt_irr, listLt_tr, listLt_tri⟩
theorem pair_lt (p q : α × β) : DatumOrd.lt p q = if p.1 = q.1 then DatumOrd.lt p.2 q.2 else DatumOrd.lt p.1 q.1 := rfl
instance : TOrd (α × β) where
  irr a := by rw [pair_lt, if_pos rfl, TOrd.irr]
  tr a b c h k := by
    rw [pair_lt] at h k ⊢
    by_cases e1 : a.1 = b.1
    · rw [if_pos e1] at h
      by_cases e2 : b.1 = c.1
      · rw [if_pos e2] at k
        rw [if_pos (e1.trans e2)]
        exact TOrd.tr _ _ _ h k
      · rw [if_neg e2] at k
        rw [if_neg (fun z => e2 (e1.symm.trans z)), e1]
        exact k
    · rw [if_neg e1] at h
      by_cases e2 : b.1 = c.1
      · rw [if_neg (fun z => e1 (z.trans e2.symm)), ← e2]
        exact h
      · rw [if_neg e2] at k
        have := TOrd.tr _ _ _ h k
        by_cases e3 : a.1 = c.1
        · rw [e3, TOrd.irr] at this
          cases this
        · rw [if_neg e3]
          exact this
  tri a b h k := by
    rw [pair_lt] at h k
    by_cases e : a.1 = b.1
    · rw [if_pos e] at h
      rw [if_pos e.symm] at k
      exact Prod.ext e (TOrd.tri _ _ h k)
    · rw [if_neg e] at h
      rw [if_neg (Ne.symm e)] at k
      exact absurd (TOrd.tri _ _ h k) e
end

section
variable {α : Type} [DecidableEq α] [DatumOrd α] [TOrd α]
def once1 (acc : List α) (s : α) : List α := if acc = [] ∨ acc.getLast? ≠ some s then acc ++ [s] else acc
/-- steps, sorted already, each once -/
def eachOnce (xs : List α) : List α := xs.foldl once1 []
abbrev le_ (a b : α) : Bool := dataLe false Datum.toD a b
theorem le_eq (a b : α) : le_ a b = !DatumOrd.lt b a := by
  show (!dataLt (Datum.toD b) (Datum.toD a)) = _
  rw [DatumOrd.lt_eq]
theorem lt_asymm {a b : α} (h : DatumOrd.lt a b = true) : DatumOrd.lt b a = false := by
  cases e : DatumOrd.lt b a with
  | false => rfl
  | true =>
    have := TOrd.tr a b a h e
    rw [TOrd.irr] at this
    cases this
theorem le_tr (a b c : α) (h : le_ a b = true) (k : le_ b c = true) : le_ a c = true := by
  rw [le_eq, Bool.not_eq_true'] at h k ⊢
  cases e : DatumOrd.lt c a with
  | false => rfl
  | true =>
    exfalso
    cases e2 : DatumOrd.lt a b with
    | true =>
      have := TOrd.tr c a b e e2
      rw [k] at this
      cases this
    | false =>
      have := TOrd.tri a b e2 h
      rw [this] at e
      rw [k] at e
      cases e
theorem le_tot (a b : α) : (le_ a b || le_ b a) = true := by
  rw [le_eq, le_eq]
  cases e : DatumOrd.lt b a with
  | false => rfl
  | true => rw [lt_asymm e]; rfl
theorem srt_perm (xs : List α) : (srt α xs).Perm xs := List.mergeSort_perm _ _
theorem srt_up (xs : List α) : (srt α xs).Pairwise fun a b => le_ a b = true := List.pairwise_mergeSort (le := le_) le_tr le_tot xs
theorem once_ok : ∀ (xs acc : List α), xs.Pairwise (fun a b => le_ a b = true) → acc.Pairwise (fun a b => DatumOrd.lt a b = true) → (∀ a ∈ acc, ∀ x ∈ xs, le_ a x = true) →
    (xs.foldl once1 acc).Pairwise (fun a b => DatumOrd.lt a b = true) ∧ ∀ p, p ∈ xs.foldl once1 acc ↔ p ∈ acc ∨ p ∈ xs
  | [], acc, _, h, _ => ⟨h, fun p => by simp⟩
  | x :: xs, acc, hx, h, hc => by
    rw [List.foldl_cons]
    obtain ⟨hx1, hx2⟩ := List.pairwise_cons.mp hx
    by_cases e : acc = [] ∨ acc.getLast? ≠ some x
    · have e1 : once1 acc x = acc ++ [x] := if_pos e
      rw [e1]
      have hlt : ∀ a ∈ acc, DatumOrd.lt a x = true := by
        intro a ha
        have h1 := hc a ha x List.mem_cons_self
        rw [le_eq, Bool.not_eq_true'] at h1
        cases q : DatumOrd.lt a x with
        | true => rfl
        | false =>
          exfalso
          have eq := TOrd.tri a x q h1
          subst eq
          rcases e with e | e
          · rw [e] at ha; cases ha
          · have hne : acc ≠ [] := fun z => by rw [z] at ha; cases ha
            have hl := List.getLast?_eq_some_getLast hne
            have hlast := List.getLast_mem hne
            have h2 := hc _ hlast a List.mem_cons_self
            rw [le_eq, Bool.not_eq_true'] at h2
            apply e
            rw [hl]
            congr 1
            -- the last one is no less than a
            obtain ⟨s1, s2, es⟩ := List.append_of_mem ha
            cases s2 with
            | nil => simp [es]
            | cons y ys =>
              exfalso
              rw [es] at h
              have h3 := (List.pairwise_cons.mp (List.pairwise_append.mp h).2.1).1
              have hl2 : acc.getLast hne ∈ y :: ys := by
                have : acc.getLast hne = (y :: ys).getLast (List.cons_ne_nil _ _) := by simp [es]
                rw [this]
                exact List.getLast_mem _
              have h4 := h3 _ hl2
              rw [h2] at h4
              cases h4
      obtain ⟨k1, k2⟩ := once_ok xs (acc ++ [x]) hx2 (List.pairwise_append.mpr ⟨h, List.pairwise_singleton _ _, fun a ha b hb => by rw [List.mem_singleton.mp hb]; exact hlt a ha⟩) (fun a ha y hy => by
        rcases List.mem_append.mp ha with ha | ha
        · exact hc a ha y (List.mem_cons_of_mem _ hy)
        · rw [List.mem_singleton.mp ha]; exact hx1 y hy)
      refine ⟨k1, fun p => ?_⟩
      rw [k2]
      simp [or_assoc]
    · have e1 : once1 acc x = acc := if_neg e
      rw [e1]
      obtain ⟨k1, k2⟩ := once_ok xs acc hx2 h (fun a ha y hy => hc a ha y (List.mem_cons_of_mem _ hy))
      refine ⟨k1, fun p => ?_⟩
      rw [k2]
      have hxa : x ∈ acc := by
        have : acc.getLast? = some x := Classical.byContradiction fun z => e (.inr z)
        exact List.mem_of_getLast? this
      constructor
      · rintro (q | q)
        · exact .inl q
        · exact .inr (List.mem_cons_of_mem _ q)
      · rintro (q | q)
        · exact .inl q
        · rcases List.mem_cons.mp q with rfl | q
          · exact .inl hxa
          · exact .inr q
theorem strict_eq : ∀ (xs ys : List α), xs.Pairwise (fun a b => DatumOrd.lt a b = true) → ys.Pairwise (fun a b => DatumOrd.lt a b = true) → (∀ p, p ∈ xs ↔ p ∈ ys) → xs = ys
  | [], [], _, _, _ => rfl
  | [], y :: ys, _, _, h => absurd ((h y).mpr List.mem_cons_self) (by simp)
  | x :: xs, [], _, _, h => absurd ((h x).mp List.mem_cons_self) (by simp)
  | x :: xs, y :: ys, hx, hy, h => by
    obtain ⟨x1, x2⟩ := List.pairwise_cons.mp hx
    obtain ⟨y1, y2⟩ := List.pairwise_cons.mp hy
    have e : x = y := by
      rcases List.mem_cons.mp ((h x).mp List.mem_cons_self) with e | e
      · exact e
      · rcases List.mem_cons.mp ((h y).mpr List.mem_cons_self) with e' | e'
        · exact e'.symm
        · have a := y1 x e
          have b := x1 y e'
          rw [lt_asymm a] at b
          cases b
    subst e
    congr 1
    refine strict_eq xs ys x2 y2 fun p => ?_
    constructor
    · intro q
      rcases List.mem_cons.mp ((h p).mp (List.mem_cons_of_mem _ q)) with e | e
      · subst e
        have := x1 p q
        rw [TOrd.irr] at this
        cases this
      · exact e
    · intro q
      rcases List.mem_cons.mp ((h p).mpr (List.mem_cons_of_mem _ q)) with e | e
      · subst e
        have := y1 p q
        rw [TOrd.irr] at this
        cases this
      · exact e
end
abbrev Step := Str × List Str
/-- sorted, each once -/
def cn (xs : List Step) : List Step := eachOnce (srt Step xs)
theorem cn_ok (xs : List Step) : (cn xs).Pairwise (fun a b => DatumOrd.lt a b = true) ∧ ∀ p, p ∈ cn xs ↔ p ∈ xs := by
  obtain ⟨h1, h2⟩ := once_ok (srt Step xs) [] (srt_up xs) List.Pairwise.nil (fun a h => nomatch h)
  refine ⟨h1, fun p => ?_⟩
  have : p ∈ cn xs ↔ p ∈ ([] : List Step) ∨ p ∈ srt Step xs := h2 p
  rw [this, (srt_perm xs).mem_iff]
  simp
theorem canon : Canon cn := ⟨fun xs => (cn_ok xs).2, fun xs ys h => strict_eq _ _ (cn_ok xs).1 (cn_ok ys).1 fun p => by rw [(cn_ok xs).2, (cn_ok ys).2]; exact h p⟩
theorem cn_len (xs : List Step) : (cn xs).length ≤ xs.length := by
  have nd : (cn xs).Nodup := (cn_ok xs).1.imp (fun {a b} h e => by rw [e, TOrd.irr] at h; cases h)
  exact nd.length_le_of_subset fun p hp => ((cn_ok xs).2 p).mp hp
end SG

set_option Elab.async false
set_option linter.all false
set_option maxRecDepth 100000
set_option maxHeartbeats 4000000
set_option autoImplicit false
/-! steps: look_at_names, each_once, row_steps, steps_of. -/
namespace SG
open PySem PySem.Spec PyProof.Rows L2 LamX C8

/-- the grammar of the plain law -/
def Gr.gm (g : Gr) : Gm Str Str := ⟨g.names, fun X => (dlk g.stored X).getD []⟩
/-- a row's names are the grammar's -/
def Kn (g : Gr) (row : List Str) : Prop := ∀ x ∈ row, (dlk g.stored x).isSome = true
/-- the grammar is small: so are all lists that are made -/
structure GSm (g : Gr) : Prop where
  few : ∀ X rs, dlk g.stored X = some rs → rs.length ≤ 1000
  short : ∀ X rs, dlk g.stored X = some rs → ∀ r ∈ rs, r.2.length ≤ 1000
  cl : ∀ X rs, dlk g.stored X = some rs → ∀ r ∈ rs, Kn g r.2
  keys : g.stored.map (·.1) = g.names
  nd : g.names.Nodup
  many : g.names.length ≤ 1000

abbrev sLook : Stmt := top 7
abbrev sOnce : Stmt := top 8
abbrev sRowSteps : Stmt := top 9
abbrev sStepsOf : Stmt := top 11

def spLook (C : Addr) : Sp := fun vs H Q _ => ∃ (v u : V) (g : Gr) (row : List Str), vs = [v, u] ∧ GrAt C H v g ∧ At H u row ∧ Kn g row ∧ Q .non H
def spOnce (T : List (Addr × Str)) : Sp := fun vs H Q _ => ∃ (a : Addr) (ws : List V) (G : Hp) (xs : List Step), vs = [.ref a] ∧ H a = some (.lst ws) ∧ AllAt G ws xs ∧ Kp G H ∧ xs.length ≤ 100000 ∧
  ∀ (us : List V) (p : Addr) (H' : Hp), Sm T H H' → H p = Option.none → H' p = some (.lst us) → AllAt G us (cn xs) → Q (.ref p) H'

section
variable {P : Program} {w : World} {K : PySem.W.Frag} {mg : Str → Option Value} {base : Heap} {T : List (Addr × Str)} {C : Addr}
theorem scLook : FnScope ["grammar", "row", "name"] ["grammar", "row"] (fnScope sLook) := fnScope_by (by decide +kernel)
theorem cal_look (X : Gs mg) (cHas : Met P w K mg base 1 C "has" (spHas C) []) (F : DefB K mg "look_at_names" sLook ["grammar", "row"]) : Cal P w K mg base 2 "look_at_names" (spLook C) [] := by
  refine cal_of F scLook (fun vs H Q E h => ?_) (fun f cdv A outer s H vs Q E hr h => ?_)
  · obtain ⟨v, u, g, row, rfl, _⟩ := h
    rfl
  · obtain ⟨v, u, g, row, rfl, hg, hrow, kn, k⟩ := h
    obtain ⟨a, rfl, ha⟩ := hrow.strs
    -- for name in row: if not grammar.has(name): raise NoName(name)
    refine ⟨_, pss_one (ps_for PassesOwn.never rfl (pi_list (pv 1)) (pg_name (i := 2) scLook.nd rfl (Or.inl rfl))
      (pss_one (ps_if (pt_not (pt_val (pe_mt cHas hr (Nat.le_refl _) (pv 0) (pa_cons (pv 2) pa_nil)))) (pss_one ps_never) pss_nil))), ?_⟩
    refine ⟨_, rfl, a, rfl, ⟨_, SqL.of ha⟩, for_list (K := K) (a := a) (xs := row.map V.str) (fun i σ H' => H' = H ∧ ∃ z, σ = [some v, some (.ref a), z]) ⟨rfl, _, rfl⟩ (fun i σ H' _ h => by rw [h.1]; exact SqL.of ha) ?_ ?_⟩
    · rintro i y σ H' hi ⟨rfl, z, rfl⟩
      rw [List.getElem?_map] at hi
      obtain ⟨x, hx, rfl⟩ := Option.map_eq_some_iff.mp hi
      have hk := kn x (List.mem_of_getElem? hx)
      obtain ⟨p, dx, kn', d, od, rfl, h1, _⟩ := id hg
      refine ⟨_, rfl, p, dx, _, rfl, h1, gfs_no _ _ _ (by decide +kernel) (by decide +kernel) (by decide +kernel), _, rfl, _, g, x, rfl, hg, ?_⟩
      rw [hk]
      exact ⟨true, rfl, iteF ⟨rfl, _, rfl⟩⟩
    · rintro σ H' ⟨rfl, _⟩
      exact k
theorem scOnce : FnScope ["steps", "found", "step"] ["steps"] (fnScope sOnce) := fnScope_by (by decide +kernel)
theorem alike_steps (a b : Step) : PySem.W.alike (PySem.W.Datum.toD a) (PySem.W.Datum.toD b) = true := PySem.W.DatumOrd.alike a b
theorem sortable_steps (bs : List Step) : PySem.W.Sortable (bs.map PySem.W.Datum.toD) := .inl fun d hd => by
  obtain ⟨b, _, rfl⟩ := List.mem_map.mp hd
  exact ⟨_, _, rfl⟩
theorem cal_once (X : Gs mg) (F : DefB K mg "each_once" sOnce ["steps"]) : Cal P w K mg base 1 "each_once" (spOnce T) [] := by
  refine cal_of F scOnce (fun vs H Q E h => ?_) (fun f cdv A outer s H vs Q E hr h => ?_)
  · obtain ⟨a, ws, G, xs, rfl, _⟩ := h
    rfl
  · obtain ⟨a, ws, G, xs, rfl, ha, hws, kp, hlen, k⟩ := h
    have hu := hu_of hr
    have hu64 := hr.units
    -- found = []; for step in sorted(steps): if found == [] or found[-1] != step: found.append(step); return found
    refine ⟨_, pss_cons (ps_set (i := 1) scOnce.nd rfl (Or.inl rfl) (pe_lst pa_nil))
      (pss_cons (ps_for PassesOwn.never rfl (pi_list (pe_callB (cr_sortT Step alike_steps sortable_steps hu64) (by rfl) X.sorted boot_sorted_ (pa_cons (pv 0) pa_nil))) (pg_name (i := 2) scOnce.nd rfl (Or.inl rfl))
        (pss_one (ps_if (PW.pt (pw_or (pt_cmpR (op_eqT (List Step) hu64) (pv 1) (pe_lst pa_nil) (nomark _)) (pw_or1 (pt_cmpR (op_neT Step hu64) (pe_ix ix_list (pv 1) (pe_un un_neg pe_int) (fun _ _ => rfl)) (pv 2) (nomark _)))))
          (pss_one (ps_expr (pe_bm PySem.F.plainAttrs_list PySem.F.slot_list_append PySem.F.type_list_append mt_append (pv 1) (pa_cons (pv 2) pa_nil)))) pss_nil)))
      (pss_one (ps_ret (pv 1)))), ?_⟩
    refine ⟨Nat.zero_le _, fun D hD => ?_⟩
    have kD : Kp G (upd H D (.lst [])) := kp.trans (Sm.new (T := T) hD).kp
    refine ⟨_, rfl, G, a, ws, xs, rfl, by rw [upd_ne (ne_of_none ha hD)]; exact ha, hws, kD, hlen, fun p us hp hus => ?_⟩
    have hDp : D ≠ p := ne_of_none upd_same hp
    have hp0 : H p = Option.none := by rw [upd_ne hDp.symm] at hp; exact hp
    have hul := hus.length
    refine ⟨p, rfl, ⟨us, SqL.of upd_same⟩, for_list (K := K) (a := p) (xs := us) (fun i σ H' => Sm T H H' ∧ H' p = some (.lst us) ∧ (∃ z, σ = [some (.ref a), some (.ref D), z]) ∧ ∃ ys, H' D = some (.lst ys) ∧ ys.length ≤ i ∧ AllAt G ys (((srt Step xs).take i).foldl once1 []))
      ⟨(Sm.new hD).trans (Sm.new hp), upd_same, ⟨_, rfl⟩, [], by rw [upd_ne hDp, upd_same], Nat.zero_le _, True.intro⟩ (fun i σ H' _ h => SqL.of h.2.1) ?_ ?_⟩
    · rintro i v σ H' hi ⟨sm, hp', ⟨z, rfl⟩, ys, hys, hl, hA⟩
      obtain ⟨x, hxi, hat⟩ := hus.getV hi
      have hil : i < us.length := (List.getElem?_eq_some_iff.mp hi).1
      have et : (srt Step xs).take (i + 1) = (srt Step xs).take i ++ [x] := by
        rw [List.take_add_one, hxi]
        rfl
      have hlen2 : us.length ≤ 100000 := by rw [hul, (srt_perm xs).length_eq]; exact hlen
      have kp' : Kp G H' := kp.trans sm.kp
      have app : ∀ H2, Sm T H H2 → H2 p = some (.lst us) → H2 D = some (.lst ys) → once1 (((srt Step xs).take i).foldl once1 []) x = ((srt Step xs).take i).foldl once1 [] ++ [x] →
          (tDrop (tBM K "list" rAppend (tVar 1) (tCons (tVar 2) tNil))) { nx := (fun i σ H' => Sm T H H' ∧ H' p = some (.lst us) ∧ (∃ z, σ = [some (.ref a), some (.ref D), z]) ∧ ∃ ys, H' D = some (.lst ys) ∧ ys.length ≤ i ∧ AllAt G ys (((srt Step xs).take i).foldl once1 [])) (i + 1), rt := Q } [some (.ref a), some (.ref D), some v] H2 := fun H2 sm2 hp2 hD2 e => by
        refine ⟨_, rfl, .inl ⟨rfl, _, SqL.of hD2⟩, _, rfl, D, _, _, rfl, rfl, hD2, Nat.lt_of_lt_of_le (Nat.lt_of_le_of_lt hl hil) (Nat.le_trans hlen2 (by decide)), sm2.mut hD hD2 True.intro, by rw [upd_ne hDp.symm]; exact hp2, ⟨_, rfl⟩, ys ++ [v], upd_same, by rw [List.length_append]; exact Nat.succ_le_succ hl, ?_⟩
        rw [et, List.foldl_append, List.foldl_cons, List.foldl_nil, e]
        exact hA.snoc hat
      refine ⟨_, rfl, Nat.zero_le _, fun q hq => ?_⟩
      have smq : Sm T H (upd H' q (.lst [])) := sm.trans (Sm.new hq)
      have hpq : (upd H' q (.lst [])) p = some (.lst us) := by rw [upd_ne (ne_of_none hp' hq)]; exact hp'
      have hDq : (upd H' q (.lst [])) D = some (.lst ys) := by rw [upd_ne (ne_of_none hys hq)]; exact hys
      refine ⟨((srt Step xs).take i).foldl once1 [], [], ⟨D, ys, rfl, hDq, hA.mono (kp'.trans (Sm.new (T := T) hq).kp)⟩, ⟨q, [], rfl, upd_same, True.intro⟩, _, rfl, ?_⟩
      by_cases e0 : ((srt Step xs).take i).foldl once1 [] = []
      · rw [decide_eq_true e0]
        exact iteT (app _ smq hpq hDq (if_pos (.inl e0)))
      · rw [decide_eq_false e0]
        have e0' : ((srt Step xs).take i).foldl once1 [] ≠ ([] : List Step) := e0
        have hne : ys ≠ [] := fun z => e0 (List.length_eq_zero_iff.mp (by rw [← hA.length, z]; rfl))
        obtain ⟨u, hu1, hu2⟩ := hA.get (i := (((srt Step xs).take i).foldl once1 []).length - 1) (x := (((srt Step xs).take i).foldl once1 []).getLast e0') (by rw [List.getLast_eq_getElem]; exact List.getElem?_eq_getElem _)
        have hul2 : ys.getLast hne = u := by
          rw [List.getLast_eq_getElem]
          have := List.getElem?_eq_some_iff.mp hu1
          obtain ⟨q1, q2⟩ := this
          rw [← q2]
          congr 1
          rw [hA.length]
        have hlast : atI ys (-1) = some u := by
          rw [← List.dropLast_concat_getLast hne, hul2]
          exact atI_last _ _
        refine iteF ⟨_, rfl, ⟨1, rfl, D, ys, -1, u, rfl, rfl, SqL.of hDq, hlast, _, rfl, (((srt Step xs).take i).foldl once1 []).getLast e0', x, hu2.mono (kp'.trans (Sm.new (T := T) hq).kp), hat.mono (kp'.trans (Sm.new (T := T) hq).kp), _, rfl, ?_⟩⟩
        by_cases e1 : (((srt Step xs).take i).foldl once1 []).getLast e0' = x
        · rw [decide_eq_true e1]
          refine iteF ⟨smq, hpq, ⟨_, rfl⟩, ys, hDq, Nat.le_succ_of_le hl, ?_⟩
          rw [et, List.foldl_append, List.foldl_cons, List.foldl_nil]
          have : once1 (((srt Step xs).take i).foldl once1 []) x = ((srt Step xs).take i).foldl once1 [] := if_neg (by
            rintro (z | z)
            · exact e0 z
            · rw [List.getLast?_eq_some_getLast e0', e1] at z
              exact z rfl)
          rw [this]
          exact hA
        · rw [decide_eq_false e1]
          refine iteT (app _ smq hpq hDq (if_pos (.inr ?_)))
          rw [List.getLast?_eq_some_getLast e0']
          intro z
          exact e1 (Option.some.inj z)
    · rintro σ H' ⟨sm, hp', ⟨z, rfl⟩, ys, hys, _, hA⟩
      rw [hul, List.take_length] at hA
      exact ⟨_, rfl, k ys D H' sm hD hys hA⟩
end
end SG

set_option Elab.async false
set_option linter.all false
set_option maxRecDepth 100000
set_option maxHeartbeats 4000000
set_option autoImplicit false
/-! steps: row_steps, steps_of. -/
namespace SG
open PySem PySem.Spec PyProof.Rows L2 LamX C8
def spRowSteps (T : List (Addr × Str)) (C : Addr) : Sp := fun vs H Q _ => ∃ (v u : V) (g : Gr) (row : List Str), vs = [v, u] ∧ GrAt C H v g ∧ At H u row ∧ Kn g row ∧ GSm g ∧ row.length ≤ 1000 ∧ Ret T H Q (rowSteps g.gm cn row)
def spStepsOf (T : List (Addr × Str)) (C : Addr) : Sp := fun vs H Q _ => ∃ (v u : V) (g : Gr) (row : List Str), vs = [v, .str "row", u] ∧ GrAt C H v g ∧ At H u row ∧ Kn g row ∧ GSm g ∧ row.length ≤ 1000 ∧ Ret T H Q (rowSteps g.gm cn row)
theorem rowSteps_cons {g : Gr} {X : Str} {r : List Str} {rs : List Step} (h : dlk g.stored X = some rs) : rowSteps g.gm cn (X :: r) = cn (rs.map fun p => (p.1, p.2 ++ r)) := by
  show cn (((dlk g.stored X).getD []).map fun p => (p.1, p.2 ++ r)) = _
  rw [h]
  rfl
section
variable {P : Program} {w : World} {K : PySem.W.Frag} {mg : Str → Option Value} {base : Heap} {T : List (Addr × Str)} {C : Addr}
theorem scRowSteps : FnScope ["grammar", "row", "letter", "more"] ["grammar", "row"] (fnScope sRowSteps) := fnScope_by (by decide +kernel)
theorem cal_row_steps (X : Gs mg) (cLook : Cal P w K mg base 2 "look_at_names" (spLook C) []) (cOnce : Cal P w K mg base 1 "each_once" (spOnce T) []) (cRules : Met P w K mg base 1 C "rules_of" (spRulesOf T C) [])
    (F : DefB K mg "row_steps" sRowSteps ["grammar", "row"]) : Cal P w K mg base 3 "row_steps" (spRowSteps T C) [] := by
  refine cal_of F scRowSteps (fun vs H Q E h => ?_) (fun f cdv A outer s H vs Q E hr h => ?_)
  · obtain ⟨v, u, g, row, rfl, _⟩ := h
    rfl
  · obtain ⟨v, u, g, row, rfl, hg, hrow, kn, gs, hlen, k⟩ := h
    have hu64 := hr.units
    obtain ⟨a, rfl, ha⟩ := hrow.strs
    refine ⟨_, pss_cons (ps_expr (pe_c cLook hr (by decide) rfl (pa_cons (pv 0) (pa_cons (pv 1) pa_nil))))
      (pss_cons (ps_if (pt_cmpR (op_eqT (List Str) hu64) (pv 1) (pe_lst pa_nil) (nomark _)) (pss_one (ps_ret (pe_lst pa_nil))) pss_nil)
      (pss_one (ps_ret (pe_c cOnce hr (by decide) rfl (pa_cons (pe_lc (own := [("letter", 2), ("more", 3)]) rfl scRowSteps.nd
        (pi_list (pe_mt cRules hr (by decide) (pv 0) (pa_cons (pe_ix ix_list (pv 1) pe_int (fun _ _ => rfl)) pa_nil)))
        (blkOk_by (N := ["grammar", "row", "letter", "more"]) (sc := fnScope sRowSteps) (by decide +kernel))
        (fun _ _ _ _ _ => pg_tup2K K rfl rfl scRowSteps.nd (i := 2) (j := 3) rfl rfl (.inl rfl) (.inl rfl) (.inr rfl) (.inr rfl))
        (fun _ _ _ _ _ => pts_nil) (fun _ _ _ _ _ => pe_tup (pa_cons (pv 2) (pa_cons (pe_op op_cat (pv 3) (pe_slice (sl_listK K rfl) (pv 1) (po_some pe_int) po_none)) pa_nil)))) pa_nil))))), ?_⟩
    refine ⟨_, rfl, _, rfl, v, .ref a, g, row, rfl, hg, hrow, kn, ?_⟩
    refine ⟨_, rfl, Nat.zero_le _, fun q hq => ⟨row, [], hrow.mono (Sm.new (T := T) hq).kp, ⟨q, [], rfl, upd_same, True.intro⟩, _, rfl, ?_⟩⟩
    have smq : Sm T H (upd H q (.lst [])) := Sm.new hq
    cases row with
    | nil =>
      rw [decide_eq_true rfl]
      refine iteT ⟨Nat.zero_le _, fun p hp => ?_⟩
      have smp : Sm T (upd H q (.lst [])) (upd (upd H q (.lst [])) p (.lst [])) := Sm.new hp
      exact k.go smq smp ⟨p, [], rfl, by rw [dif_new hp, upd_same], True.intro⟩
    | cons Y r =>
      rw [decide_eq_false (List.cons_ne_nil _ _)]
      refine iteF ?_
      obtain ⟨rs, hrs⟩ := Option.isSome_iff_exists.mp (kn Y List.mem_cons_self)
      have ha' : (upd H q (.lst [])) a = some (.lst ((Y :: r).map V.str)) := smq.lst ha
      have hg' : GrAt C (upd H q (.lst [])) v g := hg.mono smq.kp
      obtain ⟨p, dx, kn', d, od, rfl, h1, _⟩ := id hg'
      refine ⟨_, rfl, p, dx, _, rfl, h1, gfs_no _ _ _ (by decide +kernel) (by decide +kernel) (by decide +kernel), _, rfl, a, _, 0, .str Y, rfl, rfl, SqL.of ha', atI_nat (j := 0) rfl, _, g, Y, rs, rfl, hg', hrs, Nat.le_trans (gs.few Y rs hrs) (by decide), fun v2 H2 sm2 hv2 => ?_⟩
      obtain ⟨b, ws, rfl, hb, hws⟩ := hv2
      have hb2 := (dif_some hb).2
      refine ⟨b, rfl, ⟨_, SqL.of hb2⟩, fun D hD => ?_⟩
      have ha2 := sm2.lst ha'
      have hlen2 : rs.length ≤ 100000 := Nat.le_trans (gs.few Y rs hrs) (by decide)
      refine lc_rep T H (fun p : Step => some (p.1, p.2 ++ r)) hD (fun b z => smq.fr _ (sm2.fr _ z)) hb2 hws hlen2 (fun i v y H3 hi hat q3 hDn Ky Kn ky kn => ?_) (fun H3 ys q3 h3 hA => ?_)
      · have hat := hat.mono dif_kp
        obtain ⟨b2, u, z, rfl, hb2, hu', c, zs, rfl, hc, hzs⟩ := hat
        have ha3 := q3.lst ha2
        refine ⟨b2, _, rfl, SqT.of (q3.tup hb2), rfl, _, _, rfl, _, _, rfl, rfl, rfl, yes_if ?_⟩
        rw [strs_at] at hzs
        subst hzs
        have hc3 := q3.lst hc
        refine ⟨_, rfl, _, rfl, _, rfl, 1, rfl, a, _, rfl, SqL.of ha3, fun l hl => ?_⟩
        have ecut : cutV ((Y :: r).map V.str) (some 1) Option.none = r.map V.str := cutV_from (k := 1) (xs := (Y :: r).map V.str) (by simp)
        rw [ecut]
        have hcl : (upd H3 l (.lst (r.map V.str))) c = some (.lst (y.2.map V.str)) := by rw [upd_ne (ne_of_none hc3 hl)]; exact hc3
        have hy2 := gs.short Y rs hrs y (List.mem_of_getElem? hi)
        refine ⟨c, l, _, _, rfl, rfl, hcl, upd_same, by rw [List.length_map, List.length_map]; have hlr : r.length + 1 ≤ 1000 := hlen; exact Nat.le_trans (by omega : _ ≤ 2000) (by decide), fun l2 hl2 => ⟨by show 2 ≤ sizeLine; decide, fun t ht => ?_⟩⟩
        have nlt : l2 ≠ t := ne_of_none upd_same ht
        have s1 : Sm T H3 (upd H3 l (.lst (r.map V.str))) := Sm.new hl
        have s2 : Sm T _ (upd (upd H3 l (.lst (r.map V.str))) l2 (.lst (y.2.map V.str ++ r.map V.str))) := Sm.new hl2
        have s3 : Sm T _ (upd (upd (upd H3 l (.lst (r.map V.str))) l2 (.lst (y.2.map V.str ++ r.map V.str))) t (.tup [u, .ref l2])) := Sm.new ht
        have h3l2 : H3 l2 = Option.none := s1.fr _ hl2
        have h3t : H3 t = Option.none := (s1.trans s2).fr _ ht
        refine ky _ (y.1, y.2 ++ r) _ rfl ((s1.trans s2).trans s3) (At.mono (H := dif (upd (upd (upd H3 l (.lst (r.map V.str))) l2 (.lst (y.2.map V.str ++ r.map V.str))) t (.tup [u, .ref l2])) H3) ⟨t, u, .ref l2, rfl, by rw [dif_new h3t, upd_same], hu', l2, _, rfl, by rw [dif_new h3l2, upd_ne nlt, upd_same], by rw [strs_at, List.map_append]⟩ (kp_new ((smq.trans sm2).trans q3) hDn (Kp.refl _)))
      · have ef : rs.filterMap (fun p : Step => some (p.1, p.2 ++ r)) = rs.map fun p => (p.1, p.2 ++ r) := by
          rw [← List.filterMap_eq_map]
          rfl
        rw [ef] at hA
        refine ⟨D, ys, _, _, rfl, h3, hA, hid_kp.trans dif_kp, by rw [List.length_map]; exact hlen2, fun us p2 H4 sm4 hp2 h4 hus => ?_⟩
        have sm : Sm T H H3 := (smq.trans sm2).trans q3
        refine k _ _ (sm.trans sm4) ⟨p2, us, rfl, by rw [dif_new (sm.fr _ hp2)]; exact h4, ?_⟩
        rw [rowSteps_cons hrs]
        exact hus.mono (hid_kp.trans (dif_mono (fun _ z => z) sm4.kp))
theorem scStepsOf : FnScope ["grammar", "kind", "one"] ["grammar", "kind", "one"] (fnScope sStepsOf) := fnScope_by (by decide +kernel)
theorem cal_steps_of (X : Gs mg) (cRow : Cal P w K mg base 3 "row_steps" (spRowSteps T C) []) (F : DefB K mg "steps_of" sStepsOf ["grammar", "kind", "one"]) : Cal P w K mg base 4 "steps_of" (spStepsOf T C) [] := by
  refine cal_of F scStepsOf (fun vs H Q E h => ?_) (fun f cdv A outer s H vs Q E hr h => ?_)
  · obtain ⟨v, u, g, row, rfl, _⟩ := h
    rfl
  · obtain ⟨v, u, g, row, rfl, hg, hrow, kn, gs, hlen, k⟩ := h
    refine ⟨_, pss_cons (ps_if (pt_cmpR op_eq (pv 1) pe_str (nomark _)) (pss_one (ps_ret (pe_c cRow hr (by decide) rfl (pa_cons (pv 0) (pa_cons (pv 2) pa_nil))))) pss_nil) (pss_one ps_never), ?_⟩
    refine ⟨_, rfl, rfl, _, rfl, ?_⟩
    rw [decide_eq_true rfl]
    exact iteT ⟨_, rfl, _, rfl, v, u, g, row, rfl, hg, hrow, kn, gs, hlen, k⟩
end
end SG

set_option Elab.async false
set_option linter.all false
set_option maxRecDepth 100000
set_option maxHeartbeats 4000000
set_option autoImplicit false
/-! norms: added_up; bases: put_out, outs_of. -/
namespace SG
open PySem PySem.Spec PyProof.Rows L2 LamX C8
abbrev sAddedUp : Stmt := top 17
abbrev sPutOut : Stmt := top 23
abbrev sOutsOf : Stmt := top 24
abbrev Nd := List (Str × Option Int)
/-- the norm of a row by those of names -/
def addUp (kn : Nd) : List Str → Option Int
  | [] => some 0
  | X :: r => match (dlk kn X).getD Option.none, addUp kn r with
    | some n, some s => some (n + s)
    | _, _ => Option.none
def KnN (kn : Nd) (row : List Str) : Prop := ∀ x ∈ row, (dlk kn x).isSome = true
def spAddedUp (T : List (Addr × Str)) : Sp := fun vs H Q _ => ∃ (v u : V) (kn : Nd) (row : List Str), vs = [v, u] ∧ At H v (Dct.mk kn) ∧ At H u row ∧ KnN kn row ∧ row.length ≤ 100000 ∧ ∀ H', Sm T H H' → Q (optV (addUp kn row)) H'
theorem inV_opt : ∀ xs : List (Option Int), inV .non (xs.map optV) = xs.any (·.isNone)
  | [] => rfl
  | x :: xs => by
    have ih := inV_opt xs
    unfold inV at ih ⊢
    rw [List.map_cons, List.any_cons, List.any_cons, ih]
    cases x <;> rfl
theorem flat_opt : ∀ xs : List (Option Int), (xs.map optV).all flatV = true
  | [] => rfl
  | x :: xs => by
    rw [List.map_cons, List.all_cons, flat_opt xs]
    cases x <;> rfl
theorem addUp_none {kn : Nd} : ∀ {row : List Str}, (row.map fun X => (dlk kn X).getD Option.none).any (·.isNone) = true → addUp kn row = Option.none
  | [], h => by cases h
  | X :: r, h => by
    rw [List.map_cons, List.any_cons, Bool.or_eq_true] at h
    show (match (dlk kn X).getD Option.none, addUp kn r with
      | some n, some s => some (n + s)
      | _, _ => Option.none) = Option.none
    rcases h with h | h
    · rw [Option.isNone_iff_eq_none.mp h]
    · rw [addUp_none h]
      cases (dlk kn X).getD Option.none <;> rfl
theorem addUp_some {kn : Nd} : ∀ {row : List Str}, (row.map fun X => (dlk kn X).getD Option.none).any (·.isNone) = false → ∃ ns : List Int, (row.map fun X => (dlk kn X).getD Option.none) = ns.map some ∧ addUp kn row = some ns.sum
  | [], _ => ⟨[], rfl, rfl⟩
  | X :: r, h => by
    rw [List.map_cons, List.any_cons, Bool.or_eq_false_iff] at h
    obtain ⟨ns, e1, e2⟩ := addUp_some h.2
    cases e : (dlk kn X).getD Option.none with
    | none => rw [e] at h; cases h.1
    | some n =>
      refine ⟨n :: ns, by rw [List.map_cons, e, e1]; rfl, ?_⟩
      show (match (dlk kn X).getD Option.none, addUp kn r with
        | some n, some s => some (n + s)
        | _, _ => Option.none) = _
      rw [e, e2, List.sum_cons]
section
variable {P : Program} {w : World} {K : PySem.W.Frag} {mg : Str → Option Value} {base : Heap} {T : List (Addr × Str)} {C : Addr}
theorem scAddedUp : FnScope ["norms", "row", "some", "name"] ["norms", "row"] (fnScope sAddedUp) := fnScope_by (by decide +kernel)
theorem cal_added_up (X : Gs mg) (F : DefB K mg "added_up" sAddedUp ["norms", "row"]) : Cal P w K mg base 1 "added_up" (spAddedUp T) [] := by
  refine cal_of F scAddedUp (fun vs H Q E h => ?_) (fun f cdv A outer s H vs Q E hr h => ?_)
  · obtain ⟨v, u, kn, row, rfl, _⟩ := h
    rfl
  · obtain ⟨v, u, kn, row, rfl, hd, hrow, hkn, hlen, k⟩ := h
    have hu := hu_of hr
    obtain ⟨a, rfl, ha⟩ := hrow.strs
    -- some = [norms[name] for name in row]; if None in some: return None; return sum(some)
    refine ⟨_, pss_cons (ps_setLc (i := 2) (own := [("name", 3)]) rfl scAddedUp.nd rfl rfl (sw_true rfl rfl rfl (by decide +kernel)) (pi_list (pv 1))
        (blkOk_by (N := ["norms", "row", "some", "name"]) (sc := fnScope sAddedUp) (by decide +kernel))
        (fun _ _ _ _ _ => pg_name (i := 3) scAddedUp.nd rfl (Or.inl rfl) (.inr rfl))
        (fun _ _ _ _ _ => pts_nil) (fun _ _ _ _ _ => pe_dget hu (pv 0) (pv 3) (fun _ _ => rfl)))
      (pss_cons (ps_if (pt_cmpR op_in_seq pe_non (pv 2) (by rfl)) (pss_one (ps_ret pe_non)) pss_nil)
      (pss_one (ps_ret (pe_callB (cr_sum rfl) (by rfl) X.sum boot_sum_ (pa_cons (pv 2) pa_nil))))), ?_⟩
    refine ⟨_, rfl, a, rfl, ⟨_, SqL.of ha⟩, fun D hD => ?_⟩
    refine lc_rep (S := H) (xs := row) T H (fun X => some ((dlk kn X).getD Option.none)) hD (fun b z => z) ha (strs_at.mpr rfl) hlen (fun i v y H3 hi hat q3 hDn Ky Kn ky kn' => ?_) (fun H3 ys q3 h3 hA => ?_)
    · have hat : v = V.str y := hat
      subst hat
      obtain ⟨d, e, _, hg⟩ := (hd.mono q3.kp).dlk y
      subst e
      obtain ⟨o, ho⟩ := Option.isSome_iff_exists.mp (hkn y (List.mem_of_getElem? hi))
      rw [ho] at hg
      obtain ⟨u, hg, hu'⟩ := hg
      refine ⟨rfl, yes_if ⟨_, rfl, _, rfl, d, u, rfl, hg, ky u o _ (by rw [ho]; rfl) (Sm.refl T H3) ?_⟩⟩
      cases o with
      | none => exact hu'
      | some n => exact hu'
    · have e1 : row.filterMap (fun X => some ((dlk kn X).getD Option.none)) = row.map fun X => (dlk kn X).getD Option.none := by
        rw [← List.filterMap_eq_map]
        rfl
      rw [e1, opts_at] at hA
      subst hA
      refine ⟨_, rfl, D, _, rfl, .inl (SqL.of h3), rfl, flat_opt _, _, rfl, ?_⟩
      rw [if_neg Bool.false_ne_true, inV_opt]
      cases e2 : (row.map fun X => (dlk kn X).getD Option.none).any (·.isNone) with
      | true =>
        have := k H3 q3
        rw [addUp_none e2] at this
        exact iteT this
      | false =>
        obtain ⟨ns, e3, e4⟩ := addUp_some e2
        have := k H3 q3
        rw [e4] at this
        refine iteF ⟨_, rfl, D, ns, rfl, SqL.of ?_, this⟩
        rw [h3, e3, List.map_map]
        rfl
theorem scPutOut : FnScope ["kind", "base", "one", "found", "name"] ["kind", "base", "one"] (fnScope sPutOut) := fnScope_by (by decide +kernel)
abbrev Bs := List (Str × List Str)
def spPutOut (T : List (Addr × Str)) : Sp := fun vs H Q _ => ∃ (v u : V) (b : Bs) (row : List Str), vs = [.str "row", v, u] ∧ At H v (Dct.mk b) ∧ At H u row ∧ (out (dlk b) row).length ≤ 100000 ∧ Ret T H Q (out (dlk b) row)
theorem out_take (b : Bs) (row : List Str) (i : Nat) : (out (dlk b) (row.take i)).length ≤ (out (dlk b) row).length := by
  have e : out (dlk b) (row.take i ++ row.drop i) = out (dlk b) (row.take i) ++ out (dlk b) (row.drop i) := out_append _ _
  rw [List.take_append_drop] at e
  rw [e, List.length_append]
  omega
theorem cal_put_out (X : Gs mg) (F : DefB K mg "put_out" sPutOut ["kind", "base", "one"]) : Cal P w K mg base 1 "put_out" (spPutOut T) [] := by
  refine cal_of F scPutOut (fun vs H Q E h => ?_) (fun f cdv A outer s H vs Q E hr h => ?_)
  · obtain ⟨v, u, b, row, rfl, _⟩ := h
    rfl
  · obtain ⟨v, u, b, row, rfl, hd, hrow, hlen, k⟩ := h
    have hu := hu_of hr
    obtain ⟨a, rfl, ha⟩ := hrow.strs
    -- found = []; for name in one: found.extend(base.get(name, [name])); if kind == "bag": ..; return found
    refine ⟨_, pss_cons (ps_set (i := 3) scPutOut.nd rfl (Or.inl rfl) (pe_lst pa_nil))
      (pss_cons (ps_for PassesOwn.never rfl (pi_list (pv 2)) (pg_name (i := 4) scPutOut.nd rfl (Or.inl rfl))
        (pss_one (ps_expr (pe_bm PySem.F.plainAttrs_list PySem.F.slot_list_extend PySem.F.type_list_extend mt_extend (pv 3) (pa_cons (pe_dget2 hu (pv 1) (pv 4) (pe_lst (pa_cons (pv 4) pa_nil)) (m := ⟨rfl, rfl, rfl, rfl⟩)) pa_nil)))))
      (pss_cons (ps_if (pt_cmpR op_eq (pv 0) pe_str (nomark _)) (pss_one ps_never) pss_nil)
      (pss_one (ps_ret (pv 3))))), ?_⟩
    refine ⟨Nat.zero_le _, fun D hD => ?_⟩
    have s0 : Sm T H (upd H D (.lst [])) := Sm.new hD
    refine ⟨_, rfl, a, rfl, ⟨_, SqL.of (s0.lst ha)⟩, for_list (K := K) (a := a) (xs := row.map V.str) (fun i σ H' => Sm T H H' ∧ (∃ z, σ = [some (.str "row"), some v, some (.ref a), some (.ref D), z]) ∧ H' D = some (.lst ((out (dlk b) (row.take i)).map V.str)))
      ⟨s0, ⟨_, rfl⟩, upd_same⟩ (fun i σ H' _ h => SqL.of (h.1.lst ha)) ?_ ?_⟩
    · rintro i y σ H' hi ⟨sm, ⟨z, rfl⟩, hD'⟩
      rw [List.getElem?_map] at hi
      obtain ⟨x, hx, rfl⟩ := Option.map_eq_some_iff.mp hi
      have et : row.take (i + 1) = row.take i ++ [x] := by
        rw [List.take_add_one, hx]
        rfl
      obtain ⟨d, e, isd, hg⟩ := (hd.mono sm.kp).dlk x
      subst e
      refine ⟨_, rfl, .inl ⟨rfl, _, SqL.of hD'⟩, _, rfl, d, rfl, isd, _, rfl, _, rfl, by show 1 ≤ sizeLine; decide, fun p hp => ?_⟩
      have sp : Sm T H' (upd H' p (.lst [.str x])) := Sm.new hp
      obtain ⟨d2, e, isd2, hg2⟩ := (hd.mono (sm.trans sp).kp).dlk x
      cases e
      have hDp := sp.lst hD'
      have l2 := out_take b row (i + 1)
      rw [et, out_append, List.length_append] at l2
      have fin : ∀ (q : Addr) (zs : List Str), (upd H' p (.lst [.str x])) q = some (.lst (zs.map V.str)) → zs = out (dlk b) [x] →
          rExtend (.ref D) [.ref q] (upd H' p (.lst [.str x])) fun _ H2 => Sm T H H2 ∧ (∃ z, [some (V.str "row"), some (.ref d), some (.ref a), some (.ref D), some (.str x)] = [some (.str "row"), some (.ref d), some (.ref a), some (.ref D), z]) ∧ H2 D = some (.lst ((out (dlk b) (row.take (i + 1))).map V.str)) := fun q zs hq e => by
        refine ⟨D, q, _, _, rfl, rfl, hDp, hq, ?_, (sm.trans sp).mut hD hDp True.intro, ⟨_, rfl⟩, ?_⟩
        · rw [List.length_map, List.length_map, e]
          exact Nat.le_trans (Nat.le_trans l2 hlen) (by decide)
        · rw [upd_same, et, out_append, List.map_append, e]
      cases e : dlk b x with
      | none =>
        rw [e] at hg2
        exact ⟨_, hg2, fin p [x] upd_same (by rw [out_one, e]; rfl)⟩
      | some m =>
        rw [e] at hg2
        obtain ⟨u, hg2, hm⟩ := hg2
        obtain ⟨q, rfl, hq⟩ := hm.strs
        exact ⟨_, hg2, fin q m hq (by rw [out_one, e]; rfl)⟩
    · rintro σ H' ⟨sm, ⟨z, rfl⟩, hD'⟩
      rw [List.length_map, List.take_length] at hD'
      refine ⟨_, rfl, rfl, _, rfl, ?_⟩
      rw [decide_eq_false (by decide +kernel)]
      refine iteF ⟨_, rfl, k _ _ sm ⟨D, _, rfl, by rw [dif_new hD]; exact hD', strs_at.mpr rfl⟩⟩
end
end SG

set_option Elab.async false
set_option linter.all false
set_option maxRecDepth 100000
set_option maxHeartbeats 4000000
set_option autoImplicit false
/-! Dicts with text keys as lists of pairs: put, merge. -/
namespace SG
open PySem PySem.Spec PyProof.Rows L2 LamX C8
section
variable {β : Type}
def dput (b : List (Str × β)) (X : Str) (x : β) : List (Str × β) := if (dlk b X).isSome = true then b.map (fun p => if p.1 = X then (p.1, x) else p) else b ++ [(X, x)]
def dmerge (b more : List (Str × β)) : List (Str × β) := more.foldl (fun acc p => dput acc p.1 p.2) b
theorem dlk_cons (p : Str × β) (b : List (Str × β)) (X : Str) : dlk (p :: b) X = if p.1 = X then some p.2 else dlk b X := by
  unfold dlk
  rw [List.find?_cons]
  by_cases e : p.1 = X
  · simp [e]
  · simp [e]
theorem dlk_nil (X : Str) : dlk ([] : List (Str × β)) X = Option.none := rfl
theorem dlk_append (a b : List (Str × β)) (X : Str) : dlk (a ++ b) X = (dlk a X).or (dlk b X) := by
  induction a with
  | nil => rw [List.nil_append, dlk_nil]; rfl
  | cons p a ih =>
    rw [List.cons_append, dlk_cons, dlk_cons, ih]
    by_cases e : p.1 = X
    · rw [if_pos e, if_pos e]; rfl
    · rw [if_neg e, if_neg e]
theorem dlk_map (X Y : Str) (x : β) : ∀ b : List (Str × β), dlk (b.map fun p => if p.1 = X then (p.1, x) else p) Y = (dlk b Y).map fun z => if Y = X then x else z
  | [] => rfl
  | p :: b => by
    rw [List.map_cons, dlk_cons, dlk_cons, dlk_map X Y x b]
    by_cases e : p.1 = X
    · rw [if_pos e]
      show (if p.1 = Y then some x else _) = _
      by_cases e2 : p.1 = Y
      · rw [if_pos e2, if_pos e2, Option.map_some, if_pos (e2.symm.trans e)]
      · rw [if_neg e2, if_neg e2]
    · rw [if_neg e]
      by_cases e2 : p.1 = Y
      · rw [if_pos e2, if_pos e2, Option.map_some, if_neg (fun z => e (e2.trans z))]
      · rw [if_neg e2, if_neg e2]
theorem dlk_dput (b : List (Str × β)) (X Y : Str) (x : β) : dlk (dput b X x) Y = if Y = X then some x else dlk b Y := by
  unfold dput
  by_cases a : (dlk b X).isSome = true
  · rw [if_pos a, dlk_map]
    by_cases e : Y = X
    · subst e
      obtain ⟨z, hz⟩ := Option.isSome_iff_exists.mp a
      rw [hz, if_pos rfl, Option.map_some, if_pos rfl]
    · rw [if_neg e]
      simp only [if_neg e]
      cases dlk b Y <;> rfl
  · rw [if_neg a, dlk_append, dlk_cons, dlk_nil]
    by_cases e : Y = X
    · subst e
      have : dlk b Y = Option.none := by cases q : dlk b Y with
        | none => rfl
        | some z => rw [q] at a; exact absurd rfl a
      rw [this, if_pos rfl]
      rfl
    · rw [if_neg e, if_neg (Ne.symm e)]
      cases dlk b Y <;> rfl
theorem keys_dput_old {b : List (Str × β)} {X : Str} {x : β} (h : (dlk b X).isSome = true) : (dput b X x).map (·.1) = b.map (·.1) := by
  unfold dput
  rw [if_pos h, List.map_map]
  apply List.map_congr_left
  intro p _
  show (if p.1 = X then (p.1, x) else p).1 = p.1
  by_cases e : p.1 = X
  · rw [if_pos e]
  · rw [if_neg e]
theorem dput_new {b : List (Str × β)} {X : Str} {x : β} (h : dlk b X = Option.none) : dput b X x = b ++ [(X, x)] := by
  unfold dput
  rw [h]
  exact if_neg Bool.false_ne_true
theorem dlk_isSome {b : List (Str × β)} {X : Str} : (dlk b X).isSome = true ↔ X ∈ b.map (·.1) := by
  induction b with
  | nil => exact ⟨fun h => (nomatch h), fun h => (nomatch h)⟩
  | cons p b ih =>
    rw [dlk_cons, List.map_cons, List.mem_cons]
    by_cases e : p.1 = X
    · rw [if_pos e]; exact ⟨fun _ => .inl e.symm, fun _ => rfl⟩
    · rw [if_neg e, ih]
      exact ⟨fun h => .inr h, fun h => h.elim (fun z => absurd z.symm e) id⟩
theorem dlk_none {b : List (Str × β)} {X : Str} : dlk b X = Option.none ↔ X ∉ b.map (·.1) := by
  rw [← dlk_isSome]
  cases dlk b X <;> simp
theorem dlk_mem {b : List (Str × β)} {X : Str} {x : β} (h : dlk b X = some x) : (X, x) ∈ b := by
  induction b with
  | nil => cases h
  | cons p b ih =>
    rw [dlk_cons] at h
    by_cases e : p.1 = X
    · rw [if_pos e] at h
      have : p = (X, x) := Prod.ext e (Option.some.inj h)
      rw [this]
      exact List.mem_cons_self
    · rw [if_neg e] at h
      exact List.mem_cons_of_mem _ (ih h)
theorem dlk_of_mem {b : List (Str × β)} {X : Str} {x : β} (nd : (b.map (·.1)).Nodup) (h : (X, x) ∈ b) : dlk b X = some x := by
  induction b with
  | nil => cases h
  | cons p b ih =>
    rw [List.map_cons, List.nodup_cons] at nd
    rw [dlk_cons]
    rcases List.mem_cons.mp h with e | h
    · rw [← e, if_pos rfl]
    · have : p.1 ≠ X := fun e => nd.1 (e ▸ List.mem_map.mpr ⟨(X, x), h, rfl⟩)
      rw [if_neg this]
      exact ih nd.2 h
theorem dmerge_new : ∀ (more b : List (Str × β)), (more.map (·.1)).Nodup → (∀ p ∈ more, p.1 ∉ b.map (·.1)) → dmerge b more = b ++ more
  | [], b, _, _ => by show b = b ++ []; rw [List.append_nil]
  | p :: more, b, nd, h => by
    rw [List.map_cons, List.nodup_cons] at nd
    show dmerge (dput b p.1 p.2) more = _
    rw [dput_new (dlk_none.mpr (h p List.mem_cons_self)), dmerge_new more _ nd.2 (fun q hq => ?_), List.append_assoc]
    · rfl
    · rw [List.map_append, List.mem_append]
      rintro (z | z)
      · exact h q (List.mem_cons_of_mem _ hq) z
      · have z : q.1 = p.1 := by simpa using z
        exact nd.1 (z ▸ List.mem_map.mpr ⟨q, hq, rfl⟩)
end
section
variable {α : Type} [Rep α] {H : Hp}
theorem valV_isSome {ps : List (Key × V)} {xs : List (Str × α)} (h : AllKv H ps xs) (X : Str) : (valV ps (Sum.inr X : Key)).isSome = (dlk xs X).isSome := by
  have := h.lk X
  cases e : dlk xs X with
  | none =>
    rw [e] at this
    rw [show valV ps (Sum.inr X : Key) = Option.none from this]
    rfl
  | some x =>
    rw [e] at this
    obtain ⟨v, e2, _⟩ := this
    rw [e2]
    rfl
theorem AllKv.map_put {X : Str} {v : V} {x : α} (hv : At H v x) : ∀ {ps : List (Key × V)} {xs : List (Str × α)}, AllKv H ps xs →
    AllKv H (ps.map fun kv => if kv.1 = (Sum.inr X : Key) then (kv.1, v) else kv) (xs.map fun p => if p.1 = X then (p.1, x) else p)
  | [], [], _ => True.intro
  | [], _ :: _, h => h.elim
  | _ :: _, [], h => h.elim
  | (k, u) :: ps, (Y, y) :: xs, h => by
    have ih := AllKv.map_put (X := X) hv h.2.2
    have hk : k = Sum.inr Y := h.1
    subst hk
    rw [List.map_cons, List.map_cons]
    by_cases e : Y = X
    · subst e
      rw [if_pos rfl, if_pos rfl]
      exact ⟨rfl, hv, ih⟩
    · have e2 : ¬ (Sum.inr Y : Key) = Sum.inr X := fun z => e (Sum.inr.inj z)
      rw [if_neg e2, if_neg e]
      exact ⟨rfl, h.2.1, ih⟩
theorem AllKv.put {ps : List (Key × V)} {xs : List (Str × α)} {X : Str} {v : V} {x : α} (h : AllKv H ps xs) (hv : At H v x) : AllKv H (putK ps (Sum.inr X : Key) v) (dput xs X x) := by
  unfold putK dput
  rw [valV_any, valV_isSome h X]
  by_cases a : (dlk xs X).isSome = true
  · rw [if_pos a, if_pos a]
    exact h.map_put hv
  · rw [if_neg a, if_neg a]
    exact h.append ⟨rfl, hv, True.intro⟩
theorem AllKv.merge : ∀ {more : List (Key × V)} {ms : List (Str × α)} {ps : List (Key × V)} {xs : List (Str × α)}, AllKv H more ms → AllKv H ps xs → AllKv H (mergeK ps more) (dmerge xs ms)
  | [], [], _, _, _, h => h
  | [], _ :: _, _, _, h, _ => h.elim
  | _ :: _, [], _, _, h, _ => h.elim
  | (k, u) :: more, (Y, y) :: ms, ps, xs, h, q => by
    have hk : k = Sum.inr Y := h.1
    subst hk
    show AllKv H (mergeK (putK ps (Sum.inr Y : Key) u) more) (dmerge (dput xs Y y) ms)
    exact AllKv.merge h.2.2 (q.put h.2.1)
/-- dict(..) of a list of pairs -/
def rDictT (K : PySem.W.Frag) (α : Type) [Rep α] : List V → Hp → VK → Prop := fun vs H Q => ∃ (G : Hp) (a : Addr) (ws : List V) (xs : List (Str × α)), vs = [.ref a] ∧ H a = some (.lst ws) ∧ AllAt G ws xs ∧ Kp G H ∧
  ∀ (p : Addr) (ps : List (Key × V)), H p = Option.none → AllKv G ps (dmerge [] xs) → Q (.ref p) (upd H p (.dK ps))
theorem pairs_of {K : PySem.W.Frag} {G : Hp} (kp : Kp G H) : ∀ {ws : List V} {xs : List (Str × α)}, AllAt G ws xs → ∃ (ps : List Addr) (kvs : List (Key × V)), ws = ps.map V.ref ∧ Paired (fun p (kv : Key × V) => SqT K H p [kV kv.1, kv.2]) ps kvs ∧ AllKv G kvs xs
  | [], [], _ => ⟨[], [], rfl, .nil, True.intro⟩
  | [], _ :: _, h => h.elim
  | _ :: _, [], h => h.elim
  | v :: ws, x :: xs, h => by
    obtain ⟨⟨a, u, z, e, h1, h2, h3⟩, ht⟩ := h
    obtain ⟨ps, kvs, e1, e2, e3⟩ := pairs_of (K := K) kp ht
    have h2 : u = V.str x.1 := h2
    subst h2
    subst e
    refine ⟨a :: ps, (Sum.inr x.1, z) :: kvs, by rw [e1]; rfl, .cons ?_ e2, rfl, h3, e3⟩
    exact SqT.of (kp a _ h1 fun _ z => nomatch z)
theorem cr_dictT {X : Cx} (hc : X.calm = true) : CallR X (.type "dict") (rDictT X.K α) := by
  intro pins s σ H vs us Q I r h
  obtain ⟨G, a, ws, xs, rfl, ha, hws, kp, q⟩ := h
  obtain ⟨ps, kvs, e1, e2, e3⟩ := pairs_of (K := X.K) kp hws
  refine call_dictP hc pins s σ H _ us Q I r ⟨a, ps, kvs, rfl, SqL.of (by rw [ha, e1]), e2, fun p hp => q p _ hp (e3.merge True.intro)⟩
end
end SG

set_option Elab.async false
set_option linter.all false
set_option maxRecDepth 100000
set_option maxHeartbeats 4000000
set_option autoImplicit false
/-! The plain law of norms: a pass over all rules, again and again. -/
namespace SG
open PySem

theorem kn_iff {g : Gr} (gs : GSm g) {row : List Str} : Kn g row ↔ Over g.gm row := by
  unfold Kn Over
  constructor
  · intro h x hx
    have := dlk_isSome.mp (h x hx)
    rw [gs.keys] at this
    exact this
  · intro h x hx
    apply dlk_isSome.mpr
    rw [gs.keys]
    exact h x hx
theorem rules_of_some {g : Gr} {X : Str} {rs : List Step} (h : dlk g.stored X = some rs) : g.gm.rules X = rs := by
  show (dlk g.stored X).getD [] = rs
  rw [h]
  rfl
theorem some_of_name {g : Gr} (gs : GSm g) {X : Str} (h : X ∈ g.names) : ∃ rs, dlk g.stored X = some rs := by
  have : X ∈ g.stored.map (·.1) := by rw [gs.keys]; exact h
  exact Option.isSome_iff_exists.mp (dlk_isSome.mpr this)

def Fin (w : Str → Nat) (f : Nd) (X : Str) : Prop := dlk f X = some (some (w X : Int))
def relax (f : Nd) (X : Str) (row : List Str) : Nd × Bool :=
  match addUp f row with
  | Option.none => (f, false)
  | some n => match dlk f X with
    | some (some m) => if n + 1 < m then (dput f X (some (n + 1)), true) else (f, false)
    | some Option.none => (dput f X (some (n + 1)), true)
    | Option.none => (f, false)
theorem addUp_cons (f : Nd) (X : Str) (r : List Str) : addUp f (X :: r) = match (dlk f X).getD Option.none, addUp f r with
    | some n, some s => some (n + s)
    | _, _ => Option.none := rfl
theorem addUp_low {w : Str → Nat} {f : Nd} (h : ∀ X n, dlk f X = some (some n) → (w X : Int) ≤ n) : ∀ {row : List Str} {s : Int}, addUp f row = some s → (wt w row : Int) ≤ s
  | [], s, e => by
    have : (0 : Int) = s := Option.some.inj e
    rw [wt_nil, ← this]
    exact Int.le_refl _
  | X :: r, s, e => by
    rw [addUp_cons] at e
    cases e1 : dlk f X with
    | none => rw [e1] at e; cases e
    | some o =>
      cases o with
      | none => rw [e1] at e; cases e
      | some n =>
        cases e2 : addUp f r with
        | none => rw [e1, e2] at e; cases e
        | some s' =>
          rw [e1, e2] at e
          have e : n + s' = s := Option.some.inj e
          have h1 := h X n e1
          have h2 := addUp_low h e2
          rw [wt_cons]
          push_cast
          omega
theorem addUp_fin {w : Str → Nat} {f : Nd} : ∀ {row : List Str}, (∀ Y ∈ row, Fin w f Y) → addUp f row = some (wt w row : Int)
  | [], _ => rfl
  | X :: r, h => by
    have h1 : dlk f X = some (some (w X : Int)) := h X List.mem_cons_self
    rw [addUp_cons, h1, addUp_fin fun Y hY => h Y (List.mem_cons_of_mem _ hY), wt_cons]
    show some ((w X : Int) + (wt w r : Int)) = some ((w X + wt w r : Nat) : Int)
    push_cast
    rfl
structure J (g : Gr) (w : Str → Nat) (f0 : Nd) (PR : List (Str × List Str)) (f : Nd) (again : Bool) : Prop where
  keys : f.map (·.1) = g.names
  low : ∀ X n, dlk f X = some (some n) → (w X : Int) ≤ n
  keep : ∀ X, Fin w f0 X → Fin w f X
  prog : ∀ p ∈ PR, 1 + wt w p.2 = w p.1 → (∀ Y ∈ p.2, Fin w f0 Y) → Fin w f p.1
  same : again = false → f = f0 ∧ ∀ p ∈ PR, ∀ s, addUp f0 p.2 = some s → ∃ m, dlk f0 p.1 = some (some m) ∧ m ≤ s + 1
  diff : again = true → ∃ X ∈ g.names, ¬ Fin w f0 X
theorem J.step {g : Gr} {w : Str → Nat} (W : Nms g.gm w) {f0 : Nd} {PR : List (Str × List Str)} {f : Nd} {again : Bool} (j : J g w f0 PR f again) {X : Str} (hX : X ∈ g.names) {l : Str} {row : List Str} (hr : (l, row) ∈ g.gm.rules X) :
    J g w f0 (PR ++ [(X, row)]) (relax f X row).1 (again || (relax f X row).2) := by
  have n2 : w X ≤ 1 + wt w row := W.n2 X hX (l, row) hr
  have hkey : (dlk f X).isSome = true := dlk_isSome.mpr (by rw [j.keys]; exact hX)
  -- a change
  have change : ∀ n : Int, addUp f row = some n → (∀ m, dlk f X = some (some m) → n + 1 < m) → J g w f0 (PR ++ [(X, row)]) (dput f X (some (n + 1))) true := by
    intro n hn hlt
    have hs := addUp_low j.low hn
    have notFin : ¬ Fin w f X := fun z => by
      have := hlt _ z
      omega
    have stay : ∀ Z, Fin w f Z → Fin w (dput f X (some (n + 1))) Z := fun Z hZ => by
      have : Z ≠ X := fun e => notFin (e ▸ hZ)
      unfold Fin
      rw [dlk_dput, if_neg this]
      exact hZ
    refine ⟨by rw [keys_dput_old hkey]; exact j.keys, fun Z m hm => ?_, fun Z hZ => stay Z (j.keep Z hZ), fun p hp e ha => ?_, fun e => (nomatch e), fun _ => ⟨X, hX, fun z => notFin (j.keep X z)⟩⟩
    · rw [dlk_dput] at hm
      by_cases e : Z = X
      · rw [if_pos e] at hm
        have : n + 1 = m := Option.some.inj (Option.some.inj hm)
        rw [e]
        omega
      · rw [if_neg e] at hm
        exact j.low Z m hm
    · rcases List.mem_append.mp hp with hp | hp
      · exact stay _ (j.prog p hp e ha)
      · have hp := List.mem_singleton.mp hp
        subst hp
        have e1 := addUp_fin (w := w) (f := f) (row := row) fun Y hY => j.keep Y (ha Y hY)
        rw [hn] at e1
        have e1 : n = (wt w row : Int) := Option.some.inj e1
        show Fin w (dput f X (some (n + 1))) X
        unfold Fin
        have e : 1 + wt w row = w X := e
        rw [dlk_dput, if_pos rfl, e1]
        congr 2
        omega
  -- no change
  have nochange : (∀ s, addUp f row = some s → ∃ m, dlk f X = some (some m) ∧ m ≤ s + 1) → J g w f0 (PR ++ [(X, row)]) f again := by
    intro hs
    refine ⟨j.keys, j.low, j.keep, fun p hp e ha => ?_, fun e => ⟨(j.same e).1, fun p hp s hps => ?_⟩, j.diff⟩
    · rcases List.mem_append.mp hp with hp | hp
      · exact j.prog p hp e ha
      · have hp := List.mem_singleton.mp hp
        subst hp
        obtain ⟨m, h1, h2⟩ := hs _ (addUp_fin (w := w) fun Y hY => j.keep Y (ha Y hY))
        have h3 := j.low X m h1
        have e : 1 + wt w row = w X := e
        show dlk f X = some (some (w X : Int))
        rw [h1]
        congr 2
        omega
    · rcases List.mem_append.mp hp with hp | hp
      · exact (j.same e).2 p hp s hps
      · have hp := List.mem_singleton.mp hp
        subst hp
        have e0 := (j.same e).1
        rw [← e0] at hps ⊢
        exact hs s hps
  unfold relax
  cases e1 : addUp f row with
  | none =>
    show J g w f0 _ f (again || false)
    rw [Bool.or_false]
    exact nochange fun s hs => by rw [e1] at hs; cases hs
  | some n =>
    cases e2 : dlk f X with
    | none => rw [e2] at hkey; cases hkey
    | some o =>
      cases o with
      | none =>
        show J g w f0 _ (dput f X (some (n + 1))) (again || true)
        rw [Bool.or_true]
        exact change n e1 fun m hm => by rw [e2] at hm; cases hm
      | some m =>
        by_cases h : n + 1 < m
        · show J g w f0 _ (if n + 1 < m then (dput f X (some (n + 1)), true) else (f, false)).1 (again || (if n + 1 < m then (dput f X (some (n + 1)), true) else (f, false)).2)
          rw [if_pos h, Bool.or_true]
          exact change n e1 fun m' hm => by rw [e2] at hm; cases hm; exact h
        · show J g w f0 _ (if n + 1 < m then (dput f X (some (n + 1)), true) else (f, false)).1 (again || (if n + 1 < m then (dput f X (some (n + 1)), true) else (f, false)).2)
          rw [if_neg h, Bool.or_false]
          exact nochange fun s hs => by
            rw [e1] at hs
            have : n = s := Option.some.inj hs
            exact ⟨m, e2, by omega⟩
/-- all rules, name by name -/
def allR (g : Gr) (i : Nat) : List (Str × List Str) := (g.names.take i).flatMap fun X => (g.gm.rules X).map fun r => (X, r.2)
theorem mem_allR {g : Gr} {X l : Str} {row : List Str} (hX : X ∈ g.names) (hr : (l, row) ∈ g.gm.rules X) : (X, row) ∈ allR g g.names.length := by
  unfold allR
  rw [List.take_length]
  exact List.mem_flatMap.mpr ⟨X, hX, List.mem_map.mpr ⟨(l, row), hr, rfl⟩⟩
/-- ahead of a pass -/
structure Pass (g : Gr) (w : Str → Nat) (B k : Nat) (f : Nd) (again : Bool) : Prop where
  keys : f.map (·.1) = g.names
  low : ∀ X n, dlk f X = some (some n) → (w X : Int) ≤ n
  lev : ∀ X ∈ g.names, w X ≤ k → Fin w f X
  on : again = true → k ≤ B
  off : again = false → ∀ X ∈ g.names, Fin w f X
theorem Pass.begin {g : Gr} {w : Str → Nat} {B k : Nat} {f : Nd} {again : Bool} (p : Pass g w B k f again) : J g w f [] f false :=
  ⟨p.keys, p.low, fun _ h => h, fun _ h => (nomatch h), fun _ => ⟨rfl, fun _ h => (nomatch h)⟩, fun e => (nomatch e)⟩
theorem Pass.next {g : Gr} {w : Str → Nat} (W : Nms g.gm w) {B k : Nat} (hB : ∀ X ∈ g.names, w X ≤ B) {f0 f : Nd} {ag again : Bool} (p : Pass g w B k f0 ag) (j : J g w f0 (allR g g.names.length) f again) : Pass g w B (k + 1) f again := by
  refine ⟨j.keys, j.low, fun X hX hk => ?_, fun e => ?_, fun e => ?_⟩
  · obtain ⟨⟨l, row⟩, hr, e⟩ := W.n1 X hX
    have e : 1 + wt w row = w X := e
    refine j.prog (X, row) (mem_allR hX hr) e fun Y hY => p.lev Y (W.closed X hX _ hr Y hY) ?_
    have hY : Y ∈ row := hY
    have := wt_le_of_mem w hY
    omega
  · obtain ⟨X, hX, hn⟩ := j.diff e
    have h1 := hB X hX
    have h2 : ¬ w X ≤ k := fun z => hn (p.lev X hX z)
    omega
  · obtain ⟨e1, e2⟩ := j.same e
    have all : ∀ n, ∀ X ∈ g.names, w X = n → Fin w f X := by
      intro n
      induction n using Nat.strongRecOn with
      | ind n ih =>
        intro X hX hw
        obtain ⟨⟨l, row⟩, hr, e3⟩ := W.n1 X hX
        have e3 : 1 + wt w row = w X := e3
        have h1 := addUp_fin (w := w) (f := f) (row := row) fun Y hY => ih (w Y) (by
          have := wt_le_of_mem w hY
          omega) Y (W.closed X hX _ hr Y hY) rfl
        rw [e1] at h1 ⊢
        obtain ⟨m, h2, h3⟩ := e2 (X, row) (mem_allR hX hr) _ h1
        have h4 := j.low X m (by rw [e1]; exact h2)
        have h2 : dlk f0 X = some (some m) := h2
        show dlk f0 X = some (some (w X : Int))
        rw [h2]
        congr 2
        omega
    exact fun X hX => all _ X hX rfl
/-- the norms told -/
def wd (g : Gr) (w : Str → Nat) : Nd := g.names.map fun X => (X, some (w X : Int))
theorem Pass.done {g : Gr} {w : Str → Nat} {B k : Nat} {f : Nd} (nd : g.names.Nodup) (p : Pass g w B k f false) : f = wd g w := by
  have h := p.off rfl
  have nk : (f.map (·.1)).Nodup := by rw [p.keys]; exact nd
  have e : f.map (fun q => ((q.1, some (w q.1 : Int)) : Str × Option Int)) = f := by
    conv => rhs; rw [← List.map_id f]
    apply List.map_congr_left
    intro q hq
    have h1 := dlk_of_mem nk (show (q.1, q.2) ∈ f from hq)
    have h2 : dlk f q.1 = some (some (w q.1 : Int)) := h q.1 (by rw [← p.keys]; exact List.mem_map.mpr ⟨q, hq, rfl⟩)
    rw [h1] at h2
    exact Prod.ext rfl (Option.some.inj h2).symm
  rw [← e]
  unfold wd
  rw [← p.keys, List.map_map]
  rfl
theorem Pass.first {g : Gr} {w : Str → Nat} (W : Nms g.gm w) {B : Nat} : Pass g w B 0 (g.names.map fun X => (X, Option.none)) true := by
  have none_ : ∀ X n, dlk (g.names.map fun X => ((X, Option.none) : Str × Option Int)) X = some (some n) → False := fun X n h => by
    have := dlk_mem h
    obtain ⟨Y, _, e⟩ := List.mem_map.mp this
    cases e
  refine ⟨?_, fun X n h => (none_ X n h).elim, fun X hX h => ?_, fun _ => Nat.zero_le _, fun e => nomatch e⟩
  · rw [List.map_map]
    exact List.map_id' _
  · have := W.pos (X := X) hX
    omega
theorem bound_ (w : Str → Nat) : ∀ ns : List Str, ∃ B, ∀ X ∈ ns, w X ≤ B
  | [] => ⟨0, fun _ h => nomatch h⟩
  | Y :: ns => by
    obtain ⟨B, h⟩ := bound_ w ns
    exact ⟨B + w Y, fun X hX => (List.mem_cons.mp hX).elim (fun e => by rw [e]; omega) (fun hX => by have := h X hX; omega)⟩
end SG

set_option Elab.async false
set_option linter.all false
set_option maxRecDepth 100000
set_option maxHeartbeats 4000000
set_option autoImplicit false
/-! bases: outs_of; norms: lessening. -/
namespace SG
open PySem PySem.Spec PyProof.Rows L2 LamX C8
abbrev sNorms : Stmt := top 18
abbrev sLess : Stmt := top 20
def spOutsOf (T : List (Addr × Str)) : Sp := fun vs H Q _ => ∃ (v u : V) (b : Bs) (sts : List Step), vs = [.str "row", v, u] ∧ At H v (Dct.mk b) ∧ At H u sts ∧ sts.length ≤ 100000 ∧ (∀ s ∈ sts, (out (dlk b) s.2).length ≤ 100000) ∧ Ret T H Q (outsOf cn (dlk b) sts)
/-- the dict of norms tells w -/
def KnW (kn : Nd) (g : Gr) (w : Str → Nat) : Prop := ∀ X, (dlk g.stored X).isSome = true → dlk kn X = some (some (w X : Int))
def spLess (T : List (Addr × Str)) (C : Addr) : Sp := fun vs H Q _ => ∃ (v u : V) (g : Gr) (kn : Nd) (w : Str → Nat) (X : Str), vs = [v, u, .str X] ∧ GrAt C H v g ∧ At H u (Dct.mk kn) ∧ GSm g ∧ KnW kn g w ∧ (dlk g.stored X).isSome = true ∧ Ret T H Q (lessRules g.gm w X)
theorem KnW.add {kn : Nd} {g : Gr} {w : Str → Nat} (h : KnW kn g w) {row : List Str} (k : Kn g row) : addUp kn row = some (wt w row : Int) := addUp_fin fun Y hY => h Y (k Y hY)
theorem KnW.kn {kn : Nd} {g : Gr} {w : Str → Nat} (h : KnW kn g w) {row : List Str} (k : Kn g row) : KnN kn row := fun Y hY => by rw [h Y (k Y hY)]; rfl
section
variable {P : Program} {w : World} {K : PySem.W.Frag} {mg : Str → Option Value} {base : Heap} {T : List (Addr × Str)} {C : Addr}
theorem scOutsOf : FnScope ["kind", "base", "steps", "letter", "result"] ["kind", "base", "steps"] (fnScope sOutsOf) := fnScope_by (by decide +kernel)
theorem cal_outs_of (X : Gs mg) (cOnce : Cal P w K mg base 1 "each_once" (spOnce T) []) (cPut : Cal P w K mg base 1 "put_out" (spPutOut T) []) (F : DefB K mg "outs_of" sOutsOf ["kind", "base", "steps"]) : Cal P w K mg base 2 "outs_of" (spOutsOf T) [] := by
  refine cal_of F scOutsOf (fun vs H Q E h => ?_) (fun f cdv A outer s H vs Q E hr h => ?_)
  · obtain ⟨v, u, b, sts, rfl, _⟩ := h
    rfl
  · obtain ⟨v, u, b, sts, rfl, hd, ⟨a, ws, rfl, ha, hws⟩, hlen, hol, k⟩ := h
    -- return each_once([(letter, put_out(kind, base, result)) for letter, result in steps])
    refine ⟨_, pss_one (ps_ret (pe_c cOnce hr (by decide) rfl (pa_cons (pe_lc (own := [("letter", 3), ("result", 4)]) rfl scOutsOf.nd (pi_list (pv 2))
        (blkOk_by (N := ["kind", "base", "steps", "letter", "result"]) (sc := fnScope sOutsOf) (by decide +kernel))
        (fun _ _ _ _ _ => pg_tup2K K rfl rfl scOutsOf.nd (i := 3) (j := 4) rfl rfl (.inl rfl) (.inl rfl) (.inr rfl) (.inr rfl))
        (fun _ _ _ _ _ => pts_nil) (fun _ _ _ _ _ => pe_tup (pa_cons (pv 3) (pa_cons (pe_c cPut hr (by decide) rfl (pa_cons (pv 0) (pa_cons (pv 1) (pa_cons (pv 4) pa_nil)))) pa_nil)))) pa_nil))), ?_⟩
    refine ⟨_, rfl, a, rfl, ⟨_, SqL.of ha⟩, fun D hD => ?_⟩
    refine lc_rep T H (fun s : Step => some (s.1, out (dlk b) s.2)) hD (fun _ z => z) ha hws hlen (fun i v2 y H3 hi hat q3 hDn Ky Kn' ky kn => ?_) (fun H3 ys q3 h3 hA => ?_)
    · obtain ⟨b2, u, z, rfl, hb2, hu', hz⟩ := hat
      refine ⟨b2, _, rfl, SqT.of (q3.tup hb2), rfl, _, _, rfl, _, _, rfl, rfl, rfl, yes_if ?_⟩
      refine ⟨_, rfl, _, rfl, _, rfl, _, rfl, v, z, b, y.2, rfl, hd.mono q3.kp, hz.mono q3.kp, hol y (List.mem_of_getElem? hi), fun v3 H4 s4 h4 => ⟨by show 2 ≤ sizeLine; decide, fun t ht => ?_⟩⟩
      have s5 : Sm T H4 (upd H4 t (.tup [u, v3])) := Sm.new ht
      have ht3 : H3 t = Option.none := s4.fr _ ht
      refine ky _ (y.1, out (dlk b) y.2) _ rfl (s4.trans s5) (At.mono (H := dif (upd H4 t (.tup [u, v3])) H3) ⟨t, u, v3, rfl, by rw [dif_new ht3, upd_same], hu', h4.mono (dif_mono (fun _ z => z) s5.kp)⟩ (kp_new q3 hDn (Kp.refl _)))
    · have ef : sts.filterMap (fun s : Step => some (s.1, out (dlk b) s.2)) = sts.map fun s => (s.1, out (dlk b) s.2) := by
        rw [← List.filterMap_eq_map]
        rfl
      rw [ef] at hA
      refine ⟨D, ys, _, _, rfl, h3, hA, hid_kp.trans dif_kp, by rw [List.length_map]; exact hlen, fun us p2 H4 sm4 hp2 h4 hus => ?_⟩
      exact k _ _ (q3.trans sm4) ⟨p2, us, rfl, by rw [dif_new (q3.fr _ hp2)]; exact h4, hus.mono (hid_kp.trans (dif_mono (fun _ z => z) sm4.kp))⟩
theorem scLess : FnScope ["grammar", "known", "name", "rule"] ["grammar", "known", "name"] (fnScope sLess) := fnScope_by (by decide +kernel)
theorem cal_less (X : Gs mg) (cAdd : Cal P w K mg base 1 "added_up" (spAddedUp T) []) (cRules : Met P w K mg base 1 C "rules_of" (spRulesOf T C) []) (F : DefB K mg "lessening" sLess ["grammar", "known", "name"]) : Cal P w K mg base 2 "lessening" (spLess T C) [] := by
  refine cal_of F scLess (fun vs H Q E h => ?_) (fun f cdv A outer s H vs Q E hr h => ?_)
  · obtain ⟨v, u, g, kn, wN, Y, rfl, _⟩ := h
    rfl
  · obtain ⟨v, u, g, kn, wN, Y, rfl, hg, hd, gs, kw, hY, k⟩ := h
    have hu := hu_of hr
    obtain ⟨rs, hrs⟩ := Option.isSome_iff_exists.mp hY
    -- return [rule for rule in grammar.rules_of(name) if added_up(known, rule[1]) == known[name] - 1]
    refine ⟨_, pss_one (ps_ret (pe_lc (own := [("rule", 3)]) rfl scLess.nd (pi_list (pe_mt cRules hr (by decide) (pv 0) (pa_cons (pv 2) pa_nil)))
        (blkOk_by (N := ["grammar", "known", "name", "rule"]) (sc := fnScope sLess) (by decide +kernel))
        (fun _ _ _ _ _ => pg_name (i := 3) scLess.nd rfl (Or.inl rfl) (.inr rfl))
        (fun _ _ _ _ _ => pts_one (pt_cmpR op_eq (pe_c cAdd hr (by decide) rfl (pa_cons (pv 1) (pa_cons (pe_ix (ix_tupK K rfl) (pv 3) pe_int (fun _ _ => rfl)) pa_nil))) (pe_op op_sub (pe_dget hu (pv 1) (pv 2) (fun _ _ => rfl)) pe_int) (nomark _)))
        (fun _ _ _ _ _ => pv 3))), ?_⟩
    obtain ⟨p, dx, kn', d, od, rfl, h1, _⟩ := id hg
    refine ⟨_, rfl, p, dx, _, rfl, h1, gfs_no _ _ _ (by decide +kernel) (by decide +kernel) (by decide +kernel), _, rfl, _, g, Y, rs, rfl, hg, hrs, Nat.le_trans (gs.few Y rs hrs) (by decide), fun v2 H2 sm2 hv2 => ?_⟩
    obtain ⟨b, ws, rfl, hb, hws⟩ := hv2
    have hb2 := (dif_some hb).2
    refine ⟨b, rfl, ⟨_, SqL.of hb2⟩, fun D hD => ?_⟩
    refine lc_rep T H (fun r : Step => if wt wN r.2 + 1 = wN Y then some r else Option.none) hD (fun b z => sm2.fr _ z) hb2 hws (Nat.le_trans (gs.few Y rs hrs) (by decide)) (fun i v y H3 hi hat q3 hDn Ky Kn' ky kz => ?_) (fun H3 ys q3 h3 hA => ?_)
    · have hat' := (hat.mono dif_kp).mono q3.kp
      obtain ⟨b2, u2, z, e, hb2', hu', hz⟩ := id hat'
      subst e
      have hk : Kn g y.2 := gs.cl Y rs hrs y (List.mem_of_getElem? hi)
      have hsh := gs.short Y rs hrs y (List.mem_of_getElem? hi)
      have sm3 := sm2.trans q3
      refine ⟨rfl, _, rfl, _, rfl, b2, _, 1, z, rfl, rfl, SqT.of hb2', atI_nat (j := 1) rfl, u, z, kn, y.2, rfl, hd.mono sm3.kp, hz, kw.kn hk, Nat.le_trans hsh (by decide), fun H4 s4 => ?_⟩
      rw [kw.add hk]
      obtain ⟨d2, e2, _, hg2⟩ := (hd.mono (sm3.trans s4).kp).dlk Y
      subst e2
      rw [kw Y hY] at hg2
      obtain ⟨u3, hg2, hu3⟩ := hg2
      have hu3 : u3 = V.int (wN Y : Int) := hu3
      subst hu3
      refine ⟨_, rfl, _, rfl, d2, _, rfl, hg2, (wN Y : Int), 1, rfl, rfl, rfl, _, rfl, ?_⟩
      by_cases e : wt wN y.2 + 1 = wN Y
      · rw [decide_eq_true (by show V.int (wt wN y.2 : Int) = V.int ((wN Y : Int) - 1); congr 1; omega)]
        refine iteT ⟨_, rfl, ky _ y H4 (if_pos e) s4 (hat.mono ?_)⟩
        refine (dif_mono (fun _ z => z) (q3.trans s4).kp).hid ?_
        cases q : H D with
        | none => exact (dif_new q).trans hD
        | some o => exact dif_old q
      · rw [decide_eq_false (by show ¬ V.int (wt wN y.2 : Int) = V.int ((wN Y : Int) - 1); intro z; have := V.int.inj z; omega)]
        exact iteF (kz H4 (if_neg e) s4)
    · have ef : rs.filterMap (fun r : Step => if wt wN r.2 + 1 = wN Y then some r else Option.none) = lessRules g.gm wN Y := by
        unfold lessRules
        rw [rules_of_some hrs, ← List.filterMap_eq_filter]
        congr 1
        funext r
        by_cases e : wt wN r.2 + 1 = wN Y
        · simp [e, Option.guard]
        · simp [e, Option.guard]
      rw [ef] at hA
      exact k _ _ (sm2.trans q3) (lc_new h3 (sm2.fr _ hD) hA)
end
end SG

set_option Elab.async false
set_option linter.all false
set_option maxRecDepth 100000
set_option maxHeartbeats 4000000
set_option autoImplicit false
/-! norms: the loop. -/
namespace SG
open PySem PySem.Spec PyProof.Rows L2 LamX C8
def spNorms (T : List (Addr × Str)) (C : Addr) : Sp := fun vs H Q _ => ∃ (v : V) (g : Gr) (w : Str → Nat), vs = [v] ∧ GrAt C H v g ∧ GSm g ∧ Nms g.gm w ∧ Ret T H Q (Dct.mk (wd g w))
theorem kv_any {H H' : Hp} : ∀ {ps : List (Key × V)} {f : Nd}, AllKv H ps f → AllKv H' ps f
  | [], [], _ => True.intro
  | [], _ :: _, h => h.elim
  | _ :: _, [], h => h.elim
  | p :: ps, (X, o) :: f, h => ⟨h.1, by
      have h2 : At H p.2 o := h.2.1
      show At H' p.2 o
      cases o with
      | none => exact h2
      | some n => exact h2, kv_any h.2.2⟩
theorem allR_succ {g : Gr} {i : Nat} {X : Str} (h : g.names[i]? = some X) : allR g (i + 1) = allR g i ++ (g.gm.rules X).map fun r => (X, r.2) := by
  unfold allR
  rw [List.take_add_one, h]
  rw [List.flatMap_append]
  congr 1
  simp
section
variable {P : Program} {w : World} {K : PySem.W.Frag} {mg : Str → Option Value} {base : Heap} {T : List (Addr × Str)} {C : Addr}
theorem scNorms : FnScope ["grammar", "name", "found", "again", "letter", "row", "norm"] ["grammar"] (fnScope sNorms) := fnScope_by (by decide +kernel)
theorem cal_norms (X : Gs mg) (cAdd : Cal P w K mg base 1 "added_up" (spAddedUp T) []) (cNames : Met P w K mg base 1 C "names" (spNames T C) []) (cRules : Met P w K mg base 1 C "rules_of" (spRulesOf T C) [])
    (F : DefB K mg "norms" sNorms ["grammar"]) : Cal P w K mg base 2 "norms" (spNorms T C) [] := by
  refine cal_of F scNorms (fun vs H Q E h => ?_) (fun f cdv A outer s H vs Q E hr h => ?_)
  · obtain ⟨v, g, wN, rfl, _⟩ := h
    rfl
  · obtain ⟨v, g, wN, rfl, hg, gs, W, k⟩ := h
    have hu := hu_of hr
    refine ⟨_, pss_cons (ps_set (i := 2) scNorms.nd rfl (Or.inl rfl) (pe_callTy (cr_dictT (α := Option Int) rfl) (by rfl) X.dict boot_dict_ (pa_cons (pe_lc (own := [("name", 1)]) rfl scNorms.nd (pi_list (pe_mt0 cNames hr (by decide) (pv 0)))
          (blkOk_by (N := ["grammar", "name", "found", "again", "letter", "row", "norm"]) (sc := fnScope sNorms) (by decide +kernel))
          (fun _ _ _ _ _ => pg_name (i := 1) scNorms.nd rfl (Or.inl rfl) (.inr rfl)) (fun _ _ _ _ _ => pts_nil) (fun _ _ _ _ _ => pe_tup (pa_cons (pv 1) (pa_cons pe_non pa_nil)))) pa_nil)))
      (pss_cons (ps_set (i := 3) scNorms.nd rfl (Or.inl rfl) pe_bl)
      (pss_cons (ps_while PassesOwn.never (pt_val (pv 3))
        (pss_cons (ps_set (i := 3) scNorms.nd rfl (Or.inl rfl) pe_bl)
        (pss_one (ps_for PassesOwn.never rfl (pi_list (pe_mt0 cNames hr (by decide) (pv 0))) (pg_name (i := 1) scNorms.nd rfl (Or.inl rfl))
          (pss_one (ps_for PassesOwn.never rfl (pi_list (pe_mt cRules hr (by decide) (pv 0) (pa_cons (pv 1) pa_nil))) (pg_tup2K K rfl rfl scNorms.nd (i := 4) (j := 5) rfl rfl (.inl rfl) (.inl rfl) (.inl rfl) (.inl rfl))
            (pss_cons (ps_set (i := 6) scNorms.nd rfl (Or.inl rfl) (pe_c cAdd hr (by decide) rfl (pa_cons (pv 2) (pa_cons (pv 5) pa_nil))))
            (pss_one (ps_if (PW.pt (pw_and (pt_cmp (pc_notN (pv 6))) (pw_and1 (PW.pt (pw_or (pt_cmp (pc_isN (pe_dget hu (pv 2) (pv 1) (fun _ _ => rfl)))) (pw_or1 (pt_cmpR op_lt (pe_op op_add (pv 6) pe_int) (pe_dget hu (pv 2) (pv 1) (fun _ _ => rfl)) (nomark _))))))))
              (pss_cons (ps_dput hu (pv 2) (pv 1) (pe_op op_add (pv 6) pe_int) rfl) (pss_one (ps_set (i := 3) scNorms.nd rfl (Or.inl rfl) pe_bl))) pss_nil)))))))))
      (pss_one (ps_ret (pv 2))))), ?_⟩
    obtain ⟨p, dx, kn', d0, od, rfl, h1, _⟩ := id hg
    have noN : (gfs kn' d0 od).lookup ("names" : Str) = Option.none := gfs_no _ _ _ (by decide +kernel) (by decide +kernel) (by decide +kernel)
    have noR : (gfs kn' d0 od).lookup ("rules_of" : Str) = Option.none := gfs_no _ _ _ (by decide +kernel) (by decide +kernel) (by decide +kernel)
    have hmany := gs.many
    -- found = dict([(name, None) for name in grammar.names()])
    refine ⟨_, rfl, p, dx, _, rfl, h1, noN, _, g, rfl, hg, fun v2 H2 sm2 hv2 => ?_⟩
    obtain ⟨b, ws, rfl, hb, hws⟩ := hv2
    have hb2 := (dif_some hb).2
    refine ⟨b, rfl, ⟨_, SqL.of hb2⟩, fun D hD => ?_⟩
    refine lc_rep T H (fun Y : Str => some ((Y, Option.none) : Str × Option Int)) hD (fun b z => sm2.fr _ z) hb2 hws (Nat.le_trans gs.many (by decide)) (fun i v y H3 hi hat q3 hDn Ky Kn' ky kz => ?_) (fun H3 ys q3 h3 hA => ?_)
    · have hat : v = V.str y := hat
      subst hat
      refine ⟨rfl, yes_if ⟨_, rfl, by show 2 ≤ sizeLine; decide, fun t ht => ?_⟩⟩
      refine ky _ (y, Option.none) _ rfl (Sm.new ht) (At.mono (H := dif (upd H3 t (.tup [.str y, .non])) H3) ⟨t, _, _, rfl, by rw [dif_new ht, upd_same], rfl, rfl⟩ (kp_new (sm2.trans q3) hDn (Kp.refl _)))
    have ef : g.names.filterMap (fun Y : Str => some ((Y, Option.none) : Str × Option Int)) = g.names.map fun Y => (Y, Option.none) := by
      rw [← List.filterMap_eq_map]
      rfl
    rw [ef] at hA
    have sm3 := sm2.trans q3
    refine ⟨_, D, ys, _, rfl, h3, hA, hid_kp.trans dif_kp, fun d ps hd hps => ?_⟩
    have ek : (g.names.map fun Y => ((Y, Option.none) : Str × Option Int)).map (·.1) = g.names := by
      rw [List.map_map]
      exact List.map_id' _
    rw [dmerge_new _ [] (by rw [ek]; exact gs.nd) (fun _ _ z => nomatch z), List.nil_append] at hps
    have sm4 : Sm T H (upd H3 d (.dK ps)) := sm3.trans (Sm.new hd)
    have hd0 : H d = Option.none := sm3.fr _ hd
    obtain ⟨B, hB⟩ := bound_ wN g.names
    -- while again
    refine ⟨fun m σ H' => ∃ (kk : Nat) (f : Nd) (again : Bool) (ps : List (Key × V)), kk + m = B + 1 ∧ (∃ z1 z4 z5 z6, σ = [some (.ref p), z1, some (.ref d), some (.bl again), z4, z5, z6]) ∧ Sm T H H' ∧ H' d = some (.dK ps) ∧ AllKv H ps f ∧ Pass g wN B kk f again,
      ⟨B + 1, 0, _, true, ps, by omega, ⟨_, _, _, _, rfl⟩, sm4, upd_same, kv_any hps, Pass.first W⟩, ?_⟩
    rintro m σ H1 ⟨kk, f0, again, ps0, hm, ⟨z1, z4, z5, z6, rfl⟩, s1, hd1, hk1, hp⟩
    refine ⟨_, rfl, again, rfl, ?_⟩
    cases again with
    | false =>
      refine iteF ⟨_, rfl, k _ _ s1 ⟨d, ps0, rfl, .inl (by rw [dif_new hd0]; exact hd1), ?_⟩⟩
      rw [← hp.done gs.nd]
      exact kv_any hk1
    | true =>
      have hkB := hp.on rfl
      refine iteT ⟨_, fun σ' H' h => h, ?_⟩
      have hg1 := hg.mono s1.kp
      refine ⟨_, rfl, p, dx, _, rfl, s1.ins h1, noN, _, g, rfl, hg1, fun v2 H2 sm2 hv2 => ?_⟩
      obtain ⟨b, ws, rfl, hb, hws⟩ := hv2
      have hb2 := (dif_some hb).2
      rw [strs_at] at hws
      subst hws
      have hdb : d ≠ b := fun e => by
        rw [e] at hd1
        rw [(dif_some hb).1] at hd1
        cases hd1
      refine ⟨b, rfl, ⟨_, SqL.of hb2⟩, for_list (K := K) (a := b) (xs := g.names.map V.str)
        (fun i σ H' => ∃ (f : Nd) (ag : Bool) (ps : List (Key × V)), (∃ z1 z4 z5 z6, σ = [some (.ref p), z1, some (.ref d), some (.bl ag), z4, z5, z6]) ∧ Sm T H H' ∧ H' b = some (.lst (g.names.map V.str)) ∧ H' d = some (.dK ps) ∧ AllKv H ps f ∧ J g wN f0 (allR g i) f ag)
        ⟨f0, false, ps0, ⟨_, _, _, _, rfl⟩, s1.trans sm2, hb2, sm2.dK hd1, hk1, hp.begin⟩ (fun i σ H' _ h => by obtain ⟨_, _, _, _, _, h, _⟩ := h; exact SqL.of h) ?_ ?_⟩
      · rintro i y σ H3 hi ⟨f1, ag, ps1, ⟨y1, y4, y5, y6, rfl⟩, s3, hb3, hd3, hk3, j3⟩
        rw [List.getElem?_map] at hi
        obtain ⟨Y, hY, rfl⟩ := Option.map_eq_some_iff.mp hi
        have hYn : Y ∈ g.names := List.mem_of_getElem? hY
        obtain ⟨rs, hrs⟩ := some_of_name gs hYn
        have hg3 := hg.mono s3.kp
        refine ⟨_, rfl, p, dx, _, rfl, s3.ins h1, noR, _, rfl, _, g, Y, rs, rfl, hg3, hrs, Nat.le_trans (gs.few Y rs hrs) (by decide), fun v4 H4 sm4 hv4 => ?_⟩
        obtain ⟨c, us, rfl, hc, hus⟩ := hv4
        have hc4 := (dif_some hc).2
        have hdc : d ≠ c := fun e => by
          rw [e] at hd3
          rw [(dif_some hc).1] at hd3
          cases hd3
        have hbc : b ≠ c := fun e => by
          rw [e] at hb3
          rw [(dif_some hc).1] at hb3
          cases hb3
        have hul := hus.length
        refine ⟨c, rfl, ⟨_, SqL.of hc4⟩, for_list (K := K) (a := c) (xs := us)
          (fun j σ H' => ∃ (f : Nd) (ag : Bool) (ps : List (Key × V)), (∃ z4 z5 z6, σ = [some (.ref p), some (.str Y), some (.ref d), some (.bl ag), z4, z5, z6]) ∧ Sm T H H' ∧ Kp (dif H4 H3) H' ∧ H' b = some (.lst (g.names.map V.str)) ∧ H' c = some (.lst us) ∧ H' d = some (.dK ps) ∧ AllKv H ps f ∧ J g wN f0 (allR g i ++ (rs.take j).map fun r => (Y, r.2)) f ag)
          ⟨f1, ag, ps1, ⟨_, _, _, rfl⟩, s3.trans sm4, dif_kp, sm4.lst hb3, hc4, sm4.dK hd3, hk3, by rw [List.take_zero, List.map_nil, List.append_nil]; exact j3⟩ (fun i σ H' _ h => by obtain ⟨_, _, _, _, _, _, _, h, _⟩ := h; exact SqL.of h) ?_ ?_⟩
        · rintro j v5 σ H5 hj ⟨f5, ag5, ps5, ⟨x4, x5, x6, rfl⟩, s5, k5, hb5, hc5, hd5, hk5, j5⟩
          obtain ⟨r, hr5, hat⟩ := hus.getV hj
          obtain ⟨t, u1, u2, rfl, ht, hu1, hu2⟩ := hat.mono k5
          have hu1 : u1 = V.str r.1 := hu1
          subst hu1
          have hkr : Kn g r.2 := gs.cl Y rs hrs r (List.mem_of_getElem? hr5)
          have hat5 : At H5 (.ref d) (Dct.mk f5) := ⟨d, ps5, rfl, .inl hd5, kv_any hk5⟩
          have hkn5 : KnN f5 r.2 := fun Z hZ => dlk_isSome.mpr (by rw [j5.keys]; exact (kn_iff gs).mp hkr Z hZ)
          have et : rs.take (j + 1) = rs.take j ++ [r] := by
            rw [List.take_add_one, hr5]
            rfl
          have jn := j5.step W hYn (l := r.1) (row := r.2) (by rw [rules_of_some hrs]; exact List.mem_of_getElem? hr5)
          have eR : (allR g i ++ (rs.take j).map fun r => (Y, r.2)) ++ [(Y, r.2)] = allR g i ++ (rs.take (j + 1)).map fun r => (Y, r.2) := by
            rw [et, List.map_append, List.append_assoc]
            rfl
          rw [eR] at jn
          refine ⟨t, _, rfl, SqT.of ht, rfl, _, _, rfl, _, _, rfl, rfl, ?_⟩
          refine ⟨_, rfl, _, rfl, .ref d, u2, f5, r.2, rfl, hat5, hu2, hkn5, Nat.le_trans (gs.short Y rs hrs r (List.mem_of_getElem? hr5)) (by decide), fun H6 s6 => ?_⟩
          have hd6 := s6.dK hd5
          have keep6 : Kp (dif H4 H3) H6 := k5.trans s6.kp
          have dne : ∀ H' o, Kp (dif H4 H3) H' → Kp (dif H4 H3) (upd H' d o) := fun H' o kk b' o' e n => by
            have : b' ≠ d := fun z => by
              rw [z, dif_old hd3] at e
              cases e
            rw [upd_ne this]
            exact kk b' o' e n
          -- the test
          unfold relax at jn
          refine ⟨_, rfl, _, rfl, ?_⟩
          cases e1 : addUp f5 r.2 with
          | none =>
            rw [e1] at jn
            refine iteF ?_
            refine ⟨f5, ag5, ps5, ⟨_, _, _, rfl⟩, s5.trans s6, keep6, s6.lst hb5, s6.lst hc5, hd6, hk5, ?_⟩
            have := jn
            simpa using this
          | some n =>
            rw [e1] at jn
            have hne : (!decide (optV (some n) = V.non)) = true := by simp [optV]
            refine (show (if (!decide (optV (some n) = V.non)) = true then _ else _) from ?_)
            rw [hne]
            refine iteT ?_
            obtain ⟨dd, edd, _, hg6⟩ := (hat5.mono s6.kp).dlk Y
            cases edd
            have hY5 : (dlk f5 Y).isSome = true := dlk_isSome.mpr (by rw [j5.keys]; exact hYn)
            -- put it
            have doPut : J g wN f0 (allR g i ++ (rs.take (j + 1)).map fun r => (Y, r.2)) (dput f5 Y (some (n + 1))) true →
                ∃ (f : Nd) (ag : Bool) (ps : List (Key × V)), (∃ z4 z5 z6, [some (V.ref p), some (V.str Y), some (V.ref d), some (V.bl true), some (V.str r.1), some u2, some (V.int n)] = [some (V.ref p), some (V.str Y), some (V.ref d), some (V.bl ag), z4, z5, z6]) ∧ Sm T H (upd H6 d (.dK (putK ps5 (Sum.inr Y : Key) (.int (n + 1))))) ∧ Kp (dif H4 H3) (upd H6 d (.dK (putK ps5 (Sum.inr Y : Key) (.int (n + 1))))) ∧
                  (upd H6 d (.dK (putK ps5 (Sum.inr Y : Key) (.int (n + 1))))) b = some (.lst (g.names.map V.str)) ∧ (upd H6 d (.dK (putK ps5 (Sum.inr Y : Key) (.int (n + 1))))) c = some (.lst us) ∧ (upd H6 d (.dK (putK ps5 (Sum.inr Y : Key) (.int (n + 1))))) d = some (.dK ps) ∧ AllKv H ps f ∧ J g wN f0 (allR g i ++ (rs.take (j + 1)).map fun r => (Y, r.2)) f ag := fun jj =>
              ⟨_, true, _, ⟨_, _, _, rfl⟩, (s5.trans s6).mut hd0 hd6 True.intro, dne _ _ keep6, by rw [upd_ne hdb.symm]; exact s6.lst hb5, by rw [upd_ne hdc.symm]; exact s6.lst hc5, upd_same, hk5.put (X := Y) (v := .int (n + 1)) (x := some (n + 1)) rfl, jj⟩
            have hlen5 : ps5.length < sizeLine := by
              have e2 : f5.length = g.names.length := by rw [← j5.keys, List.length_map]
              have := hk5.length
              exact Nat.lt_of_le_of_lt (by omega : ps5.length ≤ 1000) (by decide)
            have dput6 : DPut H6 d (.str Y) (.int (n + 1)) (upd H6 d (.dK (putK ps5 (Sum.inr Y : Key) (.int (n + 1))))) := DPut.k (k := Sum.inr Y) hd6 hlen5
            cases e2 : dlk f5 Y with
            | none => rw [e2] at hY5; cases hY5
            | some o =>
              rw [e2] at hg6 jn
              obtain ⟨u6, hg6, hu6⟩ := hg6
              cases o with
              | none =>
                have hu6 : u6 = V.non := hu6
                subst hu6
                refine ⟨_, rfl, _, rfl, d, _, rfl, hg6, true, rfl, iteT (iteT ?_)⟩
                refine ⟨_, rfl, n, 1, rfl, rfl, _, rfl, _, rfl, d, _, rfl, dput6, doPut (by
                  have := jn
                  rw [Bool.or_true] at this
                  exact this)⟩
              | some mm =>
                have hu6 : u6 = V.int mm := hu6
                subst hu6
                refine ⟨_, rfl, _, rfl, d, _, rfl, hg6, false, rfl, iteF ?_⟩
                refine ⟨_, rfl, n, 1, rfl, rfl, _, rfl, _, rfl, d, _, rfl, hg6, n + 1, mm, rfl, rfl, _, rfl, ?_⟩
                by_cases e3 : n + 1 < mm
                · rw [decide_eq_true e3]
                  refine iteT ?_
                  refine ⟨_, rfl, n, 1, rfl, rfl, _, rfl, _, rfl, d, _, rfl, dput6, doPut (by
                    have := jn
                    simp only [e3, if_true, Bool.or_true] at this
                    exact this)⟩
                · rw [decide_eq_false e3]
                  refine iteF ⟨f5, ag5, ps5, ⟨_, _, _, rfl⟩, s5.trans s6, keep6, s6.lst hb5, s6.lst hc5, hd6, hk5, ?_⟩
                  have := jn
                  simp only [e3, if_false, Bool.or_false] at this
                  exact this
        · rintro σ H5 ⟨f5, ag5, ps5, ⟨x4, x5, x6, rfl⟩, s5, k5, hb5, hc5, hd5, hk5, j5⟩
          refine ⟨f5, ag5, ps5, ⟨_, _, _, _, rfl⟩, s5, hb5, hd5, hk5, ?_⟩
          rw [allR_succ hY, rules_of_some hrs]
          rw [hul, List.take_length] at j5
          exact j5
      · rintro σ H3 ⟨f1, ag, ps1, ⟨y1, y4, y5, y6, rfl⟩, s3, hb3, hd3, hk3, j3⟩
        rw [List.length_map] at j3
        exact ⟨m - 1, by omega, kk + 1, f1, ag, ps1, by omega, ⟨_, _, _, _, rfl⟩, s3, hd3, hk3, hp.next W hB j3⟩
end
end SG

set_option Elab.async false
set_option linter.all false
set_option maxRecDepth 100000
set_option maxHeartbeats 4000000
set_option autoImplicit false
/-! refine: base_of_norms, without. -/
namespace SG
open PySem PySem.Spec PyProof.Rows L2 LamX C8
abbrev sBase0 : Stmt := top 27
abbrev sWithout : Stmt := top 28
/-- the names by rising norms -/
def ordN (g : Gr) (w : Str → Nat) : List Str := g.names.mergeSort fun a b => decide (w a ≤ w b)
theorem ordN_ok {g : Gr} (gs : GSm g) (w : Str → Nat) : Ord g.gm w (ordN g w) := by
  have pm : (ordN g w).Perm g.names := List.mergeSort_perm _ _
  refine ⟨fun X => pm.mem_iff, pm.nodup_iff.mpr gs.nd, ?_⟩
  have h := List.pairwise_mergeSort (le := fun a b => decide (w a ≤ w b)) (fun a b c h k => by
    rw [decide_eq_true_eq] at h k ⊢
    omega) (fun a b => by
    rw [Bool.or_eq_true, decide_eq_true_eq, decide_eq_true_eq]
    omega) g.names
  exact h.imp fun {a b} e => by simpa using e
theorem ordN_len (g : Gr) (w : Str → Nat) : (ordN g w).length = g.names.length := (List.mergeSort_perm _ _).length_eq
def spByNorms (T : List (Addr × Str)) (C : Addr) : Sp := fun vs H Q _ => ∃ (v u : V) (g : Gr) (kn : Nd) (w : Str → Nat), vs = [v, u] ∧ GrAt C H v g ∧ At H u (Dct.mk kn) ∧ GSm g ∧ KnW kn g w ∧ Tabs T H ∧ Ret T H Q (ordN g w)
def spBase0 (T : List (Addr × Str)) (C : Addr) : Sp := fun vs H Q _ => ∃ (v u : V) (g : Gr) (kn : Nd) (w : Str → Nat), vs = [v, u] ∧ GrAt C H v g ∧ At H u (Dct.mk kn) ∧ GSm g ∧ KnW kn g w ∧ (∀ X ∈ g.names, w X ≤ 1000) ∧ Tabs T H ∧ Ret T H Q (Dct.mk (base0 w (ordN g w)))
def spWithout (T : List (Addr × Str)) : Sp := fun vs H Q _ => ∃ (v u : V) (whole part : List Str), vs = [.str "row", v, u] ∧ At H v whole ∧ At H u part ∧ whole.length ≤ 100000 ∧ Ret T H Q (without whole part)
section
variable {P : Program} {w : World} {K : PySem.W.Frag} {mg : Str → Option Value} {base : Heap} {T : List (Addr × Str)} {C : Addr}
theorem scBase0 : FnScope ["grammar", "known", "names", "name"] ["grammar", "known"] (fnScope sBase0) := fnScope_by (by decide +kernel)
theorem rep_one (x : V) : ∀ n : Nat, (List.replicate n [x]).flatten = List.replicate n x
  | 0 => rfl
  | n + 1 => by rw [List.replicate_succ, List.flatten_cons, rep_one x n]; rfl
theorem cal_base0 {j : Nat} (X : Gs mg) (cBy : Cal P w K mg base j "by_norms" (spByNorms T C) []) (F : DefB K mg "base_of_norms" sBase0 ["grammar", "known"]) : Cal P w K mg base (j + 1) "base_of_norms" (spBase0 T C) [] := by
  refine cal_of F scBase0 (fun vs H Q E h => ?_) (fun f cdv A outer s H vs Q E hr h => ?_)
  · obtain ⟨v, u, g, kn, wN, rfl, _⟩ := h
    rfl
  · obtain ⟨v, u, g, kn, wN, rfl, hg, hd, gs, kw, hw, ht, k⟩ := h
    have hu := hu_of hr
    refine ⟨_, pss_cons (ps_set (i := 2) scBase0.nd rfl (Or.inr rfl) (pe_c cBy hr (Nat.le_refl _) rfl (pa_cons (pv 0) (pa_cons (pv 1) pa_nil))))
      (pss_one (ps_ret (pe_callTy (cr_dictT (α := List Str) rfl) (by rfl) X.dict boot_dict_ (pa_cons (pe_lc (own := [("name", 3)]) rfl scBase0.nd (pi_list (pe_slice sl_list (pv 2) (po_some pe_int) po_none))
        (blkOk_by (N := ["grammar", "known", "names", "name"]) (sc := fnScope sBase0) (by decide +kernel))
        (fun _ _ _ _ _ => pg_name (i := 3) scBase0.nd rfl (Or.inl rfl) (.inr rfl)) (fun _ _ _ _ _ => pts_nil)
        (fun _ _ _ _ _ => pe_tup (pa_cons (pv 3) (pa_cons (pe_op op_rep (pe_lst (pa_cons (pe_ix (ix_listK K rfl) (pv 2) pe_int (fun _ _ => rfl)) pa_nil)) (pe_dget hu (pv 1) (pv 3) (fun _ _ => rfl))) pa_nil)))) pa_nil)))), ?_⟩
    refine ⟨_, rfl, _, rfl, v, u, g, kn, wN, rfl, hg, hd, gs, kw, ht, fun v2 H2 sm2 hv2 => ?_⟩
    obtain ⟨b, ws, rfl, hb, hws⟩ := hv2
    have hb2 := (dif_some hb).2
    rw [strs_at] at hws
    subst hws
    have hO := ordN_ok gs wN
    have hlO : (ordN g wN).length ≤ 1000 := by rw [ordN_len]; exact gs.many
    refine ⟨_, rfl, 1, rfl, b, _, rfl, SqL.of hb2, fun q hq => ?_⟩
    have hbq : b ≠ q := ne_of_none hb2 hq
    have s3 : Sm T H2 (upd H2 q (.lst (cutV ((ordN g wN).map V.str) (some 1) Option.none))) := Sm.new hq
    refine ⟨q, rfl, ⟨_, SqL.of upd_same⟩, fun D hD => ?_⟩
    have hD2 : H2 D = Option.none := s3.fr _ hD
    cases eo : ordN g wN with
    | nil =>
      rw [eo] at hb2 hD s3
      have ecut : cutV (([] : List Str).map V.str) (some 1) Option.none = [] := by unfold cutV; simp
      refine lc_rep (S := H) (xs := ([] : List Str)) T H (fun Y : Str => some ((Y, ([] : List Str)))) (by rw [ecut] at hD ⊢; exact hD) (fun b z => sm2.fr _ (s3.fr _ z)) upd_same (by rw [ecut]; exact True.intro) (Nat.zero_le _) (fun i v y H3 hi => by simp at hi) (fun H3 ys q3 h3 hA => ?_)
      have hy : ys = [] := List.length_eq_zero_iff.mp hA.length
      subst hy
      refine ⟨H, D, [], [], rfl, h3, True.intro, (sm2.trans (s3.trans q3)).kp, fun p ps hp hps => ?_⟩
      have e0 : dmerge ([] : Bs) [] = [] := rfl
      rw [e0] at hps
      have : ps = [] := List.length_eq_zero_iff.mp hps.length
      subst this
      have sA := sm2.trans (s3.trans q3)
      refine k _ _ (sA.trans (Sm.new hp)) ⟨p, [], rfl, .inl (by rw [dif_new (sA.fr _ hp), upd_same]), ?_⟩
      show AllKv _ [] (base0 wN (ordN g wN))
      rw [eo]
      exact True.intro
    | cons h t =>
      rw [eo] at hb2 hD s3 hlO hO
      have ecut : cutV ((h :: t).map V.str) (some 1) Option.none = t.map V.str := cutV_from (k := 1) (xs := (h :: t).map V.str) (by simp)
      rw [ecut] at s3 hD ⊢
      have hlt : t.length + 1 ≤ 1000 := hlO
      refine lc_rep (S := H) (xs := t) T H (fun Y : Str => some ((Y, List.replicate (wN Y) h) : Str × List Str)) hD (fun b z => sm2.fr _ (s3.fr _ z)) upd_same (strs_at.mpr rfl) (by omega) (fun i v3 y H3 hi hat q3 hDn Ky Kn' ky kz => ?_) (fun H3 ys q3 h3 hA => ?_)
      · have hat : v3 = V.str y := hat
        subst hat
        have hyn : y ∈ g.names := (hO.mem y).mp (List.mem_cons_of_mem _ (List.mem_of_getElem? hi))
        have hb3 := (s3.trans q3).lst hb2
        have smA := sm2.trans (s3.trans q3)
        refine ⟨rfl, yes_if ⟨_, rfl, _, rfl, b, _, 0, .str h, rfl, rfl, SqL.of hb3, atI_nat (j := 0) rfl, by show 1 ≤ sizeLine; decide, fun r hr2 => ?_⟩⟩
        have s4 : Sm T H3 (upd H3 r (.lst [.str h])) := Sm.new hr2
        obtain ⟨d2, e2, _, hg2⟩ := (hd.mono (smA.trans s4).kp).dlk y
        have hys : (dlk g.stored y).isSome = true := by
          obtain ⟨rs, hrs⟩ := some_of_name gs hyn
          rw [hrs]
          rfl
        rw [kw y hys] at hg2
        obtain ⟨u3, hg2, hu3⟩ := hg2
        have hu3 : u3 = V.int (wN y : Int) := hu3
        subst hu3
        have hwy := hw y hyn
        refine ⟨_, e2 ▸ rfl, _, rfl, d2, _, rfl, hg2, r, _, _, rfl, rfl, upd_same, ?_, ?_, ?_, fun l hl => ⟨by show 2 ≤ sizeLine; decide, fun t2 ht2 => ?_⟩⟩
        · omega
        · omega
        · rw [Int.toNat_natCast, List.length_singleton, Nat.one_mul]
          exact Nat.le_trans hwy (by decide)
        · rw [Int.toNat_natCast, rep_one] at ht2 ⊢
          have s5 : Sm T _ (upd (upd H3 r (.lst [.str h])) l (.lst (List.replicate (wN y) (V.str h)))) := Sm.new hl
          have nlt : l ≠ t2 := ne_of_none upd_same ht2
          have s6 : Sm T _ (upd (upd (upd H3 r (.lst [.str h])) l (.lst (List.replicate (wN y) (V.str h)))) t2 (.tup [.str y, .ref l])) := Sm.new ht2
          have hl3 : H3 l = Option.none := s4.fr _ hl
          have ht3 : H3 t2 = Option.none := (s4.trans s5).fr _ ht2
          refine ky _ (y, List.replicate (wN y) h) _ rfl ((s4.trans s5).trans s6) (At.mono (H := dif (upd (upd (upd H3 r (.lst [.str h])) l (.lst (List.replicate (wN y) (V.str h)))) t2 (.tup [.str y, .ref l])) H3)
            ⟨t2, _, _, rfl, by rw [dif_new ht3, upd_same], rfl, l, _, rfl, by rw [dif_new hl3, upd_ne nlt, upd_same], by rw [strs_at, List.map_replicate]⟩ (kp_new smA hDn (Kp.refl _)))
      · have ef : t.filterMap (fun Y : Str => some ((Y, List.replicate (wN Y) h) : Str × List Str)) = base0 wN (h :: t) := by
          show _ = t.map fun X => (X, List.replicate (wN X) h)
          rw [← List.filterMap_eq_map]
          rfl
        rw [ef] at hA
        have sA := sm2.trans (s3.trans q3)
        have ek : (base0 wN (h :: t)).map (·.1) = t := by
          show ((t.map fun X => (X, List.replicate (wN X) h)).map (·.1)) = t
          rw [List.map_map]
          exact List.map_id' t
        refine ⟨_, D, ys, _, rfl, h3, hA, hid_kp.trans dif_kp, fun p ps hp hps => ?_⟩
        rw [dmerge_new _ [] (by rw [ek]; exact (List.nodup_cons.mp hO.nd).2) (fun _ _ z => nomatch z), List.nil_append] at hps
        refine k _ _ (sA.trans (Sm.new hp)) ⟨p, ps, rfl, .inl (by rw [dif_new (sA.fr _ hp), upd_same]), ?_⟩
        show AllKv _ ps (base0 wN (ordN g wN))
        rw [eo]
        exact hps.mono (hid_kp.trans (dif_mono (fun _ z => z) (Sm.new (T := T) hp).kp))
theorem scWithout : FnScope ["kind", "whole", "part", "rest", "name"] ["kind", "whole", "part"] (fnScope sWithout) := fnScope_by (by decide +kernel)
theorem cal_without (X : Gs mg) (F : DefB K mg "without" sWithout ["kind", "whole", "part"]) : Cal P w K mg base 1 "without" (spWithout T) [] := by
  refine cal_of F scWithout (fun vs H Q E h => ?_) (fun f cdv A outer s H vs Q E hr h => ?_)
  · obtain ⟨v, u, whole, part, rfl, _⟩ := h
    rfl
  · obtain ⟨v, u, whole, part, rfl, hw, hp, hlen, k⟩ := h
    have hu64 := hr.units
    obtain ⟨a, rfl, ha⟩ := hw.strs
    obtain ⟨b, rfl, hb⟩ := hp.strs
    refine ⟨_, pss_cons (ps_if (pt_cmpR op_eq (pv 0) pe_str (nomark _))
      (pss_cons (ps_if (pt_cmpR (op_neT (List Str) hu64) (pe_slice sl_list (pv 1) po_none (po_some (pe_lenK K rfl (by rfl) X.len (pa_cons (pv 2) pa_nil)))) (pv 2) (nomark _)) (pss_one (ps_ret pe_non)) pss_nil)
        (pss_one (ps_ret (pe_slice sl_list (pv 1) (po_some (pe_lenK K rfl (by rfl) X.len (pa_cons (pv 2) pa_nil))) po_none)))) pss_nil) pss_never, ?_⟩
    refine ⟨_, rfl, rfl, _, rfl, ?_⟩
    rw [decide_eq_true rfl]
    refine iteT ?_
    refine ⟨_, rfl, _, rfl, b, _, rfl, .inl (SqL.of hb), _, rfl, a, _, rfl, SqL.of ha, fun q hq => ?_⟩
    have sq : Sm T H (upd H q (.lst (cutV (whole.map V.str) Option.none (some (((part.map V.str).length : Nat) : Int))))) := Sm.new hq
    rw [cutV_to, List.length_map, ← List.map_take] at sq ⊢
    refine ⟨_, rfl, whole.take part.length, part, ⟨q, _, rfl, upd_same, strs_at.mpr rfl⟩, hp.mono sq.kp, _, rfl, ?_⟩
    by_cases e : whole.take part.length = part
    · rw [decide_eq_true e]
      refine iteF ?_
      refine ⟨_, rfl, _, rfl, b, _, rfl, .inl (SqL.of (sq.lst hb)), _, rfl, a, _, rfl, SqL.of (sq.lst ha), fun r hr2 => ?_⟩
      have hle : part.length ≤ whole.length := by
        have := congrArg List.length e
        rw [List.length_take] at this
        omega
      rw [List.length_map, cutV_from (by rw [List.length_map]; exact hle), ← List.map_drop]
      have hr0 : H r = Option.none := sq.fr _ hr2
      have ew : without whole part = some (whole.drop part.length) := if_pos e
      refine k _ _ (sq.trans (Sm.new hr2)) ?_
      rw [ew]
      exact ⟨r, _, rfl, by rw [dif_new hr0, upd_same], strs_at.mpr rfl⟩
    · rw [decide_eq_false e]
      refine iteT ?_
      have ew : without whole part = Option.none := if_neg e
      refine k _ _ sq ?_
      rw [ew]
      rfl
end
end SG

set_option Elab.async false
set_option linter.all false
set_option maxRecDepth 100000
set_option maxHeartbeats 4000000
set_option autoImplicit false
/-! dict != dict. -/
namespace SG
open PySem PySem.Spec PyProof.Rows L2 LamX C8
section
variable {X : Cx}
def rNeDct : R2 := fun v u H Q => ∃ (xs ys : Bs), At H v (Dct.mk xs) ∧ At H u (Dct.mk ys) ∧ Q (.bl (!deq xs ys)) H
theorem hits_of {pins : List (Addr × Obj)} {σ : L2.St} {H : Hp} {s : Shared} {A : Around} (I : Inv X pins σ H s) (hu : A.units + 10 < cLine) {qs : List (Key × V)} {ys : Bs} {vb : List (Key × Value)} (hq : AllKv H qs ys) (rb : KV qs vb) :
    ∀ {ps : List (Key × V)} {xs : Bs} {va : List (Key × Value)}, AllKv H ps xs → KV ps va → PySem.W.KeqHits A s vb va (xs.all fun p => decide (lk ys p.1 = some p.2))
  | [], [], _, _, r => by
    cases r
    exact .nil
  | [], _ :: _, _, h, _ => h.elim
  | _ :: _, [], _, h, _ => h.elim
  | (k, v) :: ps, (Y, m) :: xs, _, h, r => by
    cases r with
    | @cons _ q _ qs' h1 h2 =>
      obtain ⟨key, u⟩ := q
      obtain ⟨e1, r1⟩ := h1
      have e1 : k = key := e1
      have r1 : RelV v u := r1
      have hk : k = Sum.inr Y := h.1
      subst hk
      subst e1
      have hm : At H v m := h.2.1
      rw [List.all_cons]
      have lkd : lk ys Y = dlk ys Y := rfl
      show PySem.W.KeqHits A s vb ((Sum.inr Y, u) :: qs') (decide (lk ys Y = some m) && _)
      cases e : dlk ys Y with
      | none =>
        have hn : valV qs (Sum.inr Y : Key) = Option.none := hq.none e
        have rr : RelO (valV qs (Sum.inr Y : Key)) (valueAt vb (Sum.inr Y : Key)) := rb.val _
        rw [hn] at rr
        rw [lkd, e, decide_eq_false (by simp), Bool.false_and]
        exact .miss rr.none_of
      | some y =>
        obtain ⟨v2, hv2, hy⟩ := hq.some e
        have rr : RelO (valV qs (Sum.inr Y : Key)) (valueAt vb (Sum.inr Y : Key)) := rb.val _
        rw [hv2] at rr
        obtain ⟨u2, hu2, r2⟩ := rr.some_of
        have ee : decide (lk ys Y = some m) = decide (m = y) := by
          rw [lkd, e]
          exact decide_eq_decide.mpr ⟨fun z => (Option.some.inj z).symm, fun z => by rw [z]⟩
        rw [ee]
        exact .hit hu2 (PySem.W.eqAt_datum (at_holds I hm r1) (at_holds I hy r2) (by
          have : PySem.W.Datum.depth (List Str) = 1 := rfl
          omega)) (hits_of I hu hq rb h.2.2 h2)
theorem op_neDct (hu : X.A.units + 64 < cLine) : OpR X (compareOp .NotEq) rNeDct := by
  intro pins s σ H x y v u Q I rx ry h
  obtain ⟨xs, ys, ⟨a, ps, rfl, ha, hp⟩, ⟨b, qs, rfl, hb, hq⟩, q⟩ := h
  cases rx
  cases ry
  obtain ⟨_, la, va, ra, da⟩ := (show ObjOk X.prog X.w H s.heap a (.dK ps) from ha.ok I.hok)
  obtain ⟨_, lb, vb, rb, db⟩ := (show ObjOk X.prog X.w H s.heap b (.dK qs) from hb.ok I.hok)
  refine PySem.W.keq_ne la lb da db (by omega) (fun _ => hits_of I (A := X.A.in1) (by show X.A.units + 1 + 10 < cLine; omega) hq rb hp ra) ⟨.bl _, H, I, rfl, ?_⟩
  have e1 : va.length = xs.length := by rw [← hp.length]; exact ra.length.symm
  have e2 : vb.length = ys.length := by rw [← hq.length]; exact rb.length.symm
  rw [e1, e2]
  exact q
end
end SG

set_option Elab.async false
set_option linter.all false
set_option maxRecDepth 100000
set_option maxHeartbeats 4000000
set_option autoImplicit false
/-! refine: the class Refining, what it reads. -/
namespace SG
open PySem PySem.Spec PyProof.Rows L2 LamX C8
abbrev sRef : Stmt := top 29
abbrev sRInit : Stmt := inClass sRef 0
abbrev sLessened : Stmt := inClass sRef 1
abbrev sCands : Stmt := inClass sRef 2
abbrev sPasses : Stmt := inClass sRef 3
abbrev sOutsBy : Stmt := inClass sRef 4
abbrev sTake : Stmt := inClass sRef 5
def rfs (vg vk vo : V) (bd fr : Addr) : List (Str × V) := [("grammar", vg), ("kind", .str "row"), ("known", vk), ("old", vo), ("base", .ref bd), ("firsts", .ref fr)]
section
variable (vg vk vo : V) (bd fr : Addr)
theorem rfs_grammar : (rfs vg vk vo bd fr).lookup ("grammar" : Str) = some vg := look_eq
theorem rfs_kind : (rfs vg vk vo bd fr).lookup ("kind" : Str) = some (.str "row") := by
  unfold rfs
  rw [look_ne (by decide +kernel), look_eq]
theorem rfs_known : (rfs vg vk vo bd fr).lookup ("known" : Str) = some vk := by
  unfold rfs
  rw [look_ne (by decide +kernel), look_ne (by decide +kernel), look_eq]
theorem rfs_old : (rfs vg vk vo bd fr).lookup ("old" : Str) = some vo := by
  unfold rfs
  rw [look_ne (by decide +kernel), look_ne (by decide +kernel), look_ne (by decide +kernel), look_eq]
theorem rfs_base : (rfs vg vk vo bd fr).lookup ("base" : Str) = some (.ref bd) := by
  unfold rfs
  rw [look_ne (by decide +kernel), look_ne (by decide +kernel), look_ne (by decide +kernel), look_ne (by decide +kernel), look_eq]
theorem rfs_firsts : (rfs vg vk vo bd fr).lookup ("firsts" : Str) = some (.ref fr) := by
  unfold rfs
  rw [look_ne (by decide +kernel), look_ne (by decide +kernel), look_ne (by decide +kernel), look_ne (by decide +kernel), look_ne (by decide +kernel), look_eq]
theorem rfs_no {m : Str} (h1 : ¬ m = "grammar") (h2 : ¬ m = "kind") (h3 : ¬ m = "known") (h4 : ¬ m = "old") (h5 : ¬ m = "base") (h6 : ¬ m = "firsts") : (rfs vg vk vo bd fr).lookup m = Option.none := by
  unfold rfs
  rw [look_ne h1, look_ne h2, look_ne h3, look_ne h4, look_ne h5, look_ne h6]
  rfl
end
/-- the class Refining as the top has made it -/
structure RCls (K : PySem.W.Frag) (C : Addr) : Prop where
  cl : Cls K C
  nG : NoAttr K C "grammar"
  nKi : NoAttr K C "kind"
  nKn : NoAttr K C "known"
  nO : NoAttr K C "old"
  nB : NoAttr K C "base"
  nF : NoAttr K C "firsts"
/-- makings are short -/
def BL (b : Bs) : Prop := ∀ X m, dlk b X = some m → m.length ≤ 40
theorem BL.out {b : Bs} (h : BL b) : ∀ row : List Str, (out (dlk b) row).length ≤ 40 * row.length
  | [] => Nat.le_refl _
  | X :: r => by
    have ih := BL.out h r
    rw [out_cons, List.length_append, List.length_cons]
    have h1 : ((dlk b X).getD [X]).length ≤ 40 := by
      cases e : dlk b X with
      | none => show 1 ≤ 40; decide
      | some m => exact h X m e
    omega
/-- what a refining is asked with: the grammar and its norms -/
structure RG (g : Gr) (kn : Nd) (w : Str → Nat) (old base : Bs) : Prop where
  gs : GSm g
  kw : KnW kn g w
  bo : BL old
  bb : BL base
/-- a refining stands at p; H0: ahead of its making -/
structure RefSt (T : List (Addr × Str)) (C CR : Addr) (H0 H : Hp) (p dx : Addr) (vg vk vo : V) (bd fr : Addr) (g : Gr) (kn : Nd) (old base : Bs) (firsts : List Str) : Prop where
  sm : Sm T H0 H
  np : H0 p = Option.none
  nb : H0 bd = Option.none
  nf : H0 fr = Option.none
  ins : H p = some (.ins CR dx (rfs vg vk vo bd fr))
  gr : GrAt C H0 vg g
  kn : At H0 vk (Dct.mk kn)
  old : At H0 vo (Dct.mk old)
  bs : ∃ ps, H bd = some (.dK ps) ∧ AllKv (hid (hid (dif H H0) fr) bd) ps base
  fs : H fr = some (.lst (firsts.map V.str))
section
variable {T : List (Addr × Str)} {C CR : Addr} {H0 H H' : Hp} {p dx : Addr} {vg vk vo : V} {bd fr : Addr} {g : Gr} {kn : Nd} {old base : Bs} {firsts : List Str}
theorem RefSt.mono (r : RefSt T C CR H0 H p dx vg vk vo bd fr g kn old base firsts) (s : Sm T H H') : RefSt T C CR H0 H' p dx vg vk vo bd fr g kn old base firsts := by
  obtain ⟨ps, h1, h2⟩ := r.bs
  exact ⟨r.sm.trans s, r.np, r.nb, r.nf, s.ins r.ins, r.gr, r.kn, r.old, ⟨ps, s.dK h1, h2.mono (hid_mono (hid_mono (dif_mono (fun _ z => z) s.kp)))⟩, s.lst r.fs⟩
theorem RefSt.gr' (r : RefSt T C CR H0 H p dx vg vk vo bd fr g kn old base firsts) : GrAt C H vg g := r.gr.mono r.sm.kp
theorem RefSt.kn' (r : RefSt T C CR H0 H p dx vg vk vo bd fr g kn old base firsts) : At H vk (Dct.mk kn) := r.kn.mono r.sm.kp
theorem RefSt.old' (r : RefSt T C CR H0 H p dx vg vk vo bd fr g kn old base firsts) : At H vo (Dct.mk old) := r.old.mono r.sm.kp
theorem RefSt.bs' (r : RefSt T C CR H0 H p dx vg vk vo bd fr g kn old base firsts) : At H (.ref bd) (Dct.mk base) := by
  obtain ⟨ps, h1, h2⟩ := r.bs
  exact ⟨bd, ps, rfl, .inl h1, h2.mono (hid_kp.trans (hid_kp.trans dif_kp))⟩
theorem RefSt.fs' (r : RefSt T C CR H0 H p dx vg vk vo bd fr g kn old base firsts) : At H (.ref fr) firsts := At.of_strs r.fs
end
/-- names of steps are the grammar's, rows are short -/
theorem steps_ok {g : Gr} (gs : GSm g) {row : List Str} (hk : Kn g row) {l : Str} {y : List Str} (h : (l, y) ∈ rowSteps g.gm cn row) : Kn g y ∧ y.length ≤ 1000 + row.length := by
  obtain ⟨X, r, more, rfl, hm, rfl⟩ := (mem_rowSteps canon).mp h
  obtain ⟨rs, hrs⟩ := Option.isSome_iff_exists.mp (hk X List.mem_cons_self)
  rw [rules_of_some hrs] at hm
  refine ⟨fun Z hZ => ?_, ?_⟩
  · rcases List.mem_append.mp hZ with q | q
    · exact gs.cl X rs hrs _ hm Z q
    · exact hk Z (List.mem_cons_of_mem _ q)
  · have := gs.short X rs hrs _ hm
    have this : more.length ≤ 1000 := this
    rw [List.length_append, List.length_cons]
    omega
theorem steps_few {g : Gr} (gs : GSm g) {row : List Str} (hk : Kn g row) : (rowSteps g.gm cn row).length ≤ 1000 := by
  cases row with
  | nil => exact Nat.zero_le _
  | cons X r =>
    obtain ⟨rs, hrs⟩ := Option.isSome_iff_exists.mp (hk X List.mem_cons_self)
    rw [rowSteps_cons hrs]
    refine Nat.le_trans (cn_len _) ?_
    rw [List.length_map]
    exact gs.few X rs hrs
def spLessened (T : List (Addr × Str)) (C CR : Addr) : Sp := fun vs H Q _ => ∃ (H0 : Hp) (p dx : Addr) (vg vk vo u : V) (bd fr : Addr) (g : Gr) (kn : Nd) (old base : Bs) (firsts : List Str) (w : Str → Nat) (one : List Str), vs = [.ref p, u] ∧ RefSt T C CR H0 H p dx vg vk vo bd fr g kn old base firsts ∧
  GSm g ∧ KnW kn g w ∧ At H u one ∧ Kn g one ∧ one.length ≤ 1000 ∧ Ret T H Q (lessened g.gm cn w one)
def spOutsBy (T : List (Addr × Str)) (C CR : Addr) : Sp := fun vs H Q _ => ∃ (H0 : Hp) (p dx : Addr) (vg vk vo u v : V) (bd fr : Addr) (g : Gr) (kn : Nd) (old base b : Bs) (firsts : List Str) (w : Str → Nat) (one : List Str) (less : Bool), vs = [.ref p, v, u, .bl less] ∧
  RefSt T C CR H0 H p dx vg vk vo bd fr g kn old base firsts ∧ GSm g ∧ KnW kn g w ∧ At H v (Dct.mk b) ∧ BL b ∧ At H u one ∧ Kn g one ∧ one.length ≤ 1000 ∧ Ret T H Q (outsOf cn (dlk b) (if less = true then lessened g.gm cn w one else rowSteps g.gm cn one))
section
variable {P : Program} {w : World} {K : PySem.W.Frag} {mg : Str → Option Value} {base : Heap} {T : List (Addr × Str)} {C CR : Addr}
theorem scLessened : FnScope ["self", "one", "norm", "steps", "step"] ["self", "one"] (fnScope sLessened) := fnScope_by (by decide +kernel)
theorem met_lessened (X : Gs mg) (R : RCls K CR) (cAdd : Cal P w K mg base 1 "added_up" (spAddedUp T) []) (cSteps : Cal P w K mg base 4 "steps_of" (spStepsOf T C) []) (F : MetB K CR "lessened" "Refining.lessened" sLessened ["self", "one"]) :
    Met P w K mg base 5 CR "lessened" (spLessened T C CR) [] := by
  refine met_of F scLessened (fun vs H Q E h => ?_) (fun f cdv A outer s H vs Q E hr h => ?_)
  · obtain ⟨H0, p, dx, vg, vk, vo, u, bd, fr, g, kn, old, bs, firsts, wN, one, rfl, _⟩ := h
    rfl
  · obtain ⟨H0, p, dx, vg, vk, vo, u, bd, fr, g, kn, old, bs, firsts, wN, one, rfl, st, gs, kw, hone, hk, hlen, k⟩ := h
    have hu := hu_of hr
    refine ⟨_, pss_cons (ps_set (i := 2) scLessened.nd rfl (Or.inr rfl) (pe_c cAdd hr (by decide) rfl (pa_cons (pe_fld (pv 0) rfl) (pa_cons (pv 1) pa_nil))))
      (pss_cons (ps_set (i := 3) scLessened.nd rfl (Or.inl rfl) (pe_c cSteps hr (by decide) rfl (pa_cons (pe_fld (pv 0) rfl) (pa_cons (pe_fld (pv 0) rfl) (pa_cons (pv 1) pa_nil)))))
      (pss_one (ps_ret (pe_lc (own := [("step", 4)]) rfl scLessened.nd (pi_list (pv 3)) (blkOk_by (N := ["self", "one", "norm", "steps", "step"]) (sc := fnScope sLessened) (by decide +kernel))
        (fun _ _ _ _ _ => pg_name (i := 4) scLessened.nd rfl (Or.inl rfl) (.inr rfl))
        (fun _ _ _ _ _ => pts_one (pt_cmpR op_eq (pe_c cAdd hr (by decide) rfl (pa_cons (pe_fldK K rfl (pv 0) rfl) (pa_cons (pe_ix (ix_tupK K rfl) (pv 4) pe_int (fun _ _ => rfl)) pa_nil))) (pe_op op_sub (pv 2) pe_int) (nomark _)))
        (fun _ _ _ _ _ => pv 4))))), ?_⟩
    refine ⟨_, rfl, p, CR, dx, _, _, rfl, st.ins, R.cl, R.nKn, rfs_known _ _ _ _ _, _, rfl, vk, u, kn, one, rfl, st.kn', hone, kw.kn hk, Nat.le_trans hlen (by decide), fun H1 s1 => ?_⟩
    rw [kw.add hk]
    have st1 := st.mono s1
    refine ⟨_, rfl, p, CR, dx, _, _, rfl, st1.ins, R.cl, R.nG, rfs_grammar _ _ _ _ _, _, rfl, p, CR, dx, _, _, rfl, st1.ins, R.cl, R.nKi, rfs_kind _ _ _ _ _, _, rfl, vg, u, g, one, rfl, st1.gr', hone.mono s1.kp, hk, gs, hlen, fun v2 H2 s2 hv2 => ?_⟩
    obtain ⟨b, ws, rfl, hb, hws⟩ := hv2
    have hb2 := (dif_some hb).2
    have st2 := st1.mono s2
    refine ⟨_, rfl, b, rfl, ⟨_, SqL.of hb2⟩, fun D hD => ?_⟩
    have s12 := s1.trans s2
    refine lc_rep T H (fun r : Step => if wt wN r.2 + 1 = wt wN one then some r else Option.none) hD (fun b z => s12.fr _ z) hb2 hws (Nat.le_trans (steps_few gs hk) (by decide)) (fun i v y H3 hi hat q3 hDn Ky Kn' ky kz => ?_) (fun H3 ys q3 h3 hA => ?_)
    · have hat' := (hat.mono dif_kp).mono q3.kp
      obtain ⟨b2, u2, z, e, hb2', hu', hz⟩ := id hat'
      subst e
      obtain ⟨hky, hly⟩ := steps_ok gs hk (l := y.1) (y := y.2) (List.mem_of_getElem? hi)
      have st3 := st2.mono q3
      refine ⟨rfl, _, rfl, p, CR, dx, _, _, rfl, st3.ins, R.cl, R.nKn, rfs_known _ _ _ _ _, _, rfl, b2, _, 1, z, rfl, rfl, SqT.of hb2', atI_nat (j := 1) rfl, vk, z, kn, y.2, rfl, st3.kn', hz, kw.kn hky, by omega, fun H4 s4 => ?_⟩
      rw [kw.add hky]
      refine ⟨_, rfl, (wt wN one : Int), 1, rfl, rfl, rfl, _, rfl, ?_⟩
      by_cases e : wt wN y.2 + 1 = wt wN one
      · rw [decide_eq_true (by show V.int (wt wN y.2 : Int) = V.int ((wt wN one : Int) - 1); congr 1; omega)]
        refine iteT ⟨_, rfl, ky _ y H4 (if_pos e) s4 (hat.mono ?_)⟩
        refine (dif_mono (fun b z => s1.fr _ z) (q3.trans s4).kp).hid ?_
        cases q : H1 D with
        | none => exact (dif_new q).trans hD
        | some o => exact dif_old q
      · rw [decide_eq_false (by show ¬ V.int (wt wN y.2 : Int) = V.int ((wt wN one : Int) - 1); intro z; have := V.int.inj z; omega)]
        exact iteF (kz H4 (if_neg e) s4)
    · have ef : (rowSteps g.gm cn one).filterMap (fun r : Step => if wt wN r.2 + 1 = wt wN one then some r else Option.none) = lessened g.gm cn wN one := by
        unfold lessened
        rw [← List.filterMap_eq_filter]
        congr 1
        funext r
        by_cases e : wt wN r.2 + 1 = wt wN one
        · simp [e, Option.guard]
        · simp [e, Option.guard]
      rw [ef] at hA
      exact k _ _ (s12.trans q3) (lc_new h3 (s12.fr _ hD) hA)
theorem scOutsBy : FnScope ["self", "base", "one", "less", "steps"] ["self", "base", "one", "less"] (fnScope sOutsBy) := fnScope_by (by decide +kernel)
theorem met_outs_by (X : Gs mg) (R : RCls K CR) (cSteps : Cal P w K mg base 4 "steps_of" (spStepsOf T C) []) (cLs : Met P w K mg base 5 CR "lessened" (spLessened T C CR) []) (cOuts : Cal P w K mg base 2 "outs_of" (spOutsOf T) [])
    (F : MetB K CR "outs_by" "Refining.outs_by" sOutsBy ["self", "base", "one", "less"]) : Met P w K mg base 6 CR "outs_by" (spOutsBy T C CR) [] := by
  refine met_of F scOutsBy (fun vs H Q E h => ?_) (fun f cdv A outer s H vs Q E hr h => ?_)
  · obtain ⟨H0, p, dx, vg, vk, vo, u, v, bd, fr, g, kn, old, bs, b, firsts, wN, one, less, rfl, _⟩ := h
    rfl
  · obtain ⟨H0, p, dx, vg, vk, vo, u, v, bd, fr, g, kn, old, bs, b, firsts, wN, one, less, rfl, st, gs, kw, hv, hbl, hone, hk, hlen, k⟩ := h
    refine ⟨_, pss_cons (ps_set (i := 4) scOutsBy.nd rfl (Or.inl rfl) (pe_c cSteps hr (by decide) rfl (pa_cons (pe_fld (pv 0) rfl) (pa_cons (pe_fld (pv 0) rfl) (pa_cons (pv 2) pa_nil)))))
      (pss_cons (ps_if (pt_val (pv 3)) (pss_one (ps_set (i := 4) scOutsBy.nd rfl (Or.inl rfl) (pe_mt cLs hr (by decide) (pv 0) (pa_cons (pv 2) pa_nil)))) pss_nil)
      (pss_one (ps_ret (pe_c cOuts hr (by decide) rfl (pa_cons (pe_fld (pv 0) rfl) (pa_cons (pv 1) (pa_cons (pv 4) pa_nil))))))), ?_⟩
    refine ⟨_, rfl, p, CR, dx, _, _, rfl, st.ins, R.cl, R.nG, rfs_grammar _ _ _ _ _, _, rfl, p, CR, dx, _, _, rfl, st.ins, R.cl, R.nKi, rfs_kind _ _ _ _ _, _, rfl, vg, u, g, one, rfl, st.gr', hone, hk, gs, hlen, fun v2 H2 s2 hv2 => ?_⟩
    have st2 := st.mono s2
    have fin : ∀ (v3 : V) (H3 : Hp) (sts : List Step), Sm T H H3 → At H3 v3 sts → sts.length ≤ 1000 → (∀ s ∈ sts, s.2.length ≤ 2000) → outsOf cn (dlk b) sts = outsOf cn (dlk b) (if less = true then lessened g.gm cn wN one else rowSteps g.gm cn one) →
        (tRet (tCall (spOutsOf T) [] C8.E0 (tCons (tFld K (tVar 0) "kind") (tCons (tVar 1) (tCons (tVar 4) tNil))))) { nx := fun _ H' => Q .non H', rt := Q } [some (.ref p), some v, some u, some (.bl less), some v3] H3 := fun v3 H3 sts s3 h3 hl3 hs3 e => by
      have st3 := st.mono s3
      refine ⟨_, rfl, p, CR, dx, _, _, rfl, st3.ins, R.cl, R.nKi, rfs_kind _ _ _ _ _, _, rfl, _, rfl, v, v3, b, sts, rfl, hv.mono s3.kp, h3, Nat.le_trans hl3 (by decide), fun s hs => ?_, fun v4 H4 s4 h4 => ?_⟩
      · have h1 := BL.out hbl s.2
        have h2 := hs3 s hs
        omega
      · rw [e] at h4
        exact k.go s3 s4 h4
    have hst : ∀ s ∈ rowSteps g.gm cn one, s.2.length ≤ 2000 := fun s hs => by
      have := (steps_ok gs hk (l := s.1) (y := s.2) hs).2
      omega
    refine ⟨_, rfl, less, rfl, ?_⟩
    cases less with
    | false => exact iteF (fin v2 H2 _ s2 (new_at hv2) (steps_few gs hk) hst rfl)
    | true =>
      refine iteT ⟨_, rfl, p, dx, _, rfl, st2.ins, rfs_no _ _ _ _ _ (by decide +kernel) (by decide +kernel) (by decide +kernel) (by decide +kernel) (by decide +kernel) (by decide +kernel), _, rfl,
        H0, p, dx, vg, vk, vo, u, bd, fr, g, kn, old, bs, firsts, wN, one, rfl, st2, gs, kw, hone.mono s2.kp, hk, hlen, fun v3 H3 s3 h3 => ?_⟩
      refine fin v3 H3 _ (s2.trans s3) (new_at h3) (Nat.le_trans (List.length_filter_le _ _) (steps_few gs hk)) (fun s hs => hst s (List.mem_filter.mp hs).1) rfl
end
end SG

set_option Elab.async false
set_option linter.all false
set_option maxRecDepth 100000
set_option maxHeartbeats 4000000
set_option autoImplicit false
/-! refine: Refining.candidates. -/
namespace SG
open PySem PySem.Spec PyProof.Rows L2 LamX C8
theorem less_ok {g : Gr} (gs : GSm g) {w : Str → Nat} {X : Str} (hX : (dlk g.stored X).isSome = true) : (lessRules g.gm w X).length ≤ 1000 ∧ ∀ s ∈ lessRules g.gm w X, Kn g s.2 ∧ s.2.length ≤ 1000 := by
  obtain ⟨rs, hrs⟩ := Option.isSome_iff_exists.mp hX
  unfold lessRules
  rw [rules_of_some hrs]
  refine ⟨Nat.le_trans (List.length_filter_le _ _) (gs.few X rs hrs), fun s hs => ?_⟩
  have := (List.mem_filter.mp hs).1
  exact ⟨gs.cl X rs hrs s this, gs.short X rs hrs s this⟩
def spCands (T : List (Addr × Str)) (C CR : Addr) : Sp := fun vs H Q _ => ∃ (H0 : Hp) (p dx : Addr) (vg vk vo : V) (bd fr : Addr) (g : Gr) (kn : Nd) (old base : Bs) (firsts : List Str) (w : Str → Nat) (X : Str), vs = [.ref p, .str X] ∧ RefSt T C CR H0 H p dx vg vk vo bd fr g kn old base firsts ∧
  GSm g ∧ KnW kn g w ∧ BL base ∧ (dlk g.stored X).isSome = true ∧ lessRules g.gm w X ≠ [] ∧ Kn g firsts ∧ firsts.length ≤ 1000 ∧ Ret T H Q (cands g.gm w (dlk base) firsts X)
theorem out_nil_base (row : List Str) : out (dlk ([] : Bs)) row = row := out_self fun _ _ => rfl
section
variable {P : Program} {w : World} {K : PySem.W.Frag} {mg : Str → Option Value} {base : Heap} {T : List (Addr × Str)} {C CR : Addr}
theorem scCands : FnScope ["self", "name", "letter", "row", "whole", "found", "first", "by", "more", "rest"] ["self", "name"] (fnScope sCands) := fnScope_by (by decide +kernel)
theorem met_cands (X : Gs mg) (R : RCls K CR) (cLess : Cal P w K mg base 2 "lessening" (spLess T C) []) (cPut : Cal P w K mg base 1 "put_out" (spPutOut T) []) (cWo : Cal P w K mg base 1 "without" (spWithout T) [])
    (F : MetB K CR "candidates" "Refining.candidates" sCands ["self", "name"]) : Met P w K mg base 3 CR "candidates" (spCands T C CR) [] := by
  refine met_of F scCands (fun vs H Q E h => ?_) (fun f cdv A outer s H vs Q E hr h => ?_)
  · obtain ⟨H0, p, dx, vg, vk, vo, bd, fr, g, kn, old, bs, firsts, wN, Y, rfl, _⟩ := h
    rfl
  · obtain ⟨H0, p, dx, vg, vk, vo, bd, fr, g, kn, old, bs, firsts, wN, Y, rfl, st, gs, kw, hbl, hY, hne, hkf, hlf, k⟩ := h
    refine ⟨_, pss_cons (ps_asg (pe_ix ix_list (pe_c cLess hr (by decide) rfl (pa_cons (pe_fld (pv 0) rfl) (pa_cons (pe_fld (pv 0) rfl) (pa_cons (pv 1) pa_nil)))) pe_int (fun _ _ => rfl)) (pg_tup2K K rfl rfl scCands.nd (i := 2) (j := 3) rfl rfl (.inl rfl) (.inl rfl) (.inl rfl) (.inl rfl)))
      (pss_cons (ps_set (i := 4) scCands.nd rfl (Or.inl rfl) (pe_c cPut hr (by decide) rfl (pa_cons (pe_fld (pv 0) rfl) (pa_cons (pe_fld (pv 0) rfl) (pa_cons (pv 3) pa_nil)))))
      (pss_cons (ps_set (i := 5) scCands.nd rfl (Or.inl rfl) (pe_lst pa_nil))
      (pss_cons (ps_for PassesOwn.never rfl (pi_list (pe_fld (pv 0) rfl)) (pg_name (i := 6) scCands.nd rfl (Or.inl rfl))
        (pss_one (ps_for PassesOwn.never rfl (pi_list (pe_c cLess hr (by decide) rfl (pa_cons (pe_fld (pv 0) rfl) (pa_cons (pe_fld (pv 0) rfl) (pa_cons (pv 6) pa_nil))))) (pg_tup2K K rfl rfl scCands.nd (i := 7) (j := 8) rfl rfl (.inl rfl) (.inl rfl) (.inl rfl) (.inl rfl))
          (pss_cons (ps_set (i := 9) scCands.nd rfl (Or.inl rfl) pe_non)
          (pss_cons (ps_if (pt_cmpR op_eq (pv 7) (pv 2) (nomark _)) (pss_one (ps_set (i := 9) scCands.nd rfl (Or.inl rfl) (pe_c cWo hr (by decide) rfl (pa_cons (pe_fld (pv 0) rfl) (pa_cons (pv 4) (pa_cons (pe_c cPut hr (by decide) rfl (pa_cons (pe_fld (pv 0) rfl) (pa_cons (pe_fld (pv 0) rfl) (pa_cons (pv 8) pa_nil)))) pa_nil)))))) pss_nil)
          (pss_one (ps_if (pt_cmp (pc_notN (pv 9))) (pss_one (ps_expr (pe_bm PySem.F.plainAttrs_list PySem.F.slot_list_append PySem.F.type_list_append mt_append (pv 5)
            (pa_cons (pe_c cPut hr (by decide) rfl (pa_cons (pe_fld (pv 0) rfl) (pa_cons pe_dnewK (pa_cons (pe_op op_cat (pe_lst (pa_cons (pv 6) pa_nil)) (pv 9)) pa_nil)))) pa_nil)))) pss_nil)))))))
      (pss_one (ps_ret (pv 5)))))), ?_⟩
    -- letter, row = lessening(self.grammar, self.known, name)[0]
    refine ⟨_, rfl, p, CR, dx, _, _, rfl, st.ins, R.cl, R.nG, rfs_grammar _ _ _ _ _, _, rfl, p, CR, dx, _, _, rfl, st.ins, R.cl, R.nKn, rfs_known _ _ _ _ _, _, rfl, vg, vk, g, kn, wN, Y, rfl, st.gr', st.kn', gs, kw, hY, fun v1 H1 s1 h1 => ?_⟩
    obtain ⟨b1, ws1, rfl, hb1, hws1⟩ := h1
    obtain ⟨hLf, hLk⟩ := less_ok gs (w := wN) hY
    obtain ⟨pr, ps, eL⟩ : ∃ pr ps, lessRules g.gm wN Y = pr :: ps := by
      cases e : lessRules g.gm wN Y with
      | nil => exact absurd e hne
      | cons a b => exact ⟨a, b, rfl⟩
    obtain ⟨v0, hv0, hat0⟩ := hws1.get (i := 0) (x := pr) (by rw [eL]; rfl)
    obtain ⟨t1, u1, z1, rfl, ht1, hu1, hz1⟩ := hat0
    have hu1 : u1 = V.str pr.1 := hu1
    subst hu1
    obtain ⟨hkr, hlr⟩ := hLk pr (by rw [eL]; exact List.mem_cons_self)
    have st1 := st.mono s1
    refine ⟨b1, _, 0, _, rfl, rfl, SqL.of (dif_some hb1).2, atI_nat (j := 0) hv0, t1, _, rfl, SqT.of (dif_some ht1).2, rfl, _, _, rfl, _, _, rfl, rfl, ?_⟩
    -- whole = put_out(self.kind, self.base, row)
    refine ⟨_, rfl, p, CR, dx, _, _, rfl, st1.ins, R.cl, R.nKi, rfs_kind _ _ _ _ _, _, rfl, p, CR, dx, _, _, rfl, st1.ins, R.cl, R.nB, rfs_base _ _ _ _ _, _, rfl, .ref bd, z1, bs, pr.2, rfl, st1.bs', hz1.mono dif_kp, ?_, fun v2 H2 s2 h2 => ?_⟩
    · have := BL.out hbl pr.2
      omega
    have hwl : (out (dlk bs) pr.2).length ≤ 40000 := by
      have := BL.out hbl pr.2
      omega
    have s12 := s1.trans s2
    have hwhole : At H2 v2 (out (dlk bs) pr.2) := new_at h2
    -- found = []
    refine ⟨Nat.zero_le _, fun D hD => ?_⟩
    have s3 : Sm T H (upd H2 D (.lst [])) := s12.trans (Sm.new hD)
    have hD0 : H D = Option.none := s12.fr _ hD
    have st3 := st.mono s3
    have hwhole3 : At (upd H2 D (.lst [])) v2 (out (dlk bs) pr.2) := hwhole.mono (Sm.new (T := T) hD).kp
    obtain ⟨wa, rfl, hwa⟩ := hwhole3.strs
    have hwaD : wa ≠ D := fun e => by
      obtain ⟨wa', e', hwa'⟩ := hwhole.strs
      cases e'
      rw [e, hD] at hwa'
      cases hwa'
    refine ⟨_, rfl, p, CR, dx, _, _, rfl, st3.ins, R.cl, R.nF, rfs_firsts _ _ _ _ _, fr, rfl, ⟨_, SqL.of st3.fs⟩, for_list (K := K) (a := fr) (xs := firsts.map V.str)
      (fun i σ H' => Sm T H H' ∧ (∃ y6 y7 y8 y9, σ = [some (.ref p), some (.str Y), some (.str pr.1), some z1, some (.ref wa), some (.ref D), y6, y7, y8, y9]) ∧ H' wa = some (.lst ((out (dlk bs) pr.2).map V.str)) ∧
        ∃ ys, H' D = some (.lst ys) ∧ ys.length ≤ 1000 * i ∧ AllAt (hid (dif H' H) D) ys ((firsts.take i).flatMap fun F => candsOf g.gm wN (dlk bs) pr.1 (out (dlk bs) pr.2) F))
      ⟨s3, ⟨_, _, _, _, rfl⟩, hwa, [], upd_same, Nat.zero_le _, True.intro⟩ (fun i σ H' _ h => SqL.of (st.mono h.1).fs) ?_ ?_⟩
    · rintro i y σ H4 hi ⟨s4, ⟨y6, y7, y8, y9, rfl⟩, hwa4, ys, hys, hlys, hA⟩
      rw [List.getElem?_map] at hi
      obtain ⟨Fn, hF, rfl⟩ := Option.map_eq_some_iff.mp hi
      have hil : i < firsts.length := (List.getElem?_eq_some_iff.mp hF).1
      have hFk := hkf Fn (List.mem_of_getElem? hF)
      have st4 := st.mono s4
      obtain ⟨hLf2, hLk2⟩ := less_ok gs (w := wN) hFk
      have et : firsts.take (i + 1) = firsts.take i ++ [Fn] := by
        rw [List.take_add_one, hF]
        rfl
      refine ⟨_, rfl, p, CR, dx, _, _, rfl, st4.ins, R.cl, R.nG, rfs_grammar _ _ _ _ _, _, rfl, p, CR, dx, _, _, rfl, st4.ins, R.cl, R.nKn, rfs_known _ _ _ _ _, _, rfl, vg, vk, g, kn, wN, Fn, rfl, st4.gr', st4.kn', gs, kw, hFk, fun v5 H5 s5 h5 => ?_⟩
      obtain ⟨b5, ws5, rfl, hb5, hws5⟩ := h5
      have hb5' := (dif_some hb5).2
      have hwl5 := hws5.length
      have hys5 := s5.lst hys
      have hDb5 : D ≠ b5 := fun e => by
        rw [← e, dif_old hys] at hb5
        cases hb5
      refine ⟨b5, rfl, ⟨_, SqL.of hb5'⟩, for_list (K := K) (a := b5) (xs := ws5)
        (fun j σ H' => Sm T H H' ∧ Kp (dif H5 H4) H' ∧ (∃ y7 y8 y9, σ = [some (.ref p), some (.str Y), some (.str pr.1), some z1, some (.ref wa), some (.ref D), some (.str Fn), y7, y8, y9]) ∧ H' wa = some (.lst ((out (dlk bs) pr.2).map V.str)) ∧
          ∃ ys, H' D = some (.lst ys) ∧ ys.length ≤ 1000 * i + j ∧ AllAt (hid (dif H' H) D) ys (((firsts.take i).flatMap fun F => candsOf g.gm wN (dlk bs) pr.1 (out (dlk bs) pr.2) F) ++
            ((lessRules g.gm wN Fn).take j).filterMap fun q => if q.1 = pr.1 then (without (out (dlk bs) pr.2) (out (dlk bs) q.2)).map fun rest => Fn :: rest else Option.none))
        ⟨s4.trans s5, dif_kp, ⟨_, _, _, rfl⟩, s5.lst hwa4, ys, hys5, by omega, by rw [List.take_zero, List.filterMap_nil, List.append_nil]; exact hA.mono (hid_mono (dif_mono (fun _ z => z) s5.kp))⟩
        (fun j σ H' _ h => SqL.of (h.2.1 _ _ hb5 (fun _ z => nomatch z))) ?_ ?_⟩
      · rintro j v σ H6 hj ⟨s6, k6, ⟨x7, x8, x9, rfl⟩, hwa6, zs, hzs, hlzs, hA6⟩
        obtain ⟨q, hq, hat⟩ := hws5.getV hj
        have hjl : j < 1000 := by
          have := (List.getElem?_eq_some_iff.mp hq).1
          omega
        obtain ⟨t, u7, u8, rfl, ht, hu7, hu8⟩ := hat.mono k6
        have hu7 : u7 = V.str q.1 := hu7
        subst hu7
        obtain ⟨hkq, hlq⟩ := hLk2 q (List.mem_of_getElem? hq)
        have etj : (lessRules g.gm wN Fn).take (j + 1) = (lessRules g.gm wN Fn).take j ++ [q] := by
          rw [List.take_add_one, hq]
          rfl
        have dne : ∀ H' o, Kp (dif H5 H4) H' → Kp (dif H5 H4) (upd H' D o) := fun H' o kk b' o' e n => by
          have : b' ≠ D := fun z => by
            rw [z, dif_old hys] at e
            cases e
          rw [upd_ne this]
          exact kk b' o' e n
        -- behind the first if
        have tail : ∀ (v9 : V) (H7 : Hp) (rest : Option (List Str)), Sm T H6 H7 → At H7 v9 rest → (∀ r, rest = some r → r.length ≤ 40000) → (if q.1 = pr.1 then (without (out (dlk bs) pr.2) (out (dlk bs) q.2)).map fun rest => Fn :: rest else Option.none) = rest.map (fun r => Fn :: r) →
            (tIfS (tB (tNotN (tVar 9))) (tDrop (tBM K "list" rAppend (tVar 5) (tCons (tCall (spPutOut T) [] C8.E0 (tCons (tFld K (tVar 0) "kind") (tCons (fun _ H Q => ∀ p, H p = Option.none → Q (.ref p) (upd H p (.dK []))) (tCons (tOp rCat (tLst (tCons (tVar 6) tNil)) (tVar 9)) tNil)))) tNil))) tNext)
              { nx := (fun j σ H' => Sm T H H' ∧ Kp (dif H5 H4) H' ∧ (∃ y7 y8 y9, σ = [some (.ref p), some (.str Y), some (.str pr.1), some z1, some (.ref wa), some (.ref D), some (.str Fn), y7, y8, y9]) ∧ H' wa = some (.lst ((out (dlk bs) pr.2).map V.str)) ∧
                ∃ ys, H' D = some (.lst ys) ∧ ys.length ≤ 1000 * i + j ∧ AllAt (hid (dif H' H) D) ys (((firsts.take i).flatMap fun F => candsOf g.gm wN (dlk bs) pr.1 (out (dlk bs) pr.2) F) ++
                  ((lessRules g.gm wN Fn).take j).filterMap fun q => if q.1 = pr.1 then (without (out (dlk bs) pr.2) (out (dlk bs) q.2)).map fun rest => Fn :: rest else Option.none)) (j + 1), rt := Q }
              [some (.ref p), some (.str Y), some (.str pr.1), some z1, some (.ref wa), some (.ref D), some (.str Fn), some (.str q.1), some u8, some v9] H7 := by
          intro v9 H7 rest s7 h9 hl9 e9
          have hz7 := s7.lst hzs
          have st7 := st.mono (s6.trans s7)
          cases rest with
          | none =>
            have h9 : v9 = V.non := h9
            subst h9
            refine ⟨_, rfl, _, rfl, ?_⟩
            refine iteF ⟨s6.trans s7, k6.trans s7.kp, ⟨_, _, _, rfl⟩, s7.lst hwa6, zs, hz7, by omega, ?_⟩
            rw [etj, List.filterMap_append]
            have e10 : [q].filterMap (fun q : Step => if q.1 = pr.1 then (without (out (dlk bs) pr.2) (out (dlk bs) q.2)).map fun rest => Fn :: rest else Option.none) = [] := by
              rw [List.filterMap_cons, e9] <;> rfl
            rw [e10, List.append_nil]
            exact hA6.mono (hid_mono (dif_mono (fun _ z => z) s7.kp))
          | some r =>
            obtain ⟨ra, rfl, hra⟩ := At.strs (show At H7 v9 r from h9)
            refine ⟨_, rfl, _, rfl, ?_⟩
            have hnn : (!decide (V.ref ra = V.non)) = true := by simp
            rw [hnn]
            refine iteT ?_
            refine ⟨_, rfl, .inl ⟨rfl, _, SqL.of hz7⟩, _, rfl, p, CR, dx, _, _, rfl, st7.ins, R.cl, R.nKi, rfs_kind _ _ _ _ _, fun d hd => ?_⟩
            have s8 : Sm T H7 (upd H7 d (.dK [])) := Sm.new hd
            refine ⟨_, rfl, by show 1 ≤ sizeLine; decide, fun l hl => ?_⟩
            have s9 : Sm T (upd H7 d (.dK [])) (upd (upd H7 d (.dK [])) l (.lst [.str Fn])) := Sm.new hl
            have hr9 := (s8.trans s9).lst hra
            refine ⟨_, rfl, l, ra, _, _, rfl, rfl, upd_same, hr9, ?_, fun m hm => ?_⟩
            · rw [List.length_map, List.length_singleton]
              have := hl9 r rfl
              exact Nat.le_trans (by omega : _ ≤ 50000) (by decide)
            have s10 : Sm T _ (upd (upd (upd H7 d (.dK [])) l (.lst [.str Fn])) m (.lst ([.str Fn] ++ r.map V.str))) := Sm.new hm
            have hd10 : (upd (upd (upd H7 d (.dK [])) l (.lst [.str Fn])) m (.lst ([.str Fn] ++ r.map V.str))) d = some (.dK []) := (s9.trans s10).dK upd_same
            refine ⟨.ref d, .ref m, [], Fn :: r, rfl, ⟨d, [], rfl, .inl hd10, True.intro⟩, At.of_strs upd_same, ?_, fun v11 H11 s11 h11 => ?_⟩
            · rw [out_nil_base, List.length_cons]
              have := hl9 r rfl
              omega
            rw [out_nil_base] at h11
            have s7_11 : Sm T H7 H11 := ((s8.trans s9).trans s10).trans s11
            have hz11 := s7_11.lst hz7
            have sH11 : Sm T H H11 := (s6.trans s7).trans s7_11
            refine ⟨D, zs, v11, rfl, rfl, hz11, Nat.lt_of_le_of_lt (by omega : zs.length ≤ 1100000) (by decide), sH11.mut hD0 hz11 True.intro, dne _ _ (k6.trans (s7.trans s7_11).kp), ⟨_, _, _, rfl⟩, by rw [upd_ne hwaD]; exact (s7.trans s7_11).lst hwa6, zs ++ [v11], upd_same, by rw [List.length_append, List.length_singleton]; omega, ?_⟩
            rw [etj, List.filterMap_append]
            have e10 : [q].filterMap (fun q : Step => if q.1 = pr.1 then (without (out (dlk bs) pr.2) (out (dlk bs) q.2)).map fun rest => Fn :: rest else Option.none) = [Fn :: r] := by
              rw [List.filterMap_cons, e9] <;> rfl
            rw [e10, ← List.append_assoc]
            have hold := hA6.mono (hid_mono (D := D) (dif_mono (H0 := H) (fun _ z => z) (s7.trans s7_11).kp))
            refine (hold.snoc (h11.mono ?_)).mono hid_upd
            refine (dif_mono (H0 := H) (fun b z => ?_) (Kp.refl _)).hid ?_
            · exact ((s6.trans s7).trans ((s8.trans s9).trans s10)).fr _ z
            · exact dif_old (((s8.trans s9).trans s10).lst hz7)
        refine ⟨t, _, rfl, SqT.of ht, rfl, _, _, rfl, _, _, rfl, rfl, ?_⟩
        refine ⟨_, rfl, _, rfl, rfl, _, rfl, ?_⟩
        have st6 := st.mono s6
        by_cases e : q.1 = pr.1
        · rw [decide_eq_true (congrArg V.str e)]
          refine iteT ?_
          refine ⟨_, rfl, p, CR, dx, _, _, rfl, st6.ins, R.cl, R.nKi, rfs_kind _ _ _ _ _, _, rfl, _, rfl, p, CR, dx, _, _, rfl, st6.ins, R.cl, R.nKi, rfs_kind _ _ _ _ _, _, rfl, p, CR, dx, _, _, rfl, st6.ins, R.cl, R.nB, rfs_base _ _ _ _ _, _, rfl, .ref bd, u8, bs, q.2, rfl, st6.bs', hu8, ?_, fun v7 H7 s7 h7 => ?_⟩
          · have := BL.out hbl q.2
            omega
          refine ⟨.ref wa, v7, out (dlk bs) pr.2, out (dlk bs) q.2, rfl, At.of_strs (s7.lst hwa6), new_at h7, by omega, fun v8 H8 s8 h8 => ?_⟩
          refine tail v8 H8 (without (out (dlk bs) pr.2) (out (dlk bs) q.2)) (s7.trans s8) (new_at h8) (fun r hr2 => ?_) (by rw [if_pos e])
          have := without_some.mp hr2
          have := congrArg List.length this
          rw [List.length_append] at this
          omega
        · rw [decide_eq_false (fun z => e (V.str.inj z))]
          refine iteF ?_
          exact tail .non H6 Option.none (Sm.refl T H6) rfl (fun r hr2 => nomatch hr2) (by rw [if_neg e]; rfl)
      · rintro σ H6 ⟨s6, k6, ⟨x7, x8, x9, rfl⟩, hwa6, zs, hzs, hlzs, hA6⟩
        refine ⟨s6, ⟨_, _, _, _, rfl⟩, hwa6, zs, hzs, by omega, ?_⟩
        rw [hwl5, List.take_length] at hA6
        rw [et, List.flatMap_append]
        have e1 : [Fn].flatMap (fun F => candsOf g.gm wN (dlk bs) pr.1 (out (dlk bs) pr.2) F) = candsOf g.gm wN (dlk bs) pr.1 (out (dlk bs) pr.2) Fn := by simp
        rw [e1]
        exact hA6
    · rintro σ H4 ⟨s4, ⟨y6, y7, y8, y9, rfl⟩, hwa4, ys, hys, hlys, hA⟩
      rw [List.length_map, List.take_length] at hA
      have ec : cands g.gm wN (dlk bs) firsts Y = firsts.flatMap fun F => candsOf g.gm wN (dlk bs) pr.1 (out (dlk bs) pr.2) F := by
        unfold cands
        rw [eL]
      rw [ec] at k
      exact ⟨_, rfl, k _ _ s4 (lc_new hys hD0 hA)⟩
end
end SG

set_option Elab.async false
set_option linter.all false
set_option maxRecDepth 100000
set_option maxHeartbeats 4000000
set_option autoImplicit false
/-! refine: Refining.passes, take, __init__. -/
namespace SG
open PySem PySem.Spec PyProof.Rows L2 LamX C8
def spPasses (T : List (Addr × Str)) (C CR : Addr) : Sp := fun vs H Q _ => ∃ (H0 : Hp) (p dx : Addr) (vg vk vo u : V) (bd fr : Addr) (g : Gr) (kn : Nd) (old base : Bs) (firsts : List Str) (w : Str → Nat) (X : Str) (m : List Str), vs = [.ref p, .str X, u] ∧ RefSt T C CR H0 H p dx vg vk vo bd fr g kn old base firsts ∧
  GSm g ∧ KnW kn g w ∧ BL old ∧ BL base ∧ (dlk g.stored X).isSome = true ∧ At H u m ∧ Kn g m ∧ m.length ≤ 1000 ∧ ∀ H', Sm T H H' → Q (.bl (passes g.gm cn w (dlk old) (dlk base) X m)) H'
section
variable {P : Program} {w : World} {K : PySem.W.Frag} {mg : Str → Option Value} {base : Heap} {T : List (Addr × Str)} {C CR : Addr}
theorem scPasses : FnScope ["self", "name", "making", "base", "less"] ["self", "name", "making"] (fnScope sPasses) := fnScope_by (by decide +kernel)
theorem met_passes (X : Gs mg) (R : RCls K CR) (cPut : Cal P w K mg base 1 "put_out" (spPutOut T) []) (cOb : Met P w K mg base 6 CR "outs_by" (spOutsBy T C CR) [])
    (F : MetB K CR "passes" "Refining.passes" sPasses ["self", "name", "making"]) : Met P w K mg base 7 CR "passes" (spPasses T C CR) [] := by
  refine met_of F scPasses (fun vs H Q E h => ?_) (fun f cdv A outer s H vs Q E hr h => ?_)
  · obtain ⟨H0, p, dx, vg, vk, vo, u, bd, fr, g, kn, old, bs, firsts, wN, Y, m, rfl, _⟩ := h
    rfl
  · obtain ⟨H0, p, dx, vg, vk, vo, u, bd, fr, g, kn, old, bs, firsts, wN, Y, m, rfl, st, gs, kw, hbo, hbb, hY, hm, hkm, hlm, k⟩ := h
    have hu64 := hr.units
    refine ⟨_, pss_cons (ps_if (pt_cmpR (op_neT (List Str) hu64) (pe_c cPut hr (by decide) rfl (pa_cons (pe_fld (pv 0) rfl) (pa_cons (pe_fld (pv 0) rfl) (pa_cons (pe_lst (pa_cons (pv 1) pa_nil)) pa_nil))))
          (pe_c cPut hr (by decide) rfl (pa_cons (pe_fld (pv 0) rfl) (pa_cons (pe_fld (pv 0) rfl) (pa_cons (pv 2) pa_nil)))) (nomark _)) (pss_one (ps_ret pe_bl)) pss_nil)
      (pss_cons (ps_for PassesOwn.never rfl (pi_list (pe_lst (pa_cons (pe_tup (pa_cons (pe_fld (pv 0) rfl) (pa_cons pe_bl pa_nil))) (pa_cons (pe_tup (pa_cons (pe_fld (pv 0) rfl) (pa_cons pe_bl pa_nil))) pa_nil))))
          (pg_tup2K K rfl rfl scPasses.nd (i := 3) (j := 4) rfl rfl (.inl rfl) (.inl rfl) (.inl rfl) (.inl rfl))
        (pss_one (ps_if (pt_cmpR (op_neT (List Step) hu64) (pe_mt cOb hr (by decide) (pv 0) (pa_cons (pv 3) (pa_cons (pe_lst (pa_cons (pv 1) pa_nil)) (pa_cons (pv 4) pa_nil))))
          (pe_mt cOb hr (by decide) (pv 0) (pa_cons (pv 3) (pa_cons (pv 2) (pa_cons (pv 4) pa_nil)))) (nomark _)) (pss_one (ps_ret pe_bl)) pss_nil)))
      (pss_one (ps_ret pe_bl))), ?_⟩
    have hY1 : Kn g [Y] := fun Z hZ => by rw [List.mem_singleton.mp hZ]; exact hY
    have noOb : (rfs vg vk vo bd fr).lookup ("outs_by" : Str) = Option.none := rfs_no _ _ _ _ _ (by decide +kernel) (by decide +kernel) (by decide +kernel) (by decide +kernel) (by decide +kernel) (by decide +kernel)
    have ep : passes g.gm cn wN (dlk old) (dlk bs) Y m = (decide (out (dlk old) [Y] = out (dlk old) m) && decide (outsOf cn (dlk old) (rowSteps g.gm cn [Y]) = outsOf cn (dlk old) (rowSteps g.gm cn m)) && decide (outsOf cn (dlk bs) (lessened g.gm cn wN [Y]) = outsOf cn (dlk bs) (lessened g.gm cn wN m))) := rfl
    rw [ep] at k
    -- if put_out(..) != put_out(..)
    refine ⟨_, rfl, p, CR, dx, _, _, rfl, st.ins, R.cl, R.nKi, rfs_kind _ _ _ _ _, _, rfl, p, CR, dx, _, _, rfl, st.ins, R.cl, R.nO, rfs_old _ _ _ _ _, _, rfl, by show 1 ≤ sizeLine; decide, fun q hq => ?_⟩
    have s1 : Sm T H (upd H q (.lst [.str Y])) := Sm.new hq
    have st1 := st.mono s1
    refine ⟨vo, .ref q, old, [Y], rfl, st1.old', At.of_strs upd_same, ?_, fun v2 H2 s2 h2 => ?_⟩
    · have := BL.out hbo [Y]
      have : (out (dlk old) [Y]).length ≤ 40 := this
      omega
    have st2 := st1.mono s2
    have s12 := s1.trans s2
    refine ⟨_, rfl, p, CR, dx, _, _, rfl, st2.ins, R.cl, R.nKi, rfs_kind _ _ _ _ _, _, rfl, p, CR, dx, _, _, rfl, st2.ins, R.cl, R.nO, rfs_old _ _ _ _ _, _, rfl, vo, u, old, m, rfl, st2.old', hm.mono s12.kp, ?_, fun v3 H3 s3 h3 => ?_⟩
    · have := BL.out hbo m
      omega
    have s13 := s12.trans s3
    refine ⟨out (dlk old) [Y], out (dlk old) m, (new_at h2).mono s3.kp, new_at h3, _, rfl, ?_⟩
    by_cases e1 : out (dlk old) [Y] = out (dlk old) m
    · rw [decide_eq_true e1] at k ⊢
      refine iteF ?_
      have st3 := st.mono s13
      refine ⟨_, rfl, p, CR, dx, _, _, rfl, st3.ins, R.cl, R.nO, rfs_old _ _ _ _ _, by show 2 ≤ sizeLine; decide, fun t1 ht1 => ?_⟩
      have s4 : Sm T H3 (upd H3 t1 (.tup [vo, .bl false])) := Sm.new ht1
      have st4 := st3.mono s4
      refine ⟨_, rfl, p, CR, dx, _, _, rfl, st4.ins, R.cl, R.nB, rfs_base _ _ _ _ _, by show 2 ≤ sizeLine; decide, fun t2 ht2 => ?_⟩
      have s5 : Sm T (upd H3 t1 (.tup [vo, .bl false])) (upd (upd H3 t1 (.tup [vo, .bl false])) t2 (.tup [.ref bd, .bl true])) := Sm.new ht2
      refine ⟨by show 2 ≤ sizeLine; decide, fun D hD => ?_⟩
      have s6 : Sm T _ (upd (upd (upd H3 t1 (.tup [vo, .bl false])) t2 (.tup [.ref bd, .bl true])) D (.lst [.ref t1, .ref t2])) := Sm.new hD
      have sA := ((s13.trans s4).trans s5).trans s6
      have a1 := (s5.trans s6).tup (upd_same (H := H3) (a := t1) (o := .tup [vo, .bl false]))
      have a2 := s6.tup (upd_same (H := upd H3 t1 (.tup [vo, .bl false])) (a := t2) (o := .tup [.ref bd, .bl true]))
      refine ⟨D, rfl, ⟨_, SqL.of upd_same⟩, for_list (K := K) (a := D) (xs := [.ref t1, .ref t2])
        (fun i σ H' => Sm T H H' ∧ (∃ y3 y4, σ = [some (.ref p), some (.str Y), some u, y3, y4]) ∧ H' D = some (.lst [.ref t1, .ref t2]) ∧ H' t1 = some (.tup [vo, .bl false]) ∧ H' t2 = some (.tup [.ref bd, .bl true]) ∧
          (1 ≤ i → outsOf cn (dlk old) (rowSteps g.gm cn [Y]) = outsOf cn (dlk old) (rowSteps g.gm cn m)) ∧ (2 ≤ i → outsOf cn (dlk bs) (lessened g.gm cn wN [Y]) = outsOf cn (dlk bs) (lessened g.gm cn wN m)))
        ⟨sA, ⟨_, _, rfl⟩, upd_same, a1, a2, fun z => absurd z (by decide), fun z => absurd z (by decide)⟩ (fun i σ H' _ h => SqL.of h.2.2.1) ?_ ?_⟩
      · rintro i y σ H7 hi ⟨s7, ⟨y3, y4, rfl⟩, hD7, h17, h27, c1, c2⟩
        -- one turn, whichever base
        have turn : ∀ (vb : V) (b : Bs) (less : Bool) (z3 z4 : Option V), At H7 vb (Dct.mk b) → BL b →
            (outsOf cn (dlk b) (if less = true then lessened g.gm cn wN [Y] else rowSteps g.gm cn [Y]) = outsOf cn (dlk b) (if less = true then lessened g.gm cn wN m else rowSteps g.gm cn m) → ∀ H', Sm T H7 H' → (1 ≤ i + 1 → outsOf cn (dlk old) (rowSteps g.gm cn [Y]) = outsOf cn (dlk old) (rowSteps g.gm cn m)) ∧ (2 ≤ i + 1 → outsOf cn (dlk bs) (lessened g.gm cn wN [Y]) = outsOf cn (dlk bs) (lessened g.gm cn wN m))) →
            (¬ outsOf cn (dlk b) (if less = true then lessened g.gm cn wN [Y] else rowSteps g.gm cn [Y]) = outsOf cn (dlk b) (if less = true then lessened g.gm cn wN m else rowSteps g.gm cn m) → ∀ H', Sm T H H' → Q (.bl false) H') →
            (tIfS (tTest (tOp (rNeT (List Step)) (tMeth CR "outs_by" (spOutsBy T C CR) [] C8.E0 (tVar 0) (tCons (tVar 3) (tCons (tLst (tCons (tVar 1) tNil)) (tCons (tVar 4) tNil)))) (tMeth CR "outs_by" (spOutsBy T C CR) [] C8.E0 (tVar 0) (tCons (tVar 3) (tCons (tVar 2) (tCons (tVar 4) tNil)))))) (tRet (tC (.bl false))) tNext)
              { nx := fun σ H' => Sm T H H' ∧ (∃ y3 y4, σ = [some (.ref p), some (.str Y), some u, y3, y4]) ∧ H' D = some (.lst [.ref t1, .ref t2]) ∧ H' t1 = some (.tup [vo, .bl false]) ∧ H' t2 = some (.tup [.ref bd, .bl true]) ∧
                (1 ≤ i + 1 → outsOf cn (dlk old) (rowSteps g.gm cn [Y]) = outsOf cn (dlk old) (rowSteps g.gm cn m)) ∧ (2 ≤ i + 1 → outsOf cn (dlk bs) (lessened g.gm cn wN [Y]) = outsOf cn (dlk bs) (lessened g.gm cn wN m)), rt := Q }
              [some (.ref p), some (.str Y), some u, some vb, some (.bl less)] H7 := by
          intro vb b less z3 z4 hvb hbl good bad
          have st7 := st.mono s7
          refine ⟨_, rfl, p, dx, _, rfl, st7.ins, noOb, _, rfl, _, rfl, by show 1 ≤ sizeLine; decide, fun q2 hq2 => ?_⟩
          have t1' : Sm T H7 (upd H7 q2 (.lst [.str Y])) := Sm.new hq2
          have st8 := st7.mono t1'
          refine ⟨_, rfl, H0, p, dx, vg, vk, vo, .ref q2, vb, bd, fr, g, kn, old, bs, b, firsts, wN, [Y], less, rfl, st8, gs, kw, hvb.mono t1'.kp, hbl, At.of_strs upd_same, hY1, by show 1 ≤ 1000; decide, fun v8 H8 s8 h8 => ?_⟩
          have t2' := t1'.trans s8
          have st9 := st8.mono s8
          refine ⟨_, rfl, p, dx, _, rfl, st9.ins, noOb, _, rfl, _, rfl, _, rfl, H0, p, dx, vg, vk, vo, u, vb, bd, fr, g, kn, old, bs, b, firsts, wN, m, less, rfl, st9, gs, kw, hvb.mono t2'.kp, hbl, hm.mono (s7.trans t2').kp, hkm, hlm, fun v9 H9 s9 h9 => ?_⟩
          have t3' := t2'.trans s9
          refine ⟨_, _, (new_at h8).mono s9.kp, new_at h9, _, rfl, ?_⟩
          by_cases e : outsOf cn (dlk b) (if less = true then lessened g.gm cn wN [Y] else rowSteps g.gm cn [Y]) = outsOf cn (dlk b) (if less = true then lessened g.gm cn wN m else rowSteps g.gm cn m)
          · rw [decide_eq_true e]
            exact iteF ⟨s7.trans t3', ⟨_, _, rfl⟩, t3'.lst hD7, t3'.tup h17, t3'.tup h27, good e H9 t3'⟩
          · rw [decide_eq_false e]
            exact iteT (bad e H9 (s7.trans t3'))
        match i, hi with
        | 0, hi =>
          have hy : y = .ref t1 := (Option.some.inj hi).symm
          subst hy
          refine ⟨t1, _, rfl, SqT.of h17, rfl, _, _, rfl, _, _, rfl, rfl, ?_⟩
          refine turn vo old false y3 y4 (st.mono s7).old' hbo (fun e H' _ => ⟨fun _ => e, fun z => absurd z (by decide)⟩) (fun e H' s' => ?_)
          have := k H' s'
          rw [decide_eq_false (show ¬ outsOf cn (dlk old) (rowSteps g.gm cn [Y]) = outsOf cn (dlk old) (rowSteps g.gm cn m) from e)] at this
          exact this
        | 1, hi =>
          have hy : y = .ref t2 := (Option.some.inj hi).symm
          subst hy
          refine ⟨t2, _, rfl, SqT.of h27, rfl, _, _, rfl, _, _, rfl, rfl, ?_⟩
          refine turn (.ref bd) bs true y3 y4 (st.mono s7).bs' hbb (fun e H' _ => ⟨fun _ => c1 (by decide), fun _ => e⟩) (fun e H' s' => ?_)
          have := k H' s'
          rw [decide_eq_false (show ¬ outsOf cn (dlk bs) (lessened g.gm cn wN [Y]) = outsOf cn (dlk bs) (lessened g.gm cn wN m) from e), Bool.and_false] at this
          exact this
        | n + 2, hi => simp at hi
      · rintro σ H7 ⟨s7, ⟨y3, y4, rfl⟩, hD7, h17, h27, c1, c2⟩
        have := k H7 s7
        rw [decide_eq_true (c1 (by show 1 ≤ 2; decide)), decide_eq_true (c2 (by show 2 ≤ 2; decide))] at this
        exact this
    · have := k H3 s13
      rw [decide_eq_false e1] at this ⊢
      exact iteT this
end
end SG

set_option Elab.async false
set_option linter.all false
set_option maxRecDepth 100000
set_option maxHeartbeats 4000000
set_option autoImplicit false
/-! refine: Refining.take, __init__. -/
namespace SG
open PySem PySem.Spec PyProof.Rows L2 LamX C8
def spTake (T : List (Addr × Str)) (C CR : Addr) : Sp := fun vs H Q _ => ∃ (H0 : Hp) (p dx : Addr) (vg vk vo : V) (bd fr : Addr) (g : Gr) (kn : Nd) (old base : Bs) (firsts : List Str) (w : Str → Nat) (X : Str), vs = [.ref p, .str X] ∧ RefSt T C CR H0 H p dx vg vk vo bd fr g kn old base firsts ∧
  GSm g ∧ KnW kn g w ∧ BL old ∧ BL base ∧ (dlk g.stored X).isSome = true ∧ lessRules g.gm w X ≠ [] ∧ Kn g firsts ∧ firsts.length ≤ 1000 ∧ base.length ≤ 1000 ∧ dlk base X = Option.none ∧ (∀ m ∈ cands g.gm w (dlk base) firsts X, Kn g m ∧ m.length ≤ 40) ∧
  ∀ (H' : Hp) (b' : Bs) (f' : List Str), RS.take g.gm cn w (dlk old) ⟨base, firsts⟩ X = ⟨b', f'⟩ → RefSt T C CR H0 H' p dx vg vk vo bd fr g kn old b' f' → (∀ b o, H b = some o → (∀ ps, o ≠ .tbl ps) → b ≠ bd → b ≠ fr → H' b = some o) → Q .non H'
def spRInit (CR : Addr) : Sp := fun vs H Q _ => ∃ (p dx : Addr) (vg vk vo : V), vs = [.ref p, vg, .str "row", vk, vo] ∧ H p = some (.ins CR dx []) ∧
  ∀ (bd fr : Addr) (H' : Hp), (∀ b o, H b = some o → b ≠ p → H' b = some o) → H bd = Option.none → H fr = Option.none → H' p = some (.ins CR dx (rfs vg vk vo bd fr)) → H' bd = some (.dK []) → H' fr = some (.lst []) → Q .non H'
theorem putF_new {f : Str} {v : V} : ∀ {fs : List (Str × V)}, f ∉ fs.map (·.1) → putF f v fs = fs ++ [(f, v)]
  | [], _ => rfl
  | (g, u) :: r, h => by
    rw [List.map_cons, List.mem_cons, not_or] at h
    show (if g = f then (g, v) :: r else (g, u) :: putF f v r) = _
    rw [if_neg (fun z => h.1 z.symm), putF_new h.2]
    rfl
section
variable {P : Program} {w : World} {K : PySem.W.Frag} {mg : Str → Option Value} {base : Heap} {T : List (Addr × Str)} {C CR : Addr}
theorem scTake : FnScope ["self", "name", "making"] ["self", "name"] (fnScope sTake) := fnScope_by (by decide +kernel)
theorem met_take (X : Gs mg) (R : RCls K CR) (cC : Met P w K mg base 3 CR "candidates" (spCands T C CR) []) (cP : Met P w K mg base 7 CR "passes" (spPasses T C CR) [])
    (F : MetB K CR "take" "Refining.take" sTake ["self", "name"]) : Met P w K mg base 8 CR "take" (spTake T C CR) [] := by
  refine met_of F scTake (fun vs H Q E h => ?_) (fun f cdv A outer s H vs Q E hr h => ?_)
  · obtain ⟨H0, p, dx, vg, vk, vo, bd, fr, g, kn, old, bs, firsts, wN, Y, rfl, _⟩ := h
    rfl
  · obtain ⟨H0, p, dx, vg, vk, vo, bd, fr, g, kn, old, bs, firsts, wN, Y, rfl, st, gs, kw, hbo, hbb, hY, hne, hkf, hlf, hlb, hbY, hcm, k⟩ := h
    have hu := hu_of hr
    refine ⟨_, pss_cons (ps_for PassesOwn.never rfl (pi_list (pe_mt cC hr (by decide) (pv 0) (pa_cons (pv 1) pa_nil))) (pg_name (i := 2) scTake.nd rfl (Or.inl rfl))
        (pss_one (ps_if (pt_val (pe_mt cP hr (by decide) (pv 0) (pa_cons (pv 1) (pa_cons (pv 2) pa_nil)))) (pss_cons (ps_dput hu (pe_fld (pv 0) rfl) (pv 1) (pv 2) rfl) (pss_one ps_retN)) pss_nil)))
      (pss_one (ps_expr (pe_bm PySem.F.plainAttrs_list PySem.F.slot_list_append PySem.F.type_list_append mt_append (pe_fld (pv 0) rfl) (pa_cons (pv 1) pa_nil)))), ?_⟩
    have noC : (rfs vg vk vo bd fr).lookup ("candidates" : Str) = Option.none := rfs_no _ _ _ _ _ (by decide +kernel) (by decide +kernel) (by decide +kernel) (by decide +kernel) (by decide +kernel) (by decide +kernel)
    have noP : (rfs vg vk vo bd fr).lookup ("passes" : Str) = Option.none := rfs_no _ _ _ _ _ (by decide +kernel) (by decide +kernel) (by decide +kernel) (by decide +kernel) (by decide +kernel) (by decide +kernel)
    refine ⟨_, rfl, p, dx, _, rfl, st.ins, noC, _, rfl, H0, p, dx, vg, vk, vo, bd, fr, g, kn, old, bs, firsts, wN, Y, rfl, st, gs, kw, hbb, hY, hne, hkf, hlf, fun v2 H2 s2 h2 => ?_⟩
    obtain ⟨c, ws, rfl, hc, hws⟩ := h2
    have hc2 := (dif_some hc).2
    have st2 := st.mono s2
    have hwl := hws.length
    obtain ⟨ps, hps1, hps2⟩ := st.bs
    have hnfb : bd ≠ fr := ne_of hps1 st.fs (fun z => nomatch z)
    have hpb : p ≠ bd := ne_of st.ins hps1 (fun z => nomatch z)
    have hpf : p ≠ fr := ne_of st.ins st.fs (fun z => nomatch z)
    refine ⟨c, rfl, ⟨_, SqL.of hc2⟩, for_list (K := K) (a := c) (xs := ws)
      (fun i σ H' => Sm T H2 H' ∧ (∃ y2, σ = [some (.ref p), some (.str Y), y2]) ∧ ∀ m ∈ (cands g.gm wN (dlk bs) firsts Y).take i, passes g.gm cn wN (dlk old) (dlk bs) Y m = false)
      ⟨Sm.refl T H2, ⟨_, rfl⟩, fun _ z => nomatch z⟩ (fun i σ H' _ h => SqL.of (h.1.lst hc2)) ?_ ?_⟩
    · rintro i y σ H3 hi ⟨s3, ⟨y2, rfl⟩, hno⟩
      obtain ⟨m, hmi, hat⟩ := hws.getV hi
      have et : (cands g.gm wN (dlk bs) firsts Y).take (i + 1) = (cands g.gm wN (dlk bs) firsts Y).take i ++ [m] := by
        rw [List.take_add_one, hmi]
        rfl
      have st3 := st2.mono s3
      have hat3 : At H3 y m := (hat.mono dif_kp).mono s3.kp
      obtain ⟨hkm, hlm⟩ := hcm m (List.mem_of_getElem? hmi)
      refine ⟨_, rfl, p, dx, _, rfl, st3.ins, noP, _, rfl, _, rfl, H0, p, dx, vg, vk, vo, y, bd, fr, g, kn, old, bs, firsts, wN, Y, m, rfl, st3, gs, kw, hbo, hbb, hY, hat3, hkm, by omega, fun H4 s4 => ⟨_, rfl, ?_⟩⟩
      cases ep : passes g.gm cn wN (dlk old) (dlk bs) Y m with
      | false =>
        refine iteF ⟨s3.trans s4, ⟨_, rfl⟩, fun m' hm' => ?_⟩
        rw [et] at hm'
        rcases List.mem_append.mp hm' with q | q
        · exact hno m' q
        · rw [List.mem_singleton.mp q]; exact ep
      | true =>
        have s24 := s3.trans s4
        have st4 := st2.mono s24
        obtain ⟨ps4, h41, h42⟩ := st4.bs
        have hpl : ps4.length < sizeLine := by
          have := h42.length
          exact Nat.lt_of_le_of_lt (by omega : ps4.length ≤ 1000) (by decide)
        refine iteT ⟨_, rfl, _, rfl, p, CR, dx, _, _, rfl, st4.ins, R.cl, R.nB, rfs_base _ _ _ _ _, _, rfl, bd, _, rfl, DPut.k (k := Sum.inr Y) h41 hpl, ?_⟩
        -- the making found
        have efind : (cands g.gm wN (dlk bs) firsts Y).find? (passes g.gm cn wN (dlk old) (dlk bs) Y) = some m := by
          have hd : cands g.gm wN (dlk bs) firsts Y = (cands g.gm wN (dlk bs) firsts Y).take i ++ m :: (cands g.gm wN (dlk bs) firsts Y).drop (i + 1) := by
            conv => lhs; rw [← List.take_append_drop i (cands g.gm wN (dlk bs) firsts Y)]
            congr 1
            obtain ⟨hlt, e⟩ := List.getElem?_eq_some_iff.mp hmi
            rw [List.drop_eq_getElem_cons hlt, e]
          rw [hd, List.find?_append]
          have : ((cands g.gm wN (dlk bs) firsts Y).take i).find? (passes g.gm cn wN (dlk old) (dlk bs) Y) = Option.none := List.find?_eq_none.mpr fun x hx => by rw [hno x hx]; exact Bool.false_ne_true
          rw [this, List.find?_cons, ep]
          rfl
        have etake : RS.take g.gm cn wN (dlk old) ⟨bs, firsts⟩ Y = ⟨bs ++ [(Y, m)], firsts⟩ := take_some efind
        refine k _ _ _ etake ⟨st4.sm.mut st.nb h41 True.intro, st.np, st.nb, st.nf, by rw [upd_ne hpb]; exact st4.ins, st.gr, st.kn, st.old, ⟨_, upd_same, ?_⟩, by rw [upd_ne hnfb.symm]; exact st4.fs⟩ (fun b o e n q1 q2 => by rw [upd_ne q1]; exact (s2.trans s24).kp b o e n)
        -- the base's makings
        have kup : Kp (hid (hid (dif H4 H0) fr) bd) (hid (hid (dif (upd H4 bd (.dK (putK ps4 (Sum.inr Y : Key) y))) H0) fr) bd) := fun b o e n => by
          by_cases q : b = bd
          · rw [q, hid_at] at e; cases e
          · rw [hid_ne q] at e ⊢
            by_cases q2 : b = fr
            · rw [q2, hid_at] at e; cases e
            · rw [hid_ne q2] at e ⊢
              obtain ⟨e1, e2⟩ := dif_some e
              rw [dif_new e1, upd_ne q]
              exact e2
        have hput := (h42.mono kup).put (X := Y) (v := y) (x := m) ((hat.mono (?_ : Kp (dif H2 H) (hid (hid (dif H4 H0) fr) bd))).mono kup)
        · rw [dput_new hbY] at hput
          exact hput
        · have k1 : Kp (dif H2 H) (dif H4 H0) := dif_mono (fun b z => st.sm.fr b z) s24.kp
          exact (k1.hid (dif_old st.fs)).hid (by exact dif_old hps1)
    · rintro σ H3 ⟨s3, ⟨y2, rfl⟩, hno⟩
      rw [hwl, List.take_length] at hno
      have st3 := st2.mono s3
      have etake : RS.take g.gm cn wN (dlk old) ⟨bs, firsts⟩ Y = ⟨bs, firsts ++ [Y]⟩ := take_none (List.find?_eq_none.mpr fun x hx => by
        have e := hno x hx
        show ¬ passes g.gm cn wN (dlk old) (dlk bs) Y x = true
        rw [e]; exact Bool.false_ne_true)
      obtain ⟨ps3, h31, h32⟩ := st3.bs
      refine ⟨_, rfl, p, CR, dx, _, _, rfl, st3.ins, R.cl, R.nF, rfs_firsts _ _ _ _ _, .inl ⟨rfl, _, SqL.of st3.fs⟩, _, rfl, fr, _, _, rfl, rfl, st3.fs, by rw [List.length_map]; exact Nat.lt_of_le_of_lt hlf (by decide), ?_⟩
      refine k _ _ _ etake ⟨st3.sm.mut st.nf st3.fs True.intro, st.np, st.nb, st.nf, by rw [upd_ne hpf]; exact st3.ins, st.gr, st.kn, st.old, ⟨ps3, by rw [upd_ne hnfb]; exact h31, h32.mono fun b o e n => ?_⟩, by rw [upd_same, List.map_append]; rfl⟩ (fun b o e n q1 q2 => by rw [upd_ne q2]; exact (s2.trans s3).kp b o e n)
      by_cases q : b = bd
      · rw [q, hid_at] at e; cases e
      · rw [hid_ne q] at e ⊢
        by_cases q2 : b = fr
        · rw [q2, hid_at] at e; cases e
        · rw [hid_ne q2] at e ⊢
          obtain ⟨e1, e2⟩ := dif_some e
          rw [dif_new e1, upd_ne q2]
          exact e2
theorem scRInit : FnScope ["self", "grammar", "kind", "known", "old"] ["self", "grammar", "kind", "known", "old"] (fnScope sRInit) := fnScope_by (by decide +kernel)
theorem mak_ref (X : Gs mg) (R : RCls K CR) (F : MakB K mg "Refining" "Refining.__init__" CR sRInit ["self", "grammar", "kind", "known", "old"]) : Mak P w K mg base 1 "Refining" CR (spRInit CR) [] := by
  refine mak_of F scRInit (fun vs H Q E h => ?_) (fun f cdv A outer s H vs Q E hr h => ?_)
  · obtain ⟨p, dx, vg, vk, vo, rfl, _⟩ := h
    rfl
  · obtain ⟨p, dx, vg, vk, vo, rfl, hp, k⟩ := h
    refine ⟨_, pss_cons (ps_fld (pv 0) (pv 1) rfl) (pss_cons (ps_fld (pv 0) (pv 2) rfl) (pss_cons (ps_fld (pv 0) (pv 3) rfl) (pss_cons (ps_fld (pv 0) (pv 4) rfl) (pss_cons (ps_fld (pv 0) pe_dnewK rfl) (pss_one (ps_fld (pv 0) (pe_lst pa_nil) rfl)))))), ?_⟩
    have e1 : putF "grammar" vg [] = [(("grammar" : Str), vg)] := rfl
    have e2 : putF "kind" (V.str "row") [(("grammar" : Str), vg)] = [(("grammar" : Str), vg), ("kind", .str "row")] := putF_new (show ("kind" : Str) ∉ (["grammar"] : List Str) by decide +kernel)
    have e3 : putF "known" vk [(("grammar" : Str), vg), ("kind", .str "row")] = [(("grammar" : Str), vg), ("kind", .str "row"), ("known", vk)] := putF_new (show ("known" : Str) ∉ (["grammar", "kind"] : List Str) by decide +kernel)
    have e4 : putF "old" vo [(("grammar" : Str), vg), ("kind", .str "row"), ("known", vk)] = [(("grammar" : Str), vg), ("kind", .str "row"), ("known", vk), ("old", vo)] := putF_new (show ("old" : Str) ∉ (["grammar", "kind", "known"] : List Str) by decide +kernel)
    have e5 : ∀ bd : Addr, putF "base" (V.ref bd) [(("grammar" : Str), vg), ("kind", .str "row"), ("known", vk), ("old", vo)] = [(("grammar" : Str), vg), ("kind", .str "row"), ("known", vk), ("old", vo), ("base", .ref bd)] := fun bd => putF_new (show ("base" : Str) ∉ (["grammar", "kind", "known", "old"] : List Str) by decide +kernel)
    have e6 : ∀ bd fr : Addr, putF "firsts" (V.ref fr) [(("grammar" : Str), vg), ("kind", .str "row"), ("known", vk), ("old", vo), ("base", .ref bd)] = rfs vg vk vo bd fr := fun bd fr => putF_new (show ("firsts" : Str) ∉ (["grammar", "kind", "known", "old", "base"] : List Str) by decide +kernel)
    refine ⟨_, rfl, _, rfl, p, CR, dx, _, rfl, hp, R.cl, R.nG, by show 0 < 1000; decide, ?_⟩
    rw [e1]
    refine ⟨_, rfl, _, rfl, p, CR, dx, _, rfl, upd_same, R.cl, R.nKi, by show 1 < 1000; decide, ?_⟩
    rw [e2]
    refine ⟨_, rfl, _, rfl, p, CR, dx, _, rfl, upd_same, R.cl, R.nKn, by show 2 < 1000; decide, ?_⟩
    rw [e3]
    refine ⟨_, rfl, _, rfl, p, CR, dx, _, rfl, upd_same, R.cl, R.nO, by show 3 < 1000; decide, ?_⟩
    rw [e4]
    intro bd hbd
    have hpb : p ≠ bd := ne_of_none upd_same hbd
    refine ⟨_, rfl, p, CR, dx, _, rfl, (by rw [upd_ne hpb]; exact upd_same), R.cl, R.nB, by show 4 < 1000; decide, ?_⟩
    rw [e5]
    refine ⟨Nat.zero_le _, fun fr hfr => ?_⟩
    have hpf : p ≠ fr := ne_of_none upd_same hfr
    have hfb : bd ≠ fr := fun z => by
      rw [← z, upd_ne hpb.symm, upd_same] at hfr
      cases hfr
    refine ⟨_, rfl, p, CR, dx, _, rfl, (by rw [upd_ne hpf]; exact upd_same), R.cl, R.nF, by show 5 < 1000; decide, ?_⟩
    rw [e6]
    have hbd0 : H bd = Option.none := by
      rw [upd_ne hpb.symm, upd_ne hpb.symm, upd_ne hpb.symm, upd_ne hpb.symm] at hbd
      exact hbd
    have hfr0 : H fr = Option.none := by
      rw [upd_ne hpf.symm, upd_ne hfb.symm, upd_ne hpf.symm, upd_ne hpf.symm, upd_ne hpf.symm, upd_ne hpf.symm] at hfr
      exact hfr
    refine k bd fr _ (fun b o e hb => ?_) hbd0 hfr0 upd_same ?_ ?_
    · have n1 : b ≠ bd := ne_of_none e hbd0
      have n2 : b ≠ fr := ne_of_none e hfr0
      rw [upd_ne hb, upd_ne n2, upd_ne hb, upd_ne n1, upd_ne hb, upd_ne hb, upd_ne hb, upd_ne hb]
      exact e
    · rw [upd_ne hpb.symm, upd_ne hfb, upd_ne hpb.symm, upd_same]
    · rw [upd_ne hpf.symm, upd_same]
end
end SG

set_option Elab.async false
set_option linter.all false
set_option maxRecDepth 100000
set_option maxHeartbeats 4000000
set_option autoImplicit false
/-! refine: refined, bases_of. -/
namespace SG
open PySem PySem.Spec PyProof.Rows L2 LamX C8
abbrev sRefined : Stmt := top 30
abbrev sBasesOf : Stmt := top 31
def spRefined (T : List (Addr × Str)) (C : Addr) : Sp := fun vs H Q _ => ∃ (vg vk vo : V) (g : Gr) (kn : Nd) (w : Str → Nat) (ob : Bs), vs = [vg, .str "row", vk, vo] ∧ GrAt C H vg g ∧ At H vk (Dct.mk kn) ∧ At H vo (Dct.mk ob) ∧ GSm g ∧ KnW kn g w ∧ Nms g.gm w ∧ (∀ X ∈ g.names, w X ≤ 40) ∧ BL ob ∧ Tabs T H ∧
  Ret T H Q (Dct.mk (refined g.gm cn w (ordN g w) ob))
def basesL (g : Gr) (w : Str → Nat) (n : Nat) : List (Dct (List Str)) := (List.range n).map fun i => Dct.mk (bases g.gm cn w (ordN g w) i)
def spBasesOf (T : List (Addr × Str)) (C : Addr) : Sp := fun vs H Q _ => ∃ (vg vk : V) (g : Gr) (kn : Nd) (w : Str → Nat), vs = [vg, .str "row", vk] ∧ GrAt C H vg g ∧ At H vk (Dct.mk kn) ∧ GSm g ∧ KnW kn g w ∧ Nms g.gm w ∧ (∀ X ∈ g.names, w X ≤ 40) ∧ Tabs T H ∧
  Ret T H Q (basesL g w (stopAt g.gm cn w (ordN g w) + 1))
section
variable {P : Program} {w : World} {K : PySem.W.Frag} {mg : Str → Option Value} {base : Heap} {T : List (Addr × Str)} {C CR : Addr}
theorem scRefined : FnScope ["grammar", "kind", "known", "old", "going", "name"] ["grammar", "kind", "known", "old"] (fnScope sRefined) := fnScope_by (by decide +kernel)
theorem cal_refined (X : Gs mg) (R : RCls K CR) (cMk : Mak P w K mg base 1 "Refining" CR (spRInit CR) []) (cTake : Met P w K mg base 8 CR "take" (spTake T C CR) []) (cBy : Cal P w K mg base 3 "by_norms" (spByNorms T C) [])
    (F : DefB K mg "refined" sRefined ["grammar", "kind", "known", "old"]) : Cal P w K mg base 9 "refined" (spRefined T C) [] := by
  refine cal_of F scRefined (fun vs H Q E h => ?_) (fun f cdv A outer s H vs Q E hr h => ?_)
  · obtain ⟨vg, vk, vo, g, kn, wN, ob, rfl, _⟩ := h
    rfl
  · obtain ⟨vg, vk, vo, g, kn, wN, ob, rfl, hg, hk, ho, gs, kw, W, hw, hbo, ht, k⟩ := h
    refine ⟨_, pss_cons (ps_set (i := 4) scRefined.nd rfl (Or.inl rfl) (pe_mk cMk hr (by decide) rfl (pa_cons (pv 0) (pa_cons (pv 1) (pa_cons (pv 2) (pa_cons (pv 3) pa_nil))))))
      (pss_cons (ps_for PassesOwn.never rfl (pi_list (pe_c cBy hr (by decide) rfl (pa_cons (pv 0) (pa_cons (pv 2) pa_nil)))) (pg_name (i := 5) scRefined.nd rfl (Or.inl rfl))
        (pss_one (ps_expr (pe_mt cTake hr (by decide) (pv 4) (pa_cons (pv 5) pa_nil)))))
      (pss_one (ps_ret (pe_fld (pv 4) rfl)))), ?_⟩
    refine ⟨_, rfl, _, rfl, _, rfl, _, rfl, fun p dx hp hdx hne => ?_⟩
    refine ⟨p, dx, vg, vk, vo, rfl, upd_same, fun bd fr H1 hkeep hbd hfr hins hbd1 hfr1 => ⟨rfl, ?_⟩⟩
    have sm1 : Sm T H H1 := Sm.of fun b o e => by
      have n1 : b ≠ p := ne_of_none e hp
      have n2 : b ≠ dx := ne_of_none e hdx
      exact hkeep b o (by rw [upd_ne n1, upd_ne n2]; exact e) n1
    have none_of : ∀ b, (upd (upd H dx (.own p)) p (.ins CR dx [])) b = Option.none → H b = Option.none := fun b e => by
      have n1 : b ≠ p := fun z => by rw [z, upd_same] at e; cases e
      rw [upd_ne n1] at e
      have n2 : b ≠ dx := fun z => by rw [z, upd_same] at e; cases e
      rw [upd_ne n2] at e
      exact e
    have st1 : RefSt T C CR H H1 p dx vg vk vo bd fr g kn ob [] [] := ⟨sm1, hp, none_of _ hbd, none_of _ hfr, hins, hg, hk, ho, ⟨[], hbd1, True.intro⟩, hfr1⟩
    have O := ordN_ok gs wN
    have hO : (ordN g wN).length ≤ 1000 := by rw [ordN_len]; exact gs.many
    refine ⟨_, rfl, _, rfl, vg, vk, g, kn, wN, rfl, st1.gr', st1.kn', gs, kw, sm1.tb ht, fun v2 H2 s2 h2 => ?_⟩
    obtain ⟨c, ws, rfl, hc, hws⟩ := h2
    rw [strs_at] at hws
    subst hws
    obtain ⟨hc1, hc2⟩ := dif_some hc
    have hcb : c ≠ bd := fun z => by rw [z, hbd1] at hc1; cases hc1
    have hcf : c ≠ fr := fun z => by rw [z, hfr1] at hc1; cases hc1
    have noT : (rfs vg vk vo bd fr).lookup ("take" : Str) = Option.none := rfs_no _ _ _ _ _ (by decide +kernel) (by decide +kernel) (by decide +kernel) (by decide +kernel) (by decide +kernel) (by decide +kernel)
    refine ⟨c, rfl, ⟨_, SqL.of hc2⟩, for_list (K := K) (a := c) (xs := (ordN g wN).map V.str)
      (fun i σ H' => ∃ b f, RefSt T C CR H H' p dx vg vk vo bd fr g kn ob b f ∧ H' c = some (.lst ((ordN g wN).map V.str)) ∧ (∃ y5, σ = [some vg, some (.str "row"), some vk, some vo, some (.ref p), y5]) ∧
        ((ordN g wN).take i).foldl (RS.take g.gm cn wN (lk ob)) ⟨[], []⟩ = ⟨b, f⟩ ∧ RInv g.gm wN (lk ob) ((ordN g wN).take i) ⟨b, f⟩)
      ⟨[], [], st1.mono s2, hc2, ⟨_, rfl⟩, rfl, RInv.nil⟩ (fun i σ H' _ h => by obtain ⟨_, _, _, h, _⟩ := h; exact SqL.of h) ?_ ?_⟩
    · rintro i y σ H3 hi ⟨b, f, st3, hc3, ⟨y5, rfl⟩, ef, I⟩
      rw [List.getElem?_map] at hi
      obtain ⟨Y, hY, rfl⟩ := Option.map_eq_some_iff.mp hi
      obtain ⟨hil, eY⟩ := List.getElem?_eq_some_iff.mp hY
      have et : (ordN g wN).take (i + 1) = (ordN g wN).take i ++ [Y] := by
        rw [List.take_add_one, hY]
        rfl
      have eo : ordN g wN = (ordN g wN).take i ++ Y :: (ordN g wN).drop (i + 1) := by
        conv => lhs; rw [← List.take_append_drop i (ordN g wN)]
        congr 1
        rw [List.drop_eq_getElem_cons hil, eY]
      obtain ⟨a1, a2, a3, a4, a5, a6⟩ := O.at eo
      have hYs : (dlk g.stored Y).isSome = true := by
        obtain ⟨rs, hrs⟩ := some_of_name gs a4
        rw [hrs]; rfl
      have hbb : BL b := fun Z m hZ => by
        have hm := I.mkd Z m hZ
        have e := good_E.wt _ _ hm.2
        have om := (good_E.over _ _ hm.2).2
        have l := len_le_wt W om
        have hz := hw Z (a1 Z (I.inP Z m hZ))
        rw [wt_cons, wt_nil] at e
        omega
      have hlP : ((ordN g wN).take i).length ≤ 1000 := Nat.le_trans (List.length_take_le' _ _) hO
      have hlb : b.length ≤ 1000 := by
        have := I.keys.length_le_of_subset (fun Z hZ => by
          cases e : lk b Z with
          | none => exact absurd hZ (lk_none.mp e)
          | some m => exact I.inP Z m e : b.map (·.1) ⊆ (ordN g wN).take i)
        rw [List.length_map] at this
        exact Nat.le_trans this hlP
      refine ⟨_, rfl, p, dx, _, rfl, st3.ins, noT, _, rfl, H, p, dx, vg, vk, vo, bd, fr, g, kn, ob, b, f, wN, Y, rfl, st3, gs, kw, hbo, hbb, hYs, ?_, (kn_iff gs).mpr fun Z hZ => a1 Z (I.fstP hZ), Nat.le_trans I.sub.length_le hlP, hlb, ?_, fun m hm => ?_, fun H4 b' f' e4 st4 keep4 => ?_⟩
      · obtain ⟨q, hq, e⟩ := W.n1 Y a4
        intro z
        have : (q.1, q.2) ∈ lessRules g.gm wN Y := mem_lessRules.mpr ⟨hq, by omega⟩
        rw [z] at this
        cases this
      · cases e : dlk b Y with
        | none => rfl
        | some m => exact absurd (I.inP Y m e) a5
      · obtain ⟨h1, h2⟩ := I.cand W a1 a3 a4 a6 hm
        have om : Over g.gm m := fun Z hZ => a1 Z (I.fstP (h1 Z hZ))
        refine ⟨(kn_iff gs).mpr om, ?_⟩
        have l := len_le_wt W om
        have := hw Y a4
        omega
      · refine ⟨b', f', st4, keep4 c _ hc3 (fun _ z => nomatch z) hcb hcf, ⟨_, rfl⟩, ?_, ?_⟩
        · rw [et, List.foldl_append, ef]
          exact e4
        · have := I.step W canon a1 a2 a3 a4 a5 a6
          rw [et]
          have e5 : RS.take g.gm cn wN (lk ob) ⟨b, f⟩ Y = ⟨b', f'⟩ := e4
          rw [e5] at this
          exact this
    · rintro σ H3 ⟨b, f, st3, hc3, ⟨y5, rfl⟩, ef, I⟩
      rw [List.length_map, List.take_length] at ef
      refine ⟨_, rfl, p, CR, dx, _, _, rfl, st3.ins, R.cl, R.nB, rfs_base _ _ _ _ _, ?_⟩
      obtain ⟨ps, h31, h32⟩ := st3.bs
      have er : refined g.gm cn wN (ordN g wN) ob = b := by
        unfold refined
        rw [ef]
      refine k _ _ st3.sm ⟨bd, ps, rfl, .inl (by rw [dif_new st3.nb]; exact h31), ?_⟩
      show AllKv _ ps (refined g.gm cn wN (ordN g wN) ob)
      rw [er]
      exact h32.mono (hid_kp.trans hid_kp)
theorem scBasesOf : FnScope ["grammar", "kind", "known", "found", "then"] ["grammar", "kind", "known"] (fnScope sBasesOf) := fnScope_by (by decide +kernel)
theorem cal_bases_of (X : Gs mg) (cBase0 : Cal P w K mg base 4 "base_of_norms" (spBase0 T C) []) (cRef : Cal P w K mg base 9 "refined" (spRefined T C) []) (F : DefB K mg "bases_of" sBasesOf ["grammar", "kind", "known"]) :
    Cal P w K mg base 10 "bases_of" (spBasesOf T C) [] := by
  refine cal_of F scBasesOf (fun vs H Q E h => ?_) (fun f cdv A outer s H vs Q E hr h => ?_)
  · obtain ⟨vg, vk, g, kn, wN, rfl, _⟩ := h
    rfl
  · obtain ⟨vg, vk, g, kn, wN, rfl, hg, hk, gs, kw, W, hw, ht, k⟩ := h
    have hu64 := hr.units
    refine ⟨_, pss_cons (ps_set (i := 3) scBasesOf.nd rfl (Or.inl rfl) (pe_lst (pa_cons (pe_c cBase0 hr (by decide) rfl (pa_cons (pv 0) (pa_cons (pv 2) pa_nil))) pa_nil)))
      (pss_cons (ps_set (i := 4) scBasesOf.nd rfl (Or.inl rfl) (pe_c cRef hr (by decide) rfl (pa_cons (pv 0) (pa_cons (pv 1) (pa_cons (pv 2) (pa_cons (pe_ix ix_list (pv 3) pe_int (fun _ _ => rfl)) pa_nil))))))
      (pss_cons (ps_while PassesOwn.never (pt_cmpR (op_neDct hu64) (pv 4) (pe_ix ix_list (pv 3) (pe_un un_neg pe_int) (fun _ _ => rfl)) (nomark _))
        (pss_cons (ps_expr (pe_bm PySem.F.plainAttrs_list PySem.F.slot_list_append PySem.F.type_list_append mt_append (pv 3) (pa_cons (pv 4) pa_nil)))
        (pss_one (ps_set (i := 4) scBasesOf.nd rfl (Or.inl rfl) (pe_c cRef hr (by decide) rfl (pa_cons (pv 0) (pa_cons (pv 1) (pa_cons (pv 2) (pa_cons (pv 4) pa_nil)))))))))
      (pss_one (ps_ret (pv 3))))), ?_⟩
    have O := ordN_ok gs wN
    have hBL : ∀ i, BL (bases g.gm cn wN (ordN g wN) i) := fun i Z m hZ => by
      have h1 := bases_len W canon O i Z m hZ
      have h2 := hw Z ((bases_ok W canon O i).mkd.dom Z m hZ)
      omega
    obtain ⟨stop1, stop2⟩ := stop_ok W canon O
    have hk1000 : stopAt g.gm cn wN (ordN g wN) ≤ 1000 := by
      have : ∀ n i, firstStop (bases g.gm cn wN (ordN g wN)) n i ≤ n + i := by
        intro n
        induction n with
        | zero => intro i; show i ≤ 0 + i; omega
        | succ n ih =>
          intro i
          show (if deq (bases g.gm cn wN (ordN g wN) (i + 1)) (bases g.gm cn wN (ordN g wN) i) = true then i else firstStop _ n (i + 1)) ≤ n + 1 + i
          split
          · omega
          · have := ih (i + 1)
            omega
      have h1 := this (ordN g wN).length 0
      have h2 : (ordN g wN).length ≤ 1000 := by rw [ordN_len]; exact gs.many
      unfold stopAt
      omega
    refine ⟨_, rfl, _, rfl, vg, vk, g, kn, wN, rfl, hg, hk, gs, kw, fun Z hZ => Nat.le_trans (hw Z hZ) (by decide), ht, fun v1 H1 s1 h1 => ⟨by show 1 ≤ sizeLine; decide, fun D hD => ?_⟩⟩
    have s2 : Sm T H1 (upd H1 D (.lst [v1])) := Sm.new hD
    have s12 := s1.trans s2
    have hD0 : H D = Option.none := s1.fr _ hD
    refine ⟨_, rfl, _, rfl, _, rfl, _, rfl, D, _, 0, v1, rfl, rfl, SqL.of upd_same, atI_nat (j := 0) rfl, vg, vk, v1, g, kn, wN, bases g.gm cn wN (ordN g wN) 0, rfl, hg.mono s12.kp, hk.mono s12.kp, (new_at h1).mono s2.kp, gs, kw, W, hw, hBL 0, s12.tb ht, fun v3 H3 s3 h3 => ?_⟩
    have s13 := s12.trans s3
    have hD3 := s3.lst (upd_same (H := H1) (a := D) (o := .lst [v1]))
    refine ⟨fun m σ H' => ∃ (i : Nat) (ys : List V) (v : V), i ≤ stopAt g.gm cn wN (ordN g wN) ∧ m = stopAt g.gm cn wN (ordN g wN) - i ∧ Sm T H H' ∧ σ = [some vg, some (.str "row"), some vk, some (.ref D), some v] ∧ H' D = some (.lst ys) ∧
        AllAt (hid (dif H' H) D) ys (basesL g wN (i + 1)) ∧ At (hid (dif H' H) D) v (Dct.mk (bases g.gm cn wN (ordN g wN) (i + 1))),
      ⟨_, 0, [v1], v3, Nat.zero_le _, rfl, s13, rfl, hD3, ⟨?_, True.intro⟩, ?_⟩, ?_⟩
    · refine h1.mono ((dif_mono (fun _ z => z) (s2.trans s3).kp).hid ?_)
      exact (dif_new hD0).trans hD
    · exact h3.mono (kp_new s12 (by rw [upd_same]; exact fun z => nomatch z) (Kp.refl _))
    · rintro m σ H4 ⟨i, ys, v, hi, rfl, s4, rfl, hys, hA, hv⟩
      have hyl : ys.length = i + 1 := by rw [hA.length]; simp [basesL]
      have elast : (basesL g wN (i + 1))[i]? = some (Dct.mk (bases g.gm cn wN (ordN g wN) i)) := by
        unfold basesL
        rw [List.getElem?_map, List.getElem?_range (by omega)]
        rfl
      obtain ⟨u, hu1, hu2⟩ := hA.get elast
      have hne : ys ≠ [] := fun z => by rw [z] at hyl; simp at hyl
      have hlast : atI ys (-1) = some u := by
        have e : ys.getLast hne = u := by
          rw [List.getLast_eq_getElem]
          obtain ⟨q1, q2⟩ := List.getElem?_eq_some_iff.mp hu1
          rw [← q2]
          congr 1
          omega
        rw [← List.dropLast_concat_getLast hne, e]
        exact atI_last _ _
      refine ⟨_, rfl, _, rfl, 1, rfl, D, ys, -1, u, rfl, rfl, SqL.of hys, hlast, _, _, hv.mono (hid_kp.trans dif_kp), hu2.mono (hid_kp.trans dif_kp), _, rfl, ?_⟩
      cases ed : deq (bases g.gm cn wN (ordN g wN) (i + 1)) (bases g.gm cn wN (ordN g wN) i) with
      | true =>
        refine iteF ?_
        have ei : i = stopAt g.gm cn wN (ordN g wN) := by
          rcases Nat.lt_or_ge i (stopAt g.gm cn wN (ordN g wN)) with q | q
          · have := stop2 i q
            rw [ed] at this
            cases this
          · omega
        refine ⟨_, rfl, k _ _ s4 ?_⟩
        rw [← ei]
        exact lc_new hys hD0 hA
      | false =>
        have hlt : i < stopAt g.gm cn wN (ordN g wN) := by
          rcases Nat.lt_or_ge i (stopAt g.gm cn wN (ordN g wN)) with q | q
          · exact q
          · have : i = stopAt g.gm cn wN (ordN g wN) := by omega
            have e2 : deq (bases g.gm cn wN (ordN g wN) (i + 1)) (bases g.gm cn wN (ordN g wN) i) = true := by
              rw [this]
              exact stop1
            rw [ed] at e2
            cases e2
        refine iteT ⟨_, fun _ _ h => h, ?_⟩
        refine ⟨_, rfl, .inl ⟨rfl, _, SqL.of hys⟩, _, rfl, D, _, _, rfl, rfl, hys, Nat.lt_of_le_of_lt (by omega : ys.length ≤ 2000) (by decide), ?_⟩
        have s5 : Sm T H (upd H4 D (.lst (ys ++ [v]))) := s4.mut hD0 hys True.intro
        have hA5 := hA.mono (hid_upd (G := H) (o := .lst (ys ++ [v])))
        have hv5 := hv.mono (hid_upd (G := H) (o := .lst (ys ++ [v])))
        refine ⟨_, rfl, _, rfl, _, rfl, _, rfl, vg, vk, v, g, kn, wN, bases g.gm cn wN (ordN g wN) (i + 1), rfl, hg.mono s5.kp, hk.mono s5.kp, hv5.mono (hid_kp.trans dif_kp), gs, kw, W, hw, hBL (i + 1), s5.tb ht, fun v6 H6 s6 h6 => ?_⟩
        have hD6 := s6.lst (upd_same (H := H4) (a := D) (o := .lst (ys ++ [v])))
        have kk := hid_mono (D := D) (dif_mono (H0 := H) (fun _ z => z) s6.kp)
        refine ⟨_, by omega, i + 1, ys ++ [v], v6, by omega, rfl, s5.trans s6, rfl, hD6, ?_, h6.mono (kp_new s5 (by rw [upd_same]; exact fun z => nomatch z) (Kp.refl _))⟩
        have e7 : basesL g wN (i + 1 + 1) = basesL g wN (i + 1) ++ [Dct.mk (bases g.gm cn wN (ordN g wN) (i + 1))] := by
          unfold basesL
          rw [List.range_succ, List.map_append]
          rfl
        rw [e7]
        exact (hA5.snoc hv5).mono kk
end
end SG

set_option Elab.async false
set_option linter.all false
set_option maxRecDepth 100000
set_option maxHeartbeats 4000000
set_option autoImplicit false
/-! None in d.values(), max(d.values()) of a dict of ints. -/
namespace SG
open PySem PySem.Spec PyProof.Rows L2 LamX C8
theorem fact_ci_entry : entryFor table "proto.contains_iter" = some Builtin.«proto.contains_iter» := entryFor_of_fast (by kernel_rfl)
theorem fact_ci_plain : plainId "proto.contains_iter" = true := by decide +kernel
theorem fact_vals_in : typeLookup (.type "dict_values") "__contains__" = pure none := by kernel_rfl
section
variable {prog : Program} {w : World} {A : Around} {I : Addr} {fp wr : List Addr} {n : Nat} {P : Nat → Value → Prop} {St : Nat → Heap → Prop}
theorem code_ci {R : Result → Shared → Prop} (W : Walks prog w A.in1 I fp wr n P St) (hP : ∀ i v, P i v → ∃ m t, v = .int m t) :
    ∀ (k j : Nat) (s : Shared), n - j = k → j ≤ n → St j s.heap →
    (∀ h' tk, (∀ b o, b ∉ wr → s.heap.get? b = some o → h'.get? b = some o) → R (.ok (.ret (.bool false))) { s with heap := h', toks := tk }) →
    codeAny (model prog w) A (.builtin "proto.contains_iter" ⟨[.ref I, .none], []⟩) R s := by
  intro k
  induction k with
  | zero =>
    intro j s hk hj hst hR
    have hin : j = n := by omega
    refine codeAny_builtin fact_ci_entry ?_
    rw [Around.under_plainId fact_ci_plain _]
    show wpAny _ A.in1 (pyNext (.ref I) >>= _) _ _ s
    refine wpAny_bind (W.done s _ _ (hin ▸ hst) fun h' tk hk' => ?_)
    exact wpAny_bind (wpAny_rule (wpAny_pure (hR h' tk hk')))
  | succ k ih =>
    intro j s hk hj hst hR
    refine codeAny_builtin fact_ci_entry ?_
    rw [Around.under_plainId fact_ci_plain _]
    show wpAny _ A.in1 (pyNext (.ref I) >>= _) _ _ s
    refine wpAny_bind (W.item j s _ _ (by omega) hst fun v h' tk hPv hst' hk' => ?_)
    obtain ⟨m, t, rfl⟩ := hP _ _ hPv
    refine wpAny_bind (PySem.SeqAt.EqAt.int_none m t prog w _ _ ?_)
    refine wpAny_pure ⟨plainId_quiet fact_ci_plain _, ih (j + 1) _ (by omega) (by omega) hst' fun h'' tk'' hk'' => ?_⟩
    exact hR h'' tk'' fun b o hb e => hk'' b o hb (hk' b o hb e)
theorem none_in_walk {c : Value} {s : Shared} {E : Value → Shared → Prop} {Q : Value → Shared → Prop} (hT : s.TypeIs c "dict_values")
    (h : ∀ E, wpAny (model prog w) A (pyIter c) (fun it s₂ => ∃ I fp wr n P St, it = .ref I ∧ Walks prog w A.in1 I fp wr n P St ∧ St 0 s₂.heap ∧ (∀ i v, P i v → ∃ m t, v = Value.int m t) ∧
      ∀ h' tk, (∀ b o, b ∉ wr → s₂.heap.get? b = some o → h'.get? b = some o) → Q (.bool false) { s₂ with heap := h', toks := tk }) E s) :
    wpAny (model prog w) A (compareOp .In .none c) Q E s := by
  show wpAny _ _ (do return .bool (← contains c .none)) Q E s
  refine wpAny_bind ?_
  unfold contains
  refine wpAny_holding ?_
  rw [stdlibNamesSay?_of_typeIs hT]
  refine wpAny_bind (wpAny_specialOf hT fact_vals_in ?_)
  show wpAny _ A (if (Option.none == some Value.none) = true then _ else _) _ E s
  rw [if_neg (by simp)]
  refine wpAny_bind (wpAny_callSpecialUnlessNone?_none hT fact_vals_in ?_)
  refine wpAny_bind (wpAny_rule ?_)
  refine wpAny_bind (wpAny_tryCatch (thn (h _) fun it s₂ h₂ => ?_))
  obtain ⟨I, fp, wr, n, P, St, rfl, W, hst, hP, hQ⟩ := h₂
  refine wpAny_bind (wpAny_runValue ?_)
  refine code_ci W hP n 0 s₂ rfl (Nat.zero_le _) hst fun h' tk hk => ?_
  exact wpAny_pure (wpAny_pure (hQ h' tk hk))
end
section
variable {X : Cx} {o : Expr} {p pos apos mpos kpos : Pos} {td : TE} {j : Nat}
/-- the values view of a dict of ints, made: the state behind it -/
theorem vals_view {Y : Cx} {pins : List (Addr × Obj)} {σ : L2.St} {H : Hp} {s1 : Shared} {a : Addr} {kvs : List (Key × V)} {is : List Int} (I1 : Inv Y pins σ H s1) (ha : Rd H a (.dK kvs)) (hv : kvs.map (·.2) = is.map V.int) :
    (a == sysModules) = false ∧ ∃ (vs : List (Key × Value)) (ep : Nat), s1.heap.DictOf (mixKind Y.prog Y.w) a vs ∧ s1.heap.DictAt (mixKind Y.prog Y.w) a vs ep ∧ vs.length = is.length ∧ ∀ (i : Nat) (v : Value), (∃ k, vs[i]? = some (k, v)) → ∃ t, v = Value.int (is.getD i 0) t := by
  obtain ⟨_, hsys, vs, rel, dof⟩ := dk_rd I1.hok ha
  obtain ⟨ep, dat⟩ := dof.dictAt
  refine ⟨hsys, vs, ep, dof, dat, ?_, fun i v ⟨k, hk⟩ => ?_⟩
  · have e1 := congrArg List.length hv
    rw [List.length_map, List.length_map] at e1
    rw [← e1]
    exact (KV.length rel).symm
  · obtain ⟨x, h1, h2⟩ := KV.at' rel hk
    have e1 : (kvs.map (·.2))[i]? = some x := by rw [List.getElem?_map, h1] <;> rfl
    rw [hv, List.getElem?_map] at e1
    obtain ⟨j, hj, e2⟩ := Option.map_eq_some_iff.mp e1
    subst e2
    obtain ⟨t, e3⟩ := h2
    refine ⟨t, ?_⟩
    rw [e3, List.getD_eq_getElem?_getD, hj] <;> rfl
/-- max(o.values()), a dict with int values, one at least -/
def tMaxVals (td : TE) : TE := fun σ H Q => td σ H fun x H1 => ∃ a kvs is, x = V.ref a ∧ Rd H1 a (.dK kvs) ∧ kvs.map (·.2) = is.map V.int ∧ is ≠ [] ∧ ∀ m, m ∈ is → (∀ j ∈ is, j ≤ m) → Q (.int m) H1
theorem pe_maxVals (hc : X.calm = true) (hg : Gl X "max") (hm : X.mg "max" = none) (hd : PE X o td) (hbase : attributeBase o "values" X.env (eval o X.env) = eval o X.env := by rfl) (hline : (apos.endLine == mpos.line) = true := by rfl)
    (hse : starEach [Expr.Call (.Attribute o "values" apos) [] [] mpos] X.env = [(false, eval (Expr.Call (.Attribute o "values" apos) [] [] mpos) X.env)] := by rfl) :
    PE X (.Call (.Name "max" p) [.Call (.Attribute o "values" apos) [] [] mpos] [] pos) (tMaxVals td) := by
  refine ⟨fun pins s σ H Q I h => ?_⟩
  refine wpAny_Call_Name_kw (ld_blt I hg hm (u := .builtin "max") (by first | rfl | decide +kernel) ?_ (by first | decide +kernel | decide) (by first | decide +kernel | decide))
  rw [hse]
  refine PySem.callWith_builtin1 (wpAny_Call_method0_late hbase hline (thn (hd.run pins s σ H _ I h) fun v s1 ⟨x, H1, I1, r1, a, kvs, is, ex, ha, hv, hne, q⟩ => ?_))
  subst ex
  obtain rfl : v = Value.ref a := r1
  obtain ⟨hsys, vs, ep, dof, dat, hlv, hval⟩ := vals_view I1 ha hv
  have dat' := dat
  obtain ⟨ob, es, ho, ex, hdat, hko, hpr, hnd⟩ := dat'
  refine ⟨"dict", "dict.values", F.plainAttrs_dict, F.slot_dict_values, F.type_dict_values, ⟨ob, ho, ex.1⟩, fun b e => ?_, Calls.callWith_builtin rfl (PySem.evalArgs_none ?_)⟩
  · cases e
    exact ⟨ob, ho, ex.2.1⟩
  refine call_meetsIn F.slot_dict_values ⟨ob, ho, ex.1⟩ F.entry_dict_values (F.args_dict_values_1 _) (meets_dict_values (mixKind X.prog X.w) a hsys) ⟨⟨vs, dof⟩, ?_⟩
  have k1 : ∀ b u, s1.heap.get? b = some u → (s1.heap.push { cls := .type "dict_values", data := .fields #[.ref a] }).get? b = some u := fun b u e => Heap.get?_push_of_some _ e
  have dat1 : (s1.heap.push { cls := .type "dict_values", data := .fields #[.ref a] }).DictAt (mixKind X.prog X.w) a vs ep := dat.keep k1
  have hlen : 0 < vs.length := by
    rw [hlv]
    exact List.length_pos_iff.mpr hne
  refine call_max_walk (wpAny_pyIter_values (v := s1.heap.objs.size) (d := a) ⟨_, Heap.get?_push_size _ rfl, rfl, rfl⟩ dat1 ?_)
  have hlt : a < s1.heap.objs.size := Heap.lt_size ho
  have hsz : (s1.heap.push { cls := .type "dict_values", data := .fields #[.ref a] }).objs.size = s1.heap.objs.size + 1 := Heap.size_push _ _
  refine ⟨_, _, _, _, _, _, _, rfl, Walks.dictValues (knd := mixKind X.prog X.w) (A := X.A.in1) (I.ok.hd hc) (s1.heap.push { cls := .type "dict_values", data := .fields #[.ref a] }).objs.size a (by rw [hsz]; exact Nat.ne_of_lt (Nat.lt_succ_of_lt hlt)) vs ep,
    ⟨⟨_, Heap.get?_push_size _ rfl, rfl, rfl⟩, dat1.keep fun b u e => Heap.get?_push_of_some _ e⟩, fun b hb => ?_, hlen, CmpOf.ints_gt (fun i => is.getD i 0) hval, fun v h' tk hP hk => ?_⟩
  · show b < ((s1.heap.push _).push _).objs.size
    rw [Heap.size_push, Heap.size_push]
    rw [hsz] at hb
    rcases List.mem_cons.mp hb with e | hb
    · rw [e]
      exact Nat.lt_succ_self _
    · have e : b = a := List.mem_singleton.mp hb
      rw [e]
      exact Nat.lt_succ_of_lt (Nat.lt_succ_of_lt hlt)
  · obtain ⟨t, rfl⟩ := hval _ v hP
    obtain ⟨b1, b2⟩ := argBest_gt (fun i => is.getD i 0) (vs.length - 1)
    refine ⟨.int _, H1, I1.kept (t' := tk) fun b u e => hk b u (fun hmem => ?_) (Heap.get?_push_of_some _ (k1 b u e)), ⟨t, rfl⟩, q _ ?_ fun j hj => ?_⟩
    · have e1 : b = (s1.heap.push { cls := .type "dict_values", data := .fields #[.ref a] }).objs.size := List.mem_singleton.mp hmem
      have e2 := Heap.lt_size e
      rw [hsz] at e1
      rw [e1] at e2
      exact absurd e2 (Nat.not_lt.mpr (Nat.le_succ _))
    · have hb : argBest (fun i j => decide (is.getD i 0 > is.getD j 0)) (vs.length - 1) < is.length := by omega
      rw [List.getD_eq_getElem?_getD, List.getElem?_eq_getElem hb]
      exact List.getElem_mem hb
    · obtain ⟨i, hi, e⟩ := List.mem_iff_getElem.mp hj
      have e2 : is.getD i 0 = j := by rw [List.getD_eq_getElem?_getD, List.getElem?_eq_getElem hi, ← e] <;> rfl
      rw [← e2]
      exact b2 i (by omega)
/-- None in o.values(), a dict with int values -/
def tNonIn (td : TE) : TE := fun σ H Q => td σ H fun x H1 => ∃ (a : Addr) (kvs : List (Key × V)) (is : List Int), x = V.ref a ∧ Rd H1 a (.dK kvs) ∧ kvs.map (·.2) = is.map V.int ∧ Q (.bl false) H1
theorem pc_nonIn (hc : X.calm = true) (hd : PE X o td) (hbase : attributeBase o "values" X.env (eval o X.env) = eval o X.env := by rfl) (hline : (apos.endLine == mpos.line) = true := by rfl) :
    PC X .In (.Constant .none j kpos) (.Call (.Attribute o "values" apos) [] [] mpos) (tNonIn td) := by
  refine ⟨fun pins s σ H Q I h => ?_⟩
  refine Constant_none (wpAny_Call_method0_late hbase hline (thn (hd.run pins s σ H _ I h) fun v s1 ⟨x, H1, I1, r1, a, kvs, is, ex, ha, hv, q⟩ => ?_))
  subst ex
  obtain rfl : v = Value.ref a := r1
  obtain ⟨hsys, vs, ep, dof, dat, hlv, hval⟩ := vals_view I1 ha hv
  have dat' := dat
  obtain ⟨ob, es, ho, ex, hdat, hko, hpr, hnd⟩ := dat'
  refine ⟨"dict", "dict.values", F.plainAttrs_dict, F.slot_dict_values, F.type_dict_values, ⟨ob, ho, ex.1⟩, fun b e => ?_, Calls.callWith_builtin rfl (PySem.evalArgs_none ?_)⟩
  · cases e
    exact ⟨ob, ho, ex.2.1⟩
  refine call_meetsIn F.slot_dict_values ⟨ob, ho, ex.1⟩ F.entry_dict_values (F.args_dict_values_1 _) (meets_dict_values (mixKind X.prog X.w) a hsys) ⟨⟨vs, dof⟩, ?_⟩
  have k1 : ∀ b u, s1.heap.get? b = some u → (s1.heap.push { cls := .type "dict_values", data := .fields #[.ref a] }).get? b = some u := fun b u e => Heap.get?_push_of_some _ e
  have dat1 : (s1.heap.push { cls := .type "dict_values", data := .fields #[.ref a] }).DictAt (mixKind X.prog X.w) a vs ep := dat.keep k1
  have hlt : a < s1.heap.objs.size := Heap.lt_size ho
  have hsz : (s1.heap.push { cls := .type "dict_values", data := .fields #[.ref a] }).objs.size = s1.heap.objs.size + 1 := Heap.size_push _ _
  refine none_in_walk (c := .ref s1.heap.objs.size) ⟨_, Heap.get?_push_size _ rfl, rfl⟩ fun E => wpAny_pyIter_values (v := s1.heap.objs.size) (d := a) ⟨_, Heap.get?_push_size _ rfl, rfl, rfl⟩ dat1 ?_
  refine ⟨_, _, _, _, _, _, rfl, Walks.dictValues (knd := mixKind X.prog X.w) (A := X.A.in1) (I.ok.hd hc) (s1.heap.push { cls := .type "dict_values", data := .fields #[.ref a] }).objs.size a (by rw [hsz]; exact Nat.ne_of_lt (Nat.lt_succ_of_lt hlt)) vs ep,
    ⟨⟨_, Heap.get?_push_size _ rfl, rfl, rfl⟩, dat1.keep fun b u e => Heap.get?_push_of_some _ e⟩, fun i v z => ⟨_, hval i v z⟩, fun h' tk hk => ?_⟩
  refine ⟨.bl false, H1, I1.kept (t' := tk) fun b u e => hk b u (fun hmem => ?_) (Heap.get?_push_of_some _ (k1 b u e)), rfl, q⟩
  have e1 : b = (s1.heap.push { cls := .type "dict_values", data := .fields #[.ref a] }).objs.size := List.mem_singleton.mp hmem
  have e2 := Heap.lt_size e
  rw [hsz] at e1
  rw [e1] at e2
  exact absurd e2 (Nat.not_lt.mpr (Nat.le_succ _))
theorem maxI : ∀ (ys : List Int) (x : Int), PySem.W.maxOf x ys ∈ x :: ys ∧ ∀ j ∈ x :: ys, j ≤ PySem.W.maxOf x ys
  | [], x => ⟨List.mem_cons_self, fun j hj => by rw [List.mem_singleton.mp hj]; exact Int.le_refl _⟩
  | y :: ys, x => by
    have e : PySem.W.maxOf x (y :: ys) = PySem.W.maxOf (if decide (x < y) = true then y else x) ys := rfl
    obtain ⟨h1, h2⟩ := maxI ys (if decide (x < y) = true then y else x)
    rw [e]
    refine ⟨?_, fun j hj => ?_⟩
    · rcases List.mem_cons.mp h1 with z | z
      · rw [z]
        split
        · exact List.mem_cons_of_mem _ List.mem_cons_self
        · exact List.mem_cons_self
      · exact List.mem_cons_of_mem _ (List.mem_cons_of_mem _ z)
    · have h0 := h2 _ List.mem_cons_self
      have hx : x ≤ (if decide (x < y) = true then y else x) ∧ y ≤ (if decide (x < y) = true then y else x) := by
        by_cases q : x < y
        · rw [if_pos (decide_eq_true q)]
          omega
        · rw [if_neg (by simp [q])]
          omega
      rcases List.mem_cons.mp hj with z | z
      · rw [z]
        exact Int.le_trans hx.1 h0
      · rcases List.mem_cons.mp z with z | z
        · rw [z]
          exact Int.le_trans hx.2 h0
        · exact h2 j (List.mem_cons_of_mem _ z)
/-- max(xs, default=0), xs a list of ints -/
def rMaxDef (K : PySem.W.Frag) : List V → List V → Hp → VK → Prop := fun vs zs H Q => ∃ (a : Addr) (ns : List Int), vs = [V.ref a] ∧ zs = [V.int 0] ∧ SqL K H a (ns.map V.int) ∧
  (ns = [] → Q (.int 0) H) ∧ ∀ m, m ∈ ns → (∀ j ∈ ns, j ≤ m) → Q (.int m) H
theorem cr_maxDef (hc : X.calm = true) (hu : X.A.units + 8 < cLine) : CallRK X (.builtin "max") [Str.ofString "default"] (rMaxDef X.K) := by
  intro pins s σ H vs zs us ws Q I r rz h
  obtain ⟨a, ns, rfl, rfl, hs, q0, q⟩ := h
  obtain rfl := Vals.ref1 r
  obtain ⟨w1, rfl, e1⟩ := vals1 rz
  obtain ⟨t0, rfl⟩ := e1
  obtain ⟨its, rv, hl, hz⟩ := I.list hs
  have hi := rv.ints
  have hH : PySem.W.HoldAll s.heap its.toArray.toList ns := by
    have e : its.toArray.toList = its := rfl
    rw [e]
    exact PySem.W.HoldAll.of_ints hi
  refine PySem.W.max_list_datum_default (I.ok.hd hc) hl.isList hH (by show X.A.units + 1 + 0 < cLine; omega) (fun e h' tk hk => ⟨.int 0, H, I.kept hk, ⟨t0, rfl⟩, q0 e⟩) fun y ys i v h' tk e hv ho hk => ?_
  obtain ⟨t, rfl⟩ := PySem.W.int_of_holds ho
  refine ⟨.int _, H, I.kept hk, ⟨t, rfl⟩, q _ ?_ ?_⟩
  · rw [e]
    exact (maxI ys y).1
  · rw [e]
    exact (maxI ys y).2
end
end SG

set_option Elab.async false
set_option linter.all false
set_option maxRecDepth 100000
set_option maxHeartbeats 4000000
set_option autoImplicit false
/-! weighed, likeness, made_of. -/
namespace SG
open PySem PySem.Spec PyProof.Rows L2 LamX C8
abbrev sWeighed : Stmt := top 21
abbrev sLike : Stmt := top 35
abbrev sMadeOf : Stmt := top 36
/-- all that is asked of a grammar with its norms -/
structure WOk (g : Gr) (w : Str → Nat) : Prop where
  nms : Nms g.gm w
  gs : GSm g
  ne : g.names ≠ []
  small : ∀ X ∈ g.names, w X ≤ 12
def rowsOk (g : Gr) (w : Str → Nat) (rows : List (List Str)) : Prop := rows.length ≤ 1000 ∧ ∀ r ∈ rows, Kn g r ∧ wt w r ≤ 24 ∧ r.length ≤ 1000
def spWeighed (T : List (Addr × Str)) (C : Addr) : Sp := fun vs H Q _ => ∃ (vg vr : V) (g : Gr) (w : Str → Nat) (rows : List (List Str)), vs = [vg, .str "row", vr] ∧ GrAt C H vg g ∧ At H vr rows ∧ WOk g w ∧ rowsOk g w rows ∧ Ret T H Q (Dct.mk (wd g w))
theorem knW_wd {g : Gr} {w : Str → Nat} (gs : GSm g) : KnW (wd g w) g w := fun X hX => by
  have hm : X ∈ g.names := by
    rw [← gs.keys]
    exact (dlk_isSome).mp hX
  refine dlk_of_mem ?_ (List.mem_map.mpr ⟨X, hm, rfl⟩)
  unfold wd
  rw [List.map_map]
  have e : g.names.map ((fun q : Str × Option Int => q.1) ∘ fun X => (X, some (w X : Int))) = g.names := List.map_id' _
  exact e.symm ▸ gs.nd
section
variable {P : Program} {w : World} {K : PySem.W.Frag} {mg : Str → Option Value} {base : Heap} {T : List (Addr × Str)} {C CR : Addr}
theorem scWeighed : FnScope ["grammar", "kind", "rows", "row", "found", "most"] ["grammar", "kind", "rows"] (fnScope sWeighed) := fnScope_by (by decide +kernel)
theorem scLike : FnScope ["grammar", "kind", "one", "other", "known", "bases", "parting"] ["grammar", "kind", "one", "other"] (fnScope sLike) := fnScope_by (by decide +kernel)
theorem scMadeOf : FnScope ["grammar", "kind", "one", "known"] ["grammar", "kind", "one"] (fnScope sMadeOf) := fnScope_by (by decide +kernel)
theorem gc_int {x : Str} {n : Int} (h : ∃ t, mg x = some (.int n t)) : ∃ u, mg x = some u ∧ RelV (.int n) u := by
  obtain ⟨t, e⟩ := h
  exact ⟨_, e, t, rfl⟩
theorem wd_int (g : Gr) (w : Str → Nat) {H : Hp} : ∀ {ps : List (Key × V)} {ns : List Str}, AllKv H ps (ns.map fun X => ((X, some (w X : Int)) : Str × Option Int)) → ps.map (·.2) = (ns.map fun X => (w X : Int)).map V.int
  | [], [], _ => rfl
  | [], _ :: _, h => h.elim
  | _ :: _, [], h => h.elim
  | p :: ps, X :: ns, h => by
    have h1 : p.2 = V.int (w X : Int) := h.2.1
    rw [List.map_cons, h1, wd_int g w (ns := ns) h.2.2]
    rfl
theorem cal_weighed (X : Gs mg) (cLook : Cal P w K mg base 2 "look_at_names" (spLook C) []) (cNorms : Cal P w K mg base 2 "norms" (spNorms T C) []) (cAdd : Cal P w K mg base 1 "added_up" (spAddedUp T) [])
    (F : DefB K mg "weighed" sWeighed ["grammar", "kind", "rows"]) : Cal P w K mg base 3 "weighed" (spWeighed T C) [] := by
  refine cal_of F scWeighed (fun vs H Q E h => ?_) (fun f cdv A outer s H vs Q E hr h => ?_)
  · obtain ⟨vg, vr, g, wN, rows, rfl, _⟩ := h
    rfl
  · obtain ⟨vg, vr, g, wN, rows, rfl, hg, ⟨a, ws, rfl, ha, hws⟩, ok, ⟨hrl, hro⟩, k⟩ := h
    have hu := hu_of hr
    have hu64 := hr.units
    have hwl := hws.length
    refine ⟨_, pss_cons (ps_for PassesOwn.never rfl (pi_list (pv 2)) (pg_name (i := 3) scWeighed.nd rfl (Or.inl rfl)) (pss_one (ps_expr (pe_c cLook hr (by decide) rfl (pa_cons (pv 0) (pa_cons (pv 3) pa_nil))))))
      (pss_cons (ps_set (i := 4) scWeighed.nd rfl (Or.inr rfl) (pe_c cNorms hr (by decide) rfl (pa_cons (pv 0) pa_nil)))
      (pss_cons (ps_if (pt_cmp (pc_nonIn rfl (pv 4))) (pss_one ps_never) pss_nil)
      (pss_cons (ps_set (i := 5) scWeighed.nd rfl (Or.inl rfl) (pe_gc rfl (gc_int X.most_bag_norm)))
      (pss_cons (ps_if (pt_cmpR op_eq (pv 1) pe_str (nomark _)) (pss_one (ps_set (i := 5) scWeighed.nd rfl (Or.inl rfl) (pe_gc rfl (gc_int X.most_row_norm)))) pss_nil)
      (pss_cons (ps_if (PW.pt (pw_or (pt_cmpR op_gt (pe_maxVals rfl rfl X.max (pv 4)) (pe_gc rfl (gc_int X.most_norm)) (nomark _))
          (pw_or1 (pt_cmpR op_gt (pe_callBK (cr_maxDef rfl (by show (A.deeper _).units + 8 < cLine; omega)) rfl X.max boot_max_ (pa_cons (pe_lc (own := [("row", 3)]) rfl scWeighed.nd (pi_list (pv 2))
              (blkOk_by (N := ["grammar", "kind", "rows", "row", "found", "most"]) (sc := fnScope sWeighed) (by decide +kernel))
              (fun _ _ _ _ _ => pg_name (i := 3) scWeighed.nd rfl (Or.inl rfl) (.inr rfl)) (fun _ _ _ _ _ => pts_nil) (fun _ _ _ _ _ => pe_c cAdd hr (by decide) rfl (pa_cons (pv 4) (pa_cons (pv 3) pa_nil)))) pa_nil) (pk_cons pe_int pk_nil)) (pv 5) (nomark _))))) (pss_one ps_never) pss_nil)
      (pss_one (ps_ret (pv 4)))))))), ?_⟩
    refine ⟨_, rfl, a, rfl, ⟨_, SqL.of ha⟩, for_list (K := K) (a := a) (xs := ws) (fun i σ H' => H' = H ∧ ∃ z, σ = [some vg, some (.str "row"), some (.ref a), z, Option.none, Option.none]) ⟨rfl, _, rfl⟩ (fun i σ H' _ h => by rw [h.1]; exact SqL.of ha) ?_ ?_⟩
    · rintro i y σ H' hi ⟨rfl, z, rfl⟩
      obtain ⟨r, hr2, hat⟩ := hws.getV hi
      exact ⟨_, rfl, _, rfl, vg, y, g, r, rfl, hg, hat, (hro r (List.mem_of_getElem? hr2)).1, rfl, _, rfl⟩
    · rintro σ H' ⟨rfl, z, rfl⟩
      refine ⟨_, rfl, vg, g, wN, rfl, hg, ok.gs, ok.nms, fun v1 H1 s1 h1 => ?_⟩
      obtain ⟨d, ps, rfl, hd, hps⟩ := id h1
      have hd1 : Rd H1 d (.dK ps) := dif_kp.rd hd
      have hint := wd_int g wN hps
      refine ⟨_, rfl, d, ps, _, rfl, hd1, hint, false, rfl, iteF ?_⟩
      refine ⟨_, rfl, rfl, _, rfl, ?_⟩
      rw [decide_eq_true rfl]
      refine iteT ?_
      have ne0 : (g.names.map fun X => (wN X : Int)) ≠ [] := fun z => ok.ne (List.map_eq_nil_iff.mp z)
      refine ⟨_, rfl, d, ps, _, rfl, hd1, hint, ne0, fun m hm _ => ?_⟩
      obtain ⟨Y, hY, rfl⟩ := List.mem_map.mp hm
      have h12 := ok.small Y hY
      refine ⟨_, _, rfl, rfl, _, rfl, ?_⟩
      rw [decide_eq_false (by omega)]
      refine iteF ?_
      have ha1 : H1 a = some (.lst ws) := s1.lst ha
      refine ⟨_, rfl, a, rfl, ⟨_, SqL.of ha1⟩, fun D hD => ?_⟩
      refine lc_rep (S := H') (xs := rows) T H' (fun r => some (wt wN r : Int)) hD (fun b z => s1.fr _ z) ha1 hws (Nat.le_trans hrl (by decide)) (fun i v y H3 hi hat q3 hDn Ky Kn' ky kz => ?_) (fun H3 ys q3 h3 hA => ?_)
      · obtain ⟨kn, hw24, hl⟩ := hro y (List.mem_of_getElem? hi)
        have kw := knW_wd (w := wN) ok.gs
        have s3 := s1.trans q3
        refine ⟨rfl, yes_if ⟨_, rfl, _, rfl, _, v, wd g wN, y, rfl, (h1.mono dif_kp).mono q3.kp, hat.mono s3.kp, kw.kn kn, Nat.le_trans hl (by decide), fun H4 s4 => ?_⟩⟩
        rw [kw.add kn]
        exact ky _ (wt wN y : Int) _ rfl s4 rfl
      · have e1 : rows.filterMap (fun r => some (wt wN r : Int)) = rows.map fun r => (wt wN r : Int) := by
          rw [← List.filterMap_eq_map]
          rfl
        rw [e1, ints_at] at hA
        subst hA
        have hz : At (dif H3 H') (.ref d) (Dct.mk (wd g wN)) := h1.mono (dif_mono (fun _ z => z) q3.kp)
        have go : Q (.ref d) H3 := k _ _ (s1.trans q3) hz
        refine ⟨D, rows.map fun r => (wt wN r : Int), rfl, rfl, SqL.of h3, fun _ => ?_, fun m hm _ => ?_⟩
        · refine ⟨_, rfl, _, _, rfl, rfl, _, rfl, ?_⟩
          rw [decide_eq_false (by omega)]
          exact iteF ⟨_, rfl, go⟩
        · obtain ⟨r, hr2, rfl⟩ := List.mem_map.mp hm
          obtain ⟨_, hw24, _⟩ := hro r hr2
          refine ⟨_, rfl, _, _, rfl, rfl, _, rfl, ?_⟩
          rw [decide_eq_false (by omega)]
          exact iteF ⟨_, rfl, go⟩
/-- the last base, as the program finds it -/
abbrev lastB (g : Gr) (w : Str → Nat) : Bs := lastBase g.gm cn w (ordN g w)
theorem last_bl {g : Gr} {wN : Str → Nat} (ok : WOk g wN) : BL (lastB g wN) := fun Z m hZ => by
  have O := ordN_ok ok.gs wN
  have h1 := bases_len ok.nms canon O _ Z m hZ
  have h2 := ok.small Z ((bases_ok ok.nms canon O (stopAt g.gm cn wN (ordN g wN))).mkd.dom Z m hZ)
  omega
theorem last_at {G : Hp} {v : V} {g : Gr} {wN : Str → Nat} (h : At G v (basesL g wN (stopAt g.gm cn wN (ordN g wN) + 1))) : ∃ (D : Addr) (ys : List V) (u : V), v = .ref D ∧ G D = some (.lst ys) ∧ atI ys (-1) = some u ∧ At G u (Dct.mk (lastB g wN)) := by
  obtain ⟨D, ys, rfl, hys, hA⟩ := h
  have elast : (basesL g wN (stopAt g.gm cn wN (ordN g wN) + 1))[stopAt g.gm cn wN (ordN g wN)]? = some (Dct.mk (bases g.gm cn wN (ordN g wN) (stopAt g.gm cn wN (ordN g wN)))) := by
    unfold basesL
    rw [List.getElem?_map, List.getElem?_range (by omega)]
    rfl
  have hyl : ys.length = stopAt g.gm cn wN (ordN g wN) + 1 := by rw [hA.length]; simp [basesL]
  obtain ⟨u, hu1, hu2⟩ := hA.get elast
  have hne : ys ≠ [] := fun z => by rw [z] at hyl; simp at hyl
  refine ⟨D, ys, u, rfl, hys, ?_, hu2⟩
  have e : ys.getLast hne = u := by
    rw [List.getLast_eq_getElem]
    obtain ⟨q1, q2⟩ := List.getElem?_eq_some_iff.mp hu1
    rw [← q2]
    congr 1
    omega
  rw [← List.dropLast_concat_getLast hne, e]
  exact atI_last _ _
def spLike (T : List (Addr × Str)) (C : Addr) : Sp := fun vs H Q _ => ∃ (vg v1 v2 : V) (g : Gr) (w : Str → Nat) (x y : List Str), vs = [vg, .str "row", v1, v2] ∧ GrAt C H vg g ∧ At H v1 x ∧ At H v2 y ∧ WOk g w ∧ rowsOk g w [x, y] ∧
  out (dlk (lastB g w)) x = out (dlk (lastB g w)) y ∧ Tabs T H ∧ ∀ (p : Addr) (d : V) (H' : Hp), Sm T H H' → H' p = some (.tup [.str "base", d]) → At H' d (Dct.mk (lastB g w)) → Q (.ref p) H'
def spMadeOf (T : List (Addr × Str)) (C : Addr) : Sp := fun vs H Q _ => ∃ (vg v1 : V) (g : Gr) (w : Str → Nat) (x : List Str), vs = [vg, .str "row", v1] ∧ GrAt C H vg g ∧ At H v1 x ∧ WOk g w ∧ rowsOk g w [x] ∧ Tabs T H ∧
  Ret T H Q (out (dlk (lastB g w)) x)
theorem w40 {g : Gr} {wN : Str → Nat} (ok : WOk g wN) : ∀ X ∈ g.names, wN X ≤ 40 := fun X hX => Nat.le_trans (ok.small X hX) (by decide)
theorem cal_like (X : Gs mg) (cW : Cal P w K mg base 3 "weighed" (spWeighed T C) []) (cB : Cal P w K mg base 10 "bases_of" (spBasesOf T C) []) (cPut : Cal P w K mg base 1 "put_out" (spPutOut T) [])
    (F : DefB K mg "likeness" sLike ["grammar", "kind", "one", "other"]) : Cal P w K mg base 11 "likeness" (spLike T C) [] := by
  refine cal_of F scLike (fun vs H Q E h => ?_) (fun f cdv A outer s H vs Q E hr h => ?_)
  · obtain ⟨vg, v1, v2, g, wN, x, y, rfl, _⟩ := h
    rfl
  · obtain ⟨vg, v1, v2, g, wN, x, y, rfl, hg, hx, hy, ok, ro, heq, ht, k⟩ := h
    have hu64 := hr.units
    refine ⟨_, pss_cons (ps_set (i := 4) scLike.nd rfl (Or.inl rfl) (pe_c cW hr (by decide) rfl (pa_cons (pv 0) (pa_cons (pv 1) (pa_cons (pe_lst (pa_cons (pv 2) (pa_cons (pv 3) pa_nil))) pa_nil)))))
      (pss_cons (ps_set (i := 5) scLike.nd rfl (Or.inl rfl) (pe_c cB hr (by decide) rfl (pa_cons (pv 0) (pa_cons (pv 1) (pa_cons (pv 4) pa_nil)))))
      (pss_cons (ps_if (pt_cmpR (op_eqT (List Str) hu64) (pe_c cPut hr (by decide) rfl (pa_cons (pv 1) (pa_cons (pe_ix ix_list (pv 5) (pe_un un_neg pe_int) (fun _ _ => rfl)) (pa_cons (pv 2) pa_nil))))
          (pe_c cPut hr (by decide) rfl (pa_cons (pv 1) (pa_cons (pe_ix ix_list (pv 5) (pe_un un_neg pe_int) (fun _ _ => rfl)) (pa_cons (pv 3) pa_nil)))) (nomark _))
        (pss_one (ps_ret (pe_tup (pa_cons pe_str (pa_cons (pe_ix ix_list (pv 5) (pe_un un_neg pe_int) (fun _ _ => rfl)) pa_nil))))) pss_nil)
      pss_never)), ?_⟩
    refine ⟨_, rfl, _, rfl, _, rfl, _, rfl, ⟨by show 2 ≤ sizeLine; decide, fun L hL => ?_⟩⟩
    have s1 : Sm T H (upd H L (.lst [v1, v2])) := Sm.new hL
    refine ⟨vg, _, g, wN, [x, y], rfl, hg.mono s1.kp, ⟨L, _, rfl, upd_same, hx.mono s1.kp, hy.mono s1.kp, True.intro⟩, ok, ro, fun vk H2 s2 hk => ?_⟩
    have s12 := s1.trans s2
    refine ⟨_, rfl, _, rfl, _, rfl, vg, vk, g, wd g wN, wN, rfl, hg.mono s12.kp, new_at hk, ok.gs, knW_wd ok.gs, ok.nms, w40 ok, s12.tb ht, fun vb H3 s3 hb => ?_⟩
    have s13 := s12.trans s3
    obtain ⟨D, ys, u, rfl, hD, hlast, hu⟩ := last_at (new_at hb)
    have hl1 : (out (dlk (lastB g wN)) x).length ≤ 100000 := by
      have := BL.out (last_bl ok) x
      have := (ro.2 x (by simp)).2.2
      omega
    have hl2 : (out (dlk (lastB g wN)) y).length ≤ 100000 := by
      rw [← heq]
      exact hl1
    refine ⟨_, rfl, _, rfl, 1, rfl, D, ys, -1, u, rfl, rfl, SqL.of hD, hlast, _, rfl, u, v1, lastB g wN, x, rfl, hu, hx.mono s13.kp, hl1, fun v4 H4 s4 h4 => ?_⟩
    have s14 := s13.trans s4
    refine ⟨_, rfl, _, rfl, 1, rfl, D, ys, -1, u, rfl, rfl, SqL.of (s4.lst hD), hlast, _, rfl, u, v2, lastB g wN, y, rfl, hu.mono s4.kp, hy.mono s14.kp, hl2, fun v5 H5 s5 h5 => ?_⟩
    have s15 := s14.trans s5
    refine ⟨_, _, (new_at h4).mono s5.kp, new_at h5, _, rfl, ?_⟩
    rw [decide_eq_true heq]
    have s45 := s4.trans s5
    refine iteT ⟨_, rfl, 1, rfl, D, ys, -1, u, rfl, rfl, SqL.of (s45.lst hD), hlast, ⟨by show 2 ≤ sizeLine; decide, fun p hp => ?_⟩⟩
    exact k p u _ (s15.trans (Sm.new hp)) upd_same ((hu.mono s45.kp).mono (Sm.new (T := T) hp).kp)
theorem cal_made_of (X : Gs mg) (cW : Cal P w K mg base 3 "weighed" (spWeighed T C) []) (cB : Cal P w K mg base 10 "bases_of" (spBasesOf T C) []) (cPut : Cal P w K mg base 1 "put_out" (spPutOut T) [])
    (F : DefB K mg "made_of" sMadeOf ["grammar", "kind", "one"]) : Cal P w K mg base 11 "made_of" (spMadeOf T C) [] := by
  refine cal_of F scMadeOf (fun vs H Q E h => ?_) (fun f cdv A outer s H vs Q E hr h => ?_)
  · obtain ⟨vg, v1, g, wN, x, rfl, _⟩ := h
    rfl
  · obtain ⟨vg, v1, g, wN, x, rfl, hg, hx, ok, ro, ht, k⟩ := h
    refine ⟨_, pss_cons (ps_set (i := 3) scMadeOf.nd rfl (Or.inl rfl) (pe_c cW hr (by decide) rfl (pa_cons (pv 0) (pa_cons (pv 1) (pa_cons (pe_lst (pa_cons (pv 2) pa_nil)) pa_nil)))))
      (pss_one (ps_ret (pe_c cPut hr (by decide) rfl (pa_cons (pv 1) (pa_cons (pe_ix ix_list (pe_c cB hr (by decide) rfl (pa_cons (pv 0) (pa_cons (pv 1) (pa_cons (pv 3) pa_nil)))) (pe_un un_neg pe_int) (fun _ _ => rfl)) (pa_cons (pv 2) pa_nil)))))), ?_⟩
    refine ⟨_, rfl, _, rfl, _, rfl, ⟨by show 1 ≤ sizeLine; decide, fun L hL => ?_⟩⟩
    have s1 : Sm T H (upd H L (.lst [v1])) := Sm.new hL
    refine ⟨vg, _, g, wN, [x], rfl, hg.mono s1.kp, ⟨L, _, rfl, upd_same, hx.mono s1.kp, True.intro⟩, ok, ro, fun vk H2 s2 hk => ?_⟩
    have s12 := s1.trans s2
    refine ⟨_, rfl, _, rfl, _, rfl, _, rfl, vg, vk, g, wd g wN, wN, rfl, hg.mono s12.kp, new_at hk, ok.gs, knW_wd ok.gs, ok.nms, w40 ok, s12.tb ht, fun vb H3 s3 hb => ?_⟩
    have s13 := s12.trans s3
    obtain ⟨D, ys, u, rfl, hD, hlast, hu⟩ := last_at (new_at hb)
    have hl1 : (out (dlk (lastB g wN)) x).length ≤ 100000 := by
      have := BL.out (last_bl ok) x
      have := (ro.2 x (by simp)).2.2
      omega
    exact ⟨1, rfl, D, ys, -1, u, rfl, rfl, SqL.of hD, hlast, _, rfl, u, v1, lastB g wN, x, rfl, hu, hx.mono s13.kp, hl1, fun v4 H4 s4 h4 => k _ _ (s13.trans s4) (h4.mono (s13.dif (Kp.refl _)))⟩
end
end SG

set_option Elab.async false
set_option linter.all false
set_option maxRecDepth 100000
set_option maxHeartbeats 4000000
set_option autoImplicit false
/-! by_norms: sorted by a lambda that looks a name up. -/
namespace SG
open PySem PySem.Spec PyProof.Rows L2 LamX C8
abbrev sByNorms : Stmt := top 26
/-- the lambda's qualified name -/
def lamQ : Str := (envOfC ("by_norms" : Str) (fnScope sByNorms) 0 0 Value.none).qual ++ ("<lambda>" : Str)
section
variable {prog : Program} {w : World} {A : Around}
/-- the lambda called: the state grows, the answer is the name's number -/
theorem lam_turn {s : Shared} {f c' d c0 : Addr} {q : Str} {params : Arguments} {scope : Scope} {cl : List (Str × Addr)} {pm ctv : Value} {p1 p2 p3 : Pos} {X : Str} {t tn : Tok} {vs : List (Key × Value)} {n : Int}
    (room : A.depth < recursionLimit) (lim : s.heap.NoLimit) (hf : s.heap.get? f = some (PySem.W.kla_obj "<lambda>" q params (.Subscript (.Name "known" p1) (.Name "name" p2) p3) scope cl pm c' ctv)) (hrec : s.heap.CodeRec (.ref c') q)
    (hb : bindArgs (PySem.W.kla_fn "<lambda>" q params (.Subscript (.Name "known" p1) (.Name "name" p2) p3) scope cl pm (.ref c') ctv) ⟨[.str X t], []⟩ = pure [(("name" : Str), Value.str X t)])
    (hk : scope.kind = .function) (hco : scope.isCoroutine = false) (hgn : scope.isGenerator = false) (hc : ∀ x ∈ scope.names, x.2 ≠ .cell) (hl : scope.names.lookup ("name" : Str) = some .local) (hkn : scope.names.lookup ("known" : Str) = some .free)
    (hcl : cl.lookup ("known" : Str) = some c0) (hcell : s.heap.IsCell c0 (some (.ref d))) (hd : s.heap.DictOf (mixKind prog w) d vs) (hv : valueAt vs (Sum.inr X : Key) = some (.int n tn)) :
    wpAny (model prog w) A (call (.ref f) [.str X t]) (PySem.W.KeyPure (.int n) s) (fun _ _ => False) s := by
  refine wpAny_call (PySem.W.kla_callFunE room hf rfl hco hgn rfl hrec ?_)
  rw [hb]
  refine wpAny_pure (wpAny_newFunctionEnv hc (fun y hy => by rw [List.mem_singleton.mp hy]; exact hl) (fun h₁ hns hsb => ⟨lim.fresh _ hsb, ?_⟩) hk)
  have kp : ∀ b o, s.heap.get? b = some o → h₁.get? b = some o := fun b o e => hsb.extBut b o (Nat.ne_of_lt (Heap.lt_size e)) (Heap.get?_push_of_some _ e)
  refine PySem.W.kla_codeExpr ?_
  have hd1 := hd.keep kp
  refine subD_of PySem.F.slot_dict_getitem.lookup (fun _ _ => rfl) (wpAny_Name (wpAny_loadName_free hk hkn hcl (hcell.keeps kp) (wpAny_Name (wpAny_loadName_local hk hl hns (v := .str X t) rfl ⟨hd1.typeIs, ?_⟩) (by decide))) (by decide))
  refine wpAny_getItem_of (kV_is (k := (Sum.inr X : Key)) ⟨t, rfl⟩) hd1.mapOf hv ?_
  exact ⟨_, _, rfl, kp, .int n tn⟩
end
section
variable {X : Cx} {pins : List (Addr × Obj)} {σ : L2.St} {H : Hp} {s : Shared} {T : List (Addr × Str)}
/-- a lambda's object is made: all that is tracked stays but its table -/
theorem lam_sm {c P : Addr} {q : Str} {params : Arguments} {body : Expr} {scope : Scope} {pos : Pos} {E : Value → Shared → Prop} {Q : Value → Shared → Prop} (I : Inv X pins σ H s) (TB : TabB X.base X.mg c P) (hcode : X.env.code = .ref c) (hq : X.env.qual ++ ("<lambda>" : Str) = q)
    (hm : (P, q) ∈ T) (hu : ∀ p ∈ T, p.1 = P → p.2 = q) (hT : Tabs T H) (hdef : defaultsOf params X.env = ([], [])) (hfree : ∀ y ∈ scope.names, y.2 = .free → ∃ c, X.env.cells.lookup y.1 = some c)
    (go : ∀ (f c' : Addr) (pm ctv : Value) (H1 : Hp) (s' : Shared), Inv X pins σ H1 s' → Sm T H H1 → Tabs T H1 →
      s'.heap.get? f = some (PySem.W.kla_obj "<lambda>" q params body scope (cloFrom X.env.cells scope.names []) pm c' ctv) → H1 c' = some (CodeO c' q) → Q (.ref f) s') :
    wpAny (model X.prog X.w) X.A (eval (.Lambda params body scope pos) X.env) Q E s := by
  subst hq
  obtain ⟨tab, atP, trip, names⟩ := hT _ hm
  have rawP := I.hok P _ atP
  have blt := TB.bm.keeps I.bk
  have clo := closure_ok hfree
  have glob := I.mod.glob.keeps I.bk
  have head := TB.code.keeps I.bk
  refine PySem.W.kla_eval hdef ?_
  cases hc : codeAmong pos tab.toList with
  | some cv =>
    obtain ⟨c', rfl, atC⟩ := names pos cv hc
    refine PySem.W.kla_makeFunctionHit clo I.ok.glob glob hcode head rawP trip hc blt fun ctv h' tk old size => ?_
    exact go _ c' _ ctv H _ (I.kept fun b o e => Heap.get?_push_of_some _ (old b o e)) (Sm.refl T H) hT (Heap.get?_push_size _ rfl) atC
  | none =>
    refine PySem.W.kla_makeFunction clo I.ok.glob glob hcode head rawP trip hc TB.gP blt fun c' ctv h' tk old ge lt rec tabs => ?_
    obtain ⟨c2, oc, fields, t, e2, atC, dataC, nameC⟩ := rec
    cases e2
    have new : H c' = Option.none := I.hok.fresh ge
    have I1 := inv_table (t' := tk) (more := #[rawInt pos.line, rawInt pos.col, .ref c']) I atP (fun b o hb e => Heap.get?_push_of_some (PySem.W.kla_obj "<lambda>" (X.env.qual ++ ("<lambda>" : Str)) params body scope (cloFrom X.env.cells scope.names []) ((X.mg "__name__").getD .none) c' ctv) (old b o hb e))
      (Heap.get?_push_of_some _ tabs) ge ⟨oc, fields, t, Heap.get?_push_of_some _ atC, dataC, nameC⟩
    have neP : P ≠ c' := fun z => by
      rw [z, new] at atP
      cases atP
    have keep : Kp H (upd (upd H P (.tbl (tab ++ #[rawInt pos.line, rawInt pos.col, .ref c']))) c' (CodeO c' (X.env.qual ++ ("<lambda>" : Str)))) := fun b o e n => by
      have h1 : b ≠ c' := fun z => by rw [z, new] at e; cases e
      have h2 : b ≠ P := fun z => by rw [z, atP] at e; exact n tab (Option.some.inj e).symm
      rw [upd_ne h1, upd_ne h2]
      exact e
    have tabs1 : Tabs T (upd (upd H P (.tbl (tab ++ #[rawInt pos.line, rawInt pos.col, .ref c']))) c' (CodeO c' (X.env.qual ++ ("<lambda>" : Str)))) := fun p hp => by
      by_cases hb : p.1 = P
      · refine ⟨tab ++ #[rawInt pos.line, rawInt pos.col, .ref c'], by rw [hb, upd_ne neP, upd_same], ?_, fun p' cv hcv => ?_⟩
        · rw [Array.toList_append]
          exact PySem.TriplesOk_snoc _ _ _ _ trip
        · rw [Array.toList_append] at hcv
          rw [hu p hp hb]
          rcases among_app _ trip hcv with z | z
          · obtain ⟨c0, z1, z2⟩ := names p' cv z
            exact ⟨c0, z1, keep _ _ z2 codeO_ne⟩
          · exact ⟨c', z, upd_same⟩
      · obtain ⟨ps, a1, a2, a3⟩ := hT p hp
        refine ⟨ps, ?_, a2, fun p' cv hcv => ?_⟩
        · have h1 : p.1 ≠ c' := fun z => by rw [z, new] at a1; cases a1
          rw [upd_ne h1, upd_ne hb]
          exact a1
        · obtain ⟨c0, z1, z2⟩ := a3 p' cv hcv
          exact ⟨c0, z1, keep _ _ z2 codeO_ne⟩
    refine go _ c' _ ctv _ _ I1 ⟨keep, fun b e => ?_, fun _ => tabs1⟩ tabs1 (Heap.get?_push_size _ rfl) upd_same
    by_cases hb : b = c'
    · rw [hb, upd_same] at e
      cases e
    · rw [upd_ne hb] at e
      by_cases hb2 : b = P
      · rw [hb2, upd_same] at e
        cases e
      · rw [upd_ne hb2] at e
        exact e
/-- sorted(e, key=lambda name: known[name]), known a captured dict of ints -/
def SL (T : List (Addr × Str)) (i : Nat) (σ : L2.St) (Q : VK) (vs : List V) (H1 : Hp) : Prop := ∃ (a d : Addr) (ns : List Str) (kvs : List (Key × V)) (wf : Str → Int), vs = [V.ref a] ∧ H1 a = some (.lst (ns.map V.str)) ∧ ns.length ≤ 100000 ∧ σ[i]? = some (some (.ref d)) ∧ Rd H1 d (.dK kvs) ∧
  (∀ Y ∈ ns, valV kvs (Sum.inr Y : Key) = some (V.int (wf Y))) ∧ Tabs T H1 ∧ ∀ (D : Addr) (H2 : Hp), Sm T H1 H2 → H2 D = Option.none → Q (.ref D) (upd H2 D (.lst ((ns.mergeSort fun a b => decide (wf a ≤ wf b)).map V.str)))
def tSortLam (T : List (Addr × Str)) (i : Nat) (t1 : TE) : TE := fun σ H Q => t1 σ H fun x H1 => SL T i σ Q [x] H1
theorem each_lam : ∀ {us : List Value} {ns : List Str}, Vals (ns.map V.str) us → PySem.W.EachIs (fun v x => ∃ t, v = Value.str x t) us ns
  | [], [], _ => .nil
  | [], _ :: _, r => nomatch r
  | _ :: _, [], r => nomatch r
  | u :: us, n :: ns, r => by
    cases r with
    | cons r1 r2 => exact .cons r1 (each_lam r2)
theorem vals_each : ∀ {us : List Value} {ns : List Str}, PySem.W.EachIs (fun v x => ∃ t, v = Value.str x t) us ns → Vals (ns.map V.str) us
  | [], _, h => by
    cases h
    exact .nil
  | u :: us, _, h => by
    cases h with
    | cons h1 h2 => exact .cons h1 (vals_each h2)
theorem pe_sortLam {e1 : Expr} {t1 : TE} {i : Nat} {c P : Addr} {q : Str} {params : Arguments} {scope : Scope} {p p1 p2 p3 lpos kpos pos : Pos} (hr : Room 2 X.A) (he : PE X e1 t1) (hg : Gl X "sorted") (hm : X.mg "sorted" = Option.none)
    (hi : X.N[i]? = some ("known" : Str)) (hcel : X.env.scope.names.lookup ("known" : Str) = some .cell) (TB : TabB X.base X.mg c P) (hcode : X.env.code = .ref c) (hq : X.env.qual ++ ("<lambda>" : Str) = q)
    (hmT : (P, q) ∈ T) (hu : ∀ p ∈ T, p.1 = P → p.2 = q) (hdef : defaultsOf params X.env = ([], [])) (hfr : ∀ y ∈ scope.names, y.2 = .free → y.1 = ("known" : Str))
    (hclo : ∀ cells : List (Str × Addr), (cloFrom cells scope.names []).lookup ("known" : Str) = some ((cells.lookup ("known" : Str)).getD 0))
    (hb : ∀ (q : Str) (cl : List (Str × Addr)) (pm cv ctv v : Value), bindArgs (PySem.W.kla_fn "<lambda>" q params (.Subscript (.Name "known" p1) (.Name "name" p2) p3) scope cl pm cv ctv) ⟨[v], []⟩ = pure [(("name" : Str), v)])
    (hk : scope.kind = .function) (hco : scope.isCoroutine = false) (hgn : scope.isGenerator = false) (hc : ∀ x ∈ scope.names, x.2 ≠ .cell) (hl : scope.names.lookup ("name" : Str) = some .local) (hkn : scope.names.lookup ("known" : Str) = some .free)
    (hst : starEach [e1] X.env = (false, eval e1 X.env) :: starEach [] X.env := by rfl) :
    PE X (.Call (.Name "sorted" p) [e1] [⟨some "key", .Lambda params (.Subscript (.Name "known" p1) (.Name "name" p2) p3) scope lpos, kpos⟩] pos) (tSortLam T i t1) := by
  refine ⟨fun pins s σ H Q I h => ?_⟩
  refine wpAny_Call_Name_kw (ld_blt I hg hm (u := .builtin "sorted") (by first | rfl | decide +kernel) ?_ (by decide) (by decide))
  have h : tCons t1 tNil σ H (SL T i σ Q) := h
  have hfree : ∀ y ∈ scope.names, y.2 = .free → ∃ c, X.env.cells.lookup y.1 = some c := fun y hy e => by
    rw [hfr y hy e]
    exact I.ok.has _ (.inl hcel)
  refine PyProof.Rows.callWith_kw (thn ((pa_cons he pa_nil hst).run pos pins s σ H _ I h) fun us s1 ⟨vs, H1, I1, r1, a, d, ns, kvs, wf, ev, ha, hlen, hd, hrd, hw, hT, k⟩ => ?_) (by rw [hst]; rfl) (by rw [hst]; rfl) (by rfl) (by rfl)
  subst ev
  obtain rfl := Vals.ref1 r1
  show wpAny _ _ (evalAll [do let v ← eval (.Lambda params (.Subscript (.Name "known" p1) (.Name "name" p2) p3) scope lpos) X.env; standAt pos; pure v]) _ _ s1
  refine wpAny_evalAll_cons (wpAny_bind (lam_sm I1 TB hcode hq hmT hu hT hdef hfree fun f c' pm ctv H2 s2 I2 sm T2 hf hC => wpAny_bind (wpAny_standAt (wpAny_pure (wpAny_evalAll_nil ?_)))))
  show wpAny _ _ (call (.builtin "sorted") [.ref a] [(Str.ofString "key", .ref f)]) _ _ s2
  -- what is known at the sort
  have ha2 : H2 a = some (.lst (ns.map V.str)) := sm.lst ha
  obtain ⟨its, rv, hls, hz⟩ := I2.list (SqL.of (K := X.K) ha2)
  obtain ⟨_, _, kv, rel, dof⟩ := dk_rd I2.hok (sm.kp.rd hrd)
  obtain ⟨m, _, hlook⟩ := I2.loc
  obtain ⟨u, ru, lk⟩ := hlook i _ _ hi hd (.inr (.inl hcel))
  cases ru
  have hcell : ∃ c0, X.env.cells.lookup ("known" : Str) = some c0 ∧ s2.heap.IsCell c0 (some (.ref d)) := by
    rcases lk with ⟨k1, _⟩ | ⟨_, c0, e1, e2⟩
    · have k1 : X.env.scope.names.lookup ("known" : Str) = some .local := k1
      rw [hcel] at k1
      cases k1
    · exact ⟨c0, e1, e2⟩
  obtain ⟨c0, hc0, hcell⟩ := hcell
  have hcl := hclo X.env.cells
  rw [hc0] at hcl
  have hrec := NdefX.codeO_at I2.hok hC
  have room : X.A.in1.in1.depth < recursionLimit := hr.in1.in1.depth
  have un := hr.un
  have al : PySem.W.AllAlike (ns.map fun Y => PyData.int (wf Y)) := PySem.W.AllAlike.of fun b b' => by simp only [PySem.W.alike]
  refine PySem.W.sorted_key_data (b := false) (bs := ns) (vs := its) (fun Y => PyData.int (wf Y)) hls.isList (each_lam rv) al (PySem.W.Sortable.others fun b => ⟨fun z => (nomatch z), fun xs z => (nomatch z)⟩) (Nat.le_trans hlen (by decide))
    (fun Y _ => by show X.A.units + 2 + 0 < cLine; omega) (PyProof.Rows.ksk_s1 _ _) (fun _ => PyProof.Rows.ksk_l1 _ _) (fun x => PyProof.Rows.ksk_t1 f x) (fun v Y hv hY h tk old => ?_) (fun out c h' tk old free hD hlo he => ?_)
  · obtain ⟨t, rfl⟩ := hv
    obtain ⟨w', hw1, hw2⟩ := RelO.some_of (v := V.int (wf Y)) (o := valueAt kv (Sum.inr Y : Key)) (by rw [← hw Y hY]; exact rel.val _)
    obtain ⟨tn, rfl⟩ := hw2
    exact lam_turn (s := { s2 with heap := h, toks := tk }) room (I2.nolimit.keeps old) (old _ _ hf) (hrec.keeps old) (hb _ _ _ _ _ _) hk hco hgn hc hl hkn hcl (hcell.keeps old) (dof.keep old) hw1
  · rw [PySem.W.dataLe_int] at he
    have rv2 := vals_each he
    refine ⟨.ref (s2.heap.objs.size + 1), upd H2 (s2.heap.objs.size + 1) (.lst ((ns.mergeSort fun a b => decide (wf a ≤ wf b)).map V.str)), I2.laid (t' := tk) old (Nat.le_succ _) ⟨?_, out, c, rv2, hD⟩, rfl, k _ H2 sm (I2.hok.fresh (Nat.le_succ _))⟩
    rw [List.length_map, List.length_mergeSort]
    exact Nat.le_trans hlen (by decide)
end
section
variable {P : Program} {w : World} {K : PySem.W.Frag} {mg : Str → Option Value} {base : Heap} {T : List (Addr × Str)} {C : Addr}
/-- the def by_norms, with its code object and that one's table -/
structure ByB (K : PySem.W.Frag) (mg : Str → Option Value) (base : Heap) (T : List (Addr × Str)) : Prop where
  ex : ∃ (f : Addr) (fd : FuncData) (c tab : Addr), Def K mg "by_norms" sByNorms f fd ∧ Binds K fd ["grammar", "known"] [] ∧ fd.code = .ref c ∧ TabB base mg c tab ∧ (tab, lamQ) ∈ T
  one : ∀ p ∈ T, p.2 = lamQ
theorem scByNorms : FnScope ["grammar", "known"] ["grammar", "known"] (fnScope sByNorms) := fnScope_by (by decide +kernel)
theorem cal_by_norms (X : Gs mg) (cNames : Met P w K mg base 1 C "names" (spNames T C) []) (B : ByB K mg base T) : Cal P w K mg base 3 "by_norms" (spByNorms T C) [] := by
  obtain ⟨f, fd, c, tab, F, b, hc, TB, hT⟩ := B.ex
  refine ⟨f, fd, _, _, ?_, F.mgf, F.kp, b, .nil⟩
  obtain ⟨oc, od, dV, kV, doc, pm, an, cdv, ct, osl, rfl, lk, hcd⟩ := F.fn.ex
  have hc : cdv = .ref c := hc
  subst hc
  refine fn_of lk hcd scByNorms (fun vs H Q E h => ?_) fun A outer s H vs Q E hr h => ?_
  · obtain ⟨v, u, g, kn, wN, rfl, _⟩ := h
    rfl
  · obtain ⟨v, u, g, kn, wN, rfl, hg, hk, gs, kw, ht, k⟩ := h
    refine ⟨_, PSs.nox (pss_one (ps_ret (pe_sortLam (T := T) (i := 1) (c := c) (P := tab) (q := lamQ) hr (pe_mt0 cNames hr (by decide) (pv 0)) rfl X.sorted rfl rfl TB rfl rfl hT (fun p hp _ => B.one p hp) rfl (by decide) (fun _ => rfl) (fun _ _ _ _ _ _ => rfl) rfl rfl rfl (by decide) rfl rfl))), ?_⟩
    obtain ⟨p, dx, kn', d0, od', rfl, h1, _⟩ := id hg
    refine ⟨_, rfl, p, dx, _, rfl, h1, gfs_no _ _ _ (by decide +kernel) (by decide +kernel) (by decide +kernel), _, g, rfl, hg, fun v2 H2 sm2 hv2 => ?_⟩
    obtain ⟨a, ws, rfl, ha, hws⟩ := hv2
    rw [strs_at] at hws
    subst hws
    obtain ⟨d, ps, rfl, hrd, hps⟩ := id hk
    have gk := fun Y (hY : Y ∈ g.names) => (show (dlk g.stored Y).isSome = true by rw [dlk_isSome, gs.keys]; exact hY)
    refine ⟨a, d, g.names, ps, fun Y => (wN Y : Int), rfl, (dif_some ha).2, Nat.le_trans gs.many (by decide), rfl, sm2.kp.rd hrd, fun Y hY => ?_, sm2.tb ht, fun D H3 s3 hD => ?_⟩
    · obtain ⟨v, h2, h3⟩ := hps.some (kw Y (gk Y hY))
      have h3 : v = V.int (wN Y : Int) := h3
      rw [h2, h3]
    · have e : (g.names.mergeSort fun a b => decide ((wN a : Int) ≤ (wN b : Int))) = ordN g wN := by
        unfold ordN
        congr 1
        funext a b
        exact decide_eq_decide.mpr Int.ofNat_le
      rw [e]
      have s4 : Sm T H3 (upd H3 D (.lst ((ordN g wN).map V.str))) := Sm.new hD
      exact k _ _ ((sm2.trans s3).trans s4) ⟨D, _, rfl, by rw [dif_new ((sm2.trans s3).fr _ hD), upd_same], strs_at.mpr rfl⟩
end
end SG

set_option Elab.async false
set_option linter.all false
set_option maxRecDepth 100000
set_option maxHeartbeats 4000000
set_option autoImplicit false
/-! len(set(names)): a list of texts, no two alike. -/
namespace SG
open PySem PySem.Spec PyProof.Rows L2 LamX C8
section
variable {prog : Program} {w : World} {A : Around}
/-- the set's filling: texts that are new each time -/
theorem txts_fill {I S : Addr} {fp wr : List Addr} {G : Array GenState → Array GenState → Prop} {Pv : Nat → Value → Prop} {St : Nat → Shared → Prop} {R : Result → Shared → Prop} (xs : List Str) (nd : xs.Nodup) (few : xs.length < 4000)
    (W : WalksS prog w A.in1 I fp wr G xs.length Pv St) (out : S ∉ fp) (val : ∀ i v, Pv i v → ∃ x t, xs[i]? = some x ∧ v = .str x t) :
    ∀ (left i : Nat) (s : Shared), i + left = xs.length → St i s → s.heap.SetOf (PySem.strKind prog w) S (fun k => decide (k ∈ xs.take i)) i →
      (∀ s', Moved (S :: wr) G s s' → s'.heap.SetOf (PySem.strKind prog w) S (fun k => decide (k ∈ xs)) xs.length → R (.ok (.ret .none)) s') →
      codeAny (model prog w) A (.builtin "set.update.loop" ⟨[.ref S, .ref I], []⟩) R s := by
  have out' : S ∉ wr := fun h => out (W.sub _ h)
  have more : ∀ b ∈ wr, b ∈ S :: wr := fun b hb => List.mem_cons_of_mem _ hb
  have stay : ∀ {s s' : Shared} {T : Str → Bool} {n : Nat}, s.heap.SetOf (PySem.strKind prog w) S T n → (∀ o, s.heap.get? S = some o → s'.heap.get? S = some o) → s'.heap.SetOf (PySem.strKind prog w) S T n := by
    rintro s s' T n ⟨o, es, ep, t, ho, r⟩ k
    exact ⟨o, es, ep, t, k o ho, r⟩
  intro left
  induction left with
  | zero =>
    intro i s hi st hS hR
    have hi : i = xs.length := hi
    subst hi
    refine codeAny_builtin F.entry_set_update_loop ?_
    rw [Around.under_plainId F.plain_set_update_loop _]
    refine wpAny_bind (m := pyNext (.ref I)) (W.done s _ _ st fun s' mv => ?_)
    rw [List.take_length] at hS
    exact wpAny_pure (hR s' (mv.mono more) (stay hS fun o e => mv.heap S o out' e))
  | succ left ih =>
    intro i s hi st hS hR
    have lt : i < xs.length := by omega
    refine codeAny_builtin F.entry_set_update_loop ?_
    rw [Around.under_plainId F.plain_set_update_loop _]
    refine wpAny_bind (m := pyNext (.ref I)) (W.item i s _ _ lt st fun v s' hP st' mv => ?_)
    obtain ⟨x, t, hx, rfl⟩ := val i v hP
    have hS1 := stay (s' := s') hS fun o e => mv.heap S o out' e
    have ex : xs[i] = x := Option.some.inj ((List.getElem?_eq_getElem lt).symm.trans hx)
    have new : x ∉ xs.take i := fun m => by
      obtain ⟨j, hj, e⟩ := List.mem_iff_getElem.mp m
      rw [List.length_take] at hj
      rw [List.getElem_take, ← ex] at e
      exact List.pairwise_iff_getElem.mp nd j i (by omega) lt (by omega) e
    refine wpAny_bind (m := holding [Value.str x t] (setAdd S (.str x t))) (wpAny_holding ?_)
    unfold setAdd
    refine wpAny_holding (wpAny_bind ((PySem.strKind prog w).pyHash (k := x) (strKind_is _ _ _ _) ?_))
    refine wpAny_setAddHashed_of (knd := PySem.strKind prog w) (s := { s' with toks := s'.toks + 1 }) (strKind_is _ _ _ _) rfl hS1 (by unfold scanBound; omega) fun h' same hS2 => ?_
    have hS3 : h'.SetOf (PySem.strKind prog w) S (fun k => decide (k ∈ xs.take (i + 1))) (i + 1) := SetOf_congr hS2 (fun k => by
      rw [List.take_add_one, hx]
      by_cases h1 : k ∈ xs.take i
      · simp [h1]
      · by_cases h2 : k = x
        · simp [h1, h2]
        · simp [h1, h2]) (by simp [new])
    refine wpAny_pure ⟨plainId_quiet F.plain_set_update_loop _, ih (i + 1) _ (by omega) (W.frame _ s' _ _ st' (Nat.le_succ _) fun b hb o e => ?_) hS3 fun s'' mv' hS'' => ?_⟩
    · rw [same.2 b (fun h : b = S => out (by rw [← h]; exact hb))]; exact e
    · refine hR s'' (Moved.trans W.gtrans ((mv.mono more).then_heap (Nat.le_succ _) fun b o hb e => ?_) mv') hS''
      rw [same.2 b (fun h : b = S => hb (by rw [h]; exact List.mem_cons_self))]; exact e
end
section
variable {prog : Program} {w : World} {A : Around} {E : Value → Shared → Prop} {s : Shared}
abbrev emptySet (led : Bool) : Obj := { cls := .type "set", dict := none, data := .set #[] 0 (.fresh 0 0 led) }
theorem call_set_txts {l : Addr} {items : Array Value} {xs : List Str} {Q : Value → Shared → Prop} (calm : A.handled = none) (hl : s.heap.IsList l items) (hi : PyProof.Rows.StrsAre items.toList xs) (nd : xs.Nodup) (few : xs.length < 4000)
    (go : ∀ (h' : Heap) (tk : Nat), h'.SetOf (PySem.strKind prog w) s.heap.objs.size (fun k => decide (k ∈ xs)) xs.length → (∀ b o, b < s.heap.objs.size → s.heap.get? b = some o → h'.get? b = some o) → Q (.ref s.heap.objs.size) { s with heap := h', toks := tk }) :
    wpAny (model prog w) A (call (.type "set") [.ref l]) Q E s := by
  obtain ⟨c, tl, hmro⟩ := PySem.F.called_set.mro
  have made := PySem.F.called_set.made
  have sub := PySem.F.called_set.sub
  refine wpAny_call (codeAny_of_tree ?_)
  show wpAny _ _ (callAny (.type "set") _) _ _ _
  refine wpAny_pure ⟨Code.quiet_builtin _ (by decide +kernel), codeAny_builtin PySem.F.entry_type_call ?_⟩
  rw [Around.under_plain (weight_type_call_type "set" [.ref l] []) rfl]
  have f1 := PySem.F.called_set.notType
  have f2 := PySem.F.called_set.canCreate
  have f3 := PySem.F.typeCall_set_1 (.ref l)
  repeat (any_goals (first | assumption | wp_step))
  refine codeAny_mono (code_set_new_1 (.ref l) (E := E) (Q₁ := fun obj s₁ => ∃ led : Bool, obj = .ref s.heap.objs.size ∧ s₁ = { s with heap := s.heap.push (emptySet led) }) fun led => ⟨led, rfl, rfl⟩) fun r s₁ hr => ?_
  cases r with
  | error e => exact hr
  | ok fl =>
    cases fl with
    | ret obj =>
      obtain ⟨led, rfl, rfl⟩ := hr
      have atS : (s.heap.push (emptySet led)).get? s.heap.objs.size = some (emptySet led) := Heap.get?_push_size _ rfl
      have isS : Shared.TypeIs { s with heap := s.heap.push (emptySet led) } (.ref s.heap.objs.size) "set" := ⟨_, atS, rfl⟩
      have f4 := PySem.F.called_set.init.lookup
      have f5 := PySem.F.called_set.init.bind (.ref s.heap.objs.size)
      repeat (any_goals (first | assumption | wp_step))
      refine codeAny_mono (codeAny_call_builtin (R := wants (fun r s₂ => r = .none ∧ ∃ h' tk, s₂ = { s with heap := h', toks := tk } ∧ h'.SetOf (PySem.strKind prog w) s.heap.objs.size (fun k => decide (k ∈ xs)) xs.length ∧
          (∀ b o, b < s.heap.objs.size → s.heap.get? b = some o → h'.get? b = some o)) E) PySem.F.called_set.init.plain PySem.F.entry_set_init (check_set_init_1 isS ?_)) fun r₂ s₂ hr₂ => ?_
      · obtain ⟨⟨ocls, odict, odata, oslots⟩, hol, hcl, nl, hdl⟩ := hl
        simp only at hcl hdl
        subst hcl
        subst hdl
        have hol' : (s.heap.push (emptySet led)).get? l = some { cls := .type "list", dict := odict, data := .seq items nl, slots := oslots } := Heap.get?_push_of_some _ hol
        have f6 := PySem.F.sub_list_set
        have f7 := PySem.F.sub_list_frozenset
        have f8 : (Value.type "list" == Value.type "dict") = false := by decide
        have isL : (s.heap.push (emptySet led)).IsList l items := ⟨_, hol', rfl, nl, rfl⟩
        unfold Builtin.«set.__init__» noKeywords Builtin.Frozenset.updateFrom
        generalize hPI : pyIter = PI
        wp_walk
        subst hPI
        refine wpAny_pyIter_list isL (wpAny_bind (wpAny_runValue ?_))
        have ltL : l < s.heap.objs.size := Heap.lt_size hol
        have len : items.size = xs.length := by rw [← StrsAre.len_eq hi, Array.length_toList]
        have W := (Walks.list (prog := prog) (w := w) (A := A.in1.in1.in1) (by simp [calm]) (s.heap.push (emptySet led)).objs.size l (by rw [Heap.size_push]; exact Nat.ne_of_lt (Nat.lt_succ_of_lt ltL)) items).toS
        rw [len] at W
        refine txts_fill xs nd few W (S := s.heap.objs.size) (by
          rw [Heap.size_push]
          simp only [List.mem_cons, List.not_mem_nil, or_false, not_or]
          exact ⟨Nat.ne_of_lt (Nat.lt_succ_self _), Nat.ne_of_gt ltL⟩) (fun i v hv => ?_) xs.length 0 _ (Nat.zero_add _) ⟨⟨_, Heap.get?_push_size _ rfl, rfl, rfl⟩, isL.push _⟩ ?_ (fun s' mv hS' => ?_)
        · have hv : items[i]? = some v := hv
          obtain ⟨t, e⟩ := SS.strs_at hi i v (by rw [Array.getElem?_toList]; exact hv)
          have lt : i < xs.length := by rw [← len]; exact (Array.getElem?_eq_some_iff.mp hv).1
          refine ⟨xs[i], t, List.getElem?_eq_getElem lt, ?_⟩
          rw [e, List.getD_eq_getElem?_getD, List.getElem?_eq_getElem lt] <;> rfl
        · exact SetOf_congr ((setObjOf_fresh (knd := PySem.strKind prog w) led).setOf (Heap.get?_push_of_some _ atS) (by unfold scanBound; omega)) (fun _ => rfl) rfl
        · obtain ⟨h', g', d', tk', os'⟩ := s'
          obtain rfl : g' = s.gens := mv.gens
          obtain rfl : d' = s.drawn := mv.drawn
          obtain rfl : os' = s.os := mv.os
          refine wpAny_pure (wpAny_pure ⟨rfl, h', tk', rfl, hS', fun b o hb e => ?_⟩)
          refine mv.heap b o ?_ (Heap.get?_push_of_some _ (Heap.get?_push_of_some _ e))
          rw [Heap.size_push]
          simp only [List.mem_cons, List.not_mem_nil, or_false, not_or]
          exact ⟨Nat.ne_of_lt hb, Nat.ne_of_lt (Nat.lt_succ_of_lt hb)⟩
      · cases r₂ with
        | error e => exact hr₂
        | ok fl₂ =>
          cases fl₂ with
          | ret r =>
            obtain ⟨rfl, h', tk, rfl, hS', hk'⟩ := hr₂
            repeat (any_goals (first | assumption | wp_step))
            exact go _ _ hS' hk'
          | _ => exact hr₂.elim
    | _ => exact hr.elim
end
section
variable {X : Cx} {a : Expr} {ta : TE} {p p2 q pos : Pos}
/-- len(set(xs)), a list of texts, no two alike -/
def tLenTxts (ta : TE) : TE := fun σ H Q => ta σ H fun x H1 => ∃ (l : Addr) (xs : List Str), x = .ref l ∧ H1 l = some (.lst (xs.map V.str)) ∧ xs.Nodup ∧ xs.length < 4000 ∧ Q (.int (xs.length : Nat)) H1
theorem pe_lenTxts (hc : X.calm = true) (hg : Gl X "len") (hm : X.mg "len" = none) (hg2 : Gl X "set") (hm2 : X.mg "set" = none) (ha : PE X a ta) (na : starEach [a] X.env = (false, eval a X.env) :: starEach [] X.env := by rfl) :
    PE X (.Call (.Name "len" p) [.Call (.Name "set" p2) [a] [] q] [] pos) (tLenTxts ta) := by
  refine ⟨fun pins s σ H Q I h => ?_⟩
  refine Call_ (ld_blt I hg hm boot_len (callWith_builtin1 (args_cons ?_ rfl) rfl rfl))
  refine Call_ (ld_blt I hg2 hm2 boot_set (callWith_type1 (args_cons (thn (ha.run pins s σ H _ I h) fun v s1 ⟨x, H1, I1, r1, l, xs, ex, hl, nd, few, q1⟩ => args_nil ?_) na) na rfl))
  subst ex
  cases r1
  obtain ⟨its, r, pl, hz⟩ := I1.list (SqL.of (K := X.K) hl)
  refine call_set_txts (I1.ok.hd hc) pl.isList (by simpa using strsAre_of r) nd few fun h' tk hS old => args_nil ?_
  obtain ⟨o, es, ep, t, ho, hex, hd, _, _, _, hf, hn⟩ := hS
  have I2 : Inv X pins σ H1 { s1 with heap := h', toks := tk } := I1.kept fun b o e => old b o (Heap.lt_size e) e
  exact call_len_set ho hex hd hf (by rw [hn]; omega) ⟨.int xs.length, H1, I2.tok _, ⟨_, by rw [hn]⟩, q1⟩
end
end SG

set_option Elab.async false
set_option linter.all false
set_option maxRecDepth 100000
set_option maxHeartbeats 4000000
set_option autoImplicit false
/-! grammars: is_small, is_name, is_letter, are_names, lets_by. -/
namespace SG
open PySem PySem.Spec PyProof.Rows L2 LamX C8
abbrev sIsSmall : Stmt := top 42
abbrev sIsName : Stmt := top 43
abbrev sIsLetter : Stmt := top 44
abbrev sAreNames : Stmt := top 45
abbrev sLetsBy : Stmt := inClass sGram 1
def abc : Str := "abcdefghijklmnopqrstuvwxyz"
def smallT (x : Str) : Prop := ∀ c ∈ x.cps.toList, c ∈ abc.cps.toList
def nameT (x : Str) : Prop := 1 ≤ x.length ∧ x.length ≤ 8 ∧ smallT x ∧ x ≠ "names"
def letterT (x : Str) : Prop := x.length = 1 ∧ smallT x
structure NamesOk (ns : List Str) : Prop where
  pos : 1 ≤ ns.length
  few : ns.length ≤ 6
  nd : ns.Nodup
  each : ∀ x ∈ ns, nameT x
def spSmall (T : List (Addr × Str)) : Sp := fun vs H Q _ => ∃ x : Str, vs = [.str x] ∧ smallT x ∧ x.length ≤ 1000 ∧ ∀ H', Sm T H H' → Q (.bl true) H'
def spIsName (T : List (Addr × Str)) : Sp := fun vs H Q _ => ∃ x : Str, vs = [.str x] ∧ nameT x ∧ ∀ H', Sm T H H' → Q (.bl true) H'
def spIsLetter (T : List (Addr × Str)) : Sp := fun vs H Q _ => ∃ x : Str, vs = [.str x] ∧ letterT x ∧ ∀ H', Sm T H H' → Q (.bl true) H'
def spAreNames (T : List (Addr × Str)) : Sp := fun vs H Q _ => ∃ (v : V) (ns : List Str), vs = [v] ∧ At H v ns ∧ NamesOk ns ∧ ∀ H', Sm T H H' → Q (.bl true) H'
section
variable {P : Program} {w : World} {K : PySem.W.Frag} {mg : Str → Option Value} {base : Heap} {T : List (Addr × Str)} {C : Addr}
theorem gc_str {x : Str} {n : Str} (h : ∃ t, mg x = some (.str n t)) : ∃ u, mg x = some u ∧ RelV (.str n) u := by
  obtain ⟨t, e⟩ := h
  exact ⟨_, e, t, rfl⟩
theorem scSmall : FnScope ["text", "sign"] ["text"] (fnScope sIsSmall) := fnScope_by (by decide +kernel)
theorem all_true (bs : List Bool) (h : ∀ b ∈ bs, b = true) : bs.all id = true := List.all_eq_true.mpr fun b hb => h b hb
theorem cal_small (X : Gs mg) (F : DefB K mg "is_small" sIsSmall ["text"]) : Cal P w K mg base 1 "is_small" (spSmall T) [] := by
  refine cal_of F scSmall (fun vs H Q E h => ?_) (fun f cdv A outer s H vs Q E hr h => ?_)
  · obtain ⟨x, rfl, _⟩ := h
    rfl
  · obtain ⟨x, rfl, hx, hl, k⟩ := h
    refine ⟨_, pss_one (ps_ret (pe_callB (cr_all rfl) (by rfl) X.all boot_all_ (pa_cons (pe_lc (own := [("sign", 1)]) rfl scSmall.nd (pi_str (pv 0)) (blkOk_by (N := ["text", "sign"]) (sc := fnScope sIsSmall) (by decide +kernel))
      (fun _ _ _ _ _ => pg_name (i := 1) scSmall.nd rfl (Or.inl rfl) (.inr rfl)) (fun _ _ _ _ _ => pts_nil) (fun _ _ _ _ _ => pe_cmpR op_in_sign (pv 1) (pe_gc rfl (gc_str X.small)) (by rfl))) pa_nil))), ?_⟩
    refine ⟨_, rfl, x, rfl, fun D hD => ?_⟩
    refine lc_it walk_str (fun i H' => Sm T H H' ∧ ∃ bs : List Bool, H' D = some (.lst (bs.map V.bl)) ∧ bs.length = i ∧ ∀ b ∈ bs, b = true) ⟨Sm.new hD, [], upd_same, rfl, fun b hb => nomatch hb⟩ (fun _ _ _ _ => True.intro) ?_ ?_
    · rintro i y H1 H2 hi ⟨s1, bs, h1, e1, h2⟩ ⟨rfl, c, hc, rfl⟩
      have hcm : c ∈ x.cps.toList := by
        rw [Array.mem_toList_iff]
        exact Array.mem_of_getElem? hc
      refine ⟨rfl, yes_if ⟨_, rfl, c, abc, rfl, rfl, _, h1, ?_, s1.mut hD h1 True.intro, bs ++ [true], ?_, by rw [List.length_append, e1]; rfl, fun b hb => ?_⟩⟩
      · rw [List.length_map, e1]
        have : i < x.length := hi
        exact Nat.lt_of_lt_of_le (Nat.lt_of_lt_of_le this hl) (by decide)
      · rw [upd_same, decide_eq_true (hx c hcm), List.map_append]
        rfl
      · rcases List.mem_append.mp hb with z | z
        · exact h2 b z
        · exact List.mem_singleton.mp z
    · rintro H1 ⟨s1, bs, h1, _, h2⟩
      refine ⟨D, bs, rfl, SqL.of h1, ?_⟩
      rw [all_true bs h2]
      exact k H1 s1
theorem scIsName : FnScope ["text"] ["text"] (fnScope sIsName) := fnScope_by (by decide +kernel)
theorem cal_is_name (X : Gs mg) (cS : Cal P w K mg base 1 "is_small" (spSmall T) []) (F : DefB K mg "is_name" sIsName ["text"]) : Cal P w K mg base 2 "is_name" (spIsName T) [] := by
  refine cal_of F scIsName (fun vs H Q E h => ?_) (fun f cdv A outer s H vs Q E hr h => ?_)
  · obtain ⟨x, rfl, _⟩ := h
    rfl
  · obtain ⟨x, rfl, ⟨h1, h8, hs, hn⟩, k⟩ := h
    have hl : x.length ≤ sizeLine := Nat.le_trans h8 (by decide)
    refine ⟨_, pss_one (ps_ret (pe_and (pe_chain op_le op_le pe_int (pe_callB call_len (by rfl) X.len boot_len_ (pa_cons (pv 0) pa_nil)) pe_int) (pe_and (pe_c cS hr (by decide) rfl (pa_cons (pv 0) pa_nil)) (pe_one (pe_cmpR op_ne (pv 0) pe_str (nomark _)))))), ?_⟩
    refine ⟨_, rfl, _, _, rfl, ⟨hl, rfl⟩, 1, _, rfl, rfl, true, ?_, iteT ⟨_, _, rfl, rfl, true, ?_, iteT ⟨_, rfl, x, rfl, hs, Nat.le_trans h8 (by decide), fun H' s1 => ⟨true, rfl, iteT ⟨_, rfl, rfl, ?_⟩⟩⟩⟩⟩
    · exact congrArg V.bl (decide_eq_true (by omega))
    · exact congrArg V.bl (decide_eq_true (by omega))
    · have e : decide (V.str x = V.str "names") = false := decide_eq_false fun z => hn (by injection z)
      rw [e]
      exact k H' s1
theorem scIsLetter : FnScope ["text"] ["text"] (fnScope sIsLetter) := fnScope_by (by decide +kernel)
theorem cal_is_letter (X : Gs mg) (cS : Cal P w K mg base 1 "is_small" (spSmall T) []) (F : DefB K mg "is_letter" sIsLetter ["text"]) : Cal P w K mg base 2 "is_letter" (spIsLetter T) [] := by
  refine cal_of F scIsLetter (fun vs H Q E h => ?_) (fun f cdv A outer s H vs Q E hr h => ?_)
  · obtain ⟨x, rfl, _⟩ := h
    rfl
  · obtain ⟨x, rfl, ⟨h1, hs⟩, k⟩ := h
    have hl : x.length ≤ sizeLine := by rw [h1]; decide
    refine ⟨_, pss_one (ps_ret (pe_and (pe_cmpR op_eq (pe_callB call_len (by rfl) X.len boot_len_ (pa_cons (pv 0) pa_nil)) pe_int (nomark _)) (pe_one (pe_c cS hr (by decide) rfl (pa_cons (pv 0) pa_nil))))), ?_⟩
    refine ⟨_, rfl, _, _, rfl, ⟨hl, rfl⟩, rfl, true, ?_, iteT ⟨_, rfl, x, rfl, hs, by omega, k⟩⟩
    rw [h1]
    rfl
theorem scAreNames : FnScope ["names", "name"] ["names"] (fnScope sAreNames) := fnScope_by (by decide +kernel)
theorem cal_are_names (X : Gs mg) (cN : Cal P w K mg base 2 "is_name" (spIsName T) []) (F : DefB K mg "are_names" sAreNames ["names"]) : Cal P w K mg base 3 "are_names" (spAreNames T) [] := by
  refine cal_of F scAreNames (fun vs H Q E h => ?_) (fun f cdv A outer s H vs Q E hr h => ?_)
  · obtain ⟨v, ns, rfl, _⟩ := h
    rfl
  · obtain ⟨v, ns, rfl, hv, ok, k⟩ := h
    obtain ⟨a, rfl, ha⟩ := hv.strs
    have hpos := ok.pos
    have hfew := ok.few
    refine ⟨_, pss_one (ps_ret (pe_and (pe_chain op_le op_le pe_int (pe_lenK K rfl (by rfl) X.len (pa_cons (pv 0) pa_nil)) (pe_gc rfl (gc_int X.most_names))) (pe_and (pe_cmpR op_eq (pe_lenTxts rfl (by rfl) X.len (by rfl) X.set (pv 0)) (pe_lenK K rfl (by rfl) X.len (pa_cons (pv 0) pa_nil)) (nomark _))
      (pe_one (pe_callB (cr_all rfl) (by rfl) X.all boot_all_ (pa_cons (pe_lc (own := [("name", 1)]) rfl scAreNames.nd (pi_list (pv 0)) (blkOk_by (N := ["names", "name"]) (sc := fnScope sAreNames) (by decide +kernel))
        (fun _ _ _ _ _ => pg_name (i := 1) scAreNames.nd rfl (Or.inl rfl) (.inr rfl)) (fun _ _ _ _ _ => pts_nil) (fun _ _ _ _ _ => pe_c cN hr (by decide) rfl (pa_cons (pv 1) pa_nil))) pa_nil)))))), ?_⟩
    have hlen : (ns.map V.str).length = ns.length := List.length_map ..
    refine ⟨_, rfl, a, _, rfl, .inl (SqL.of ha), 1, _, rfl, rfl, true, ?_, iteT ⟨_, _, rfl, rfl, true, ?_, iteT ⟨_, rfl, a, ns, rfl, ha, ok.nd, by omega, _, rfl, a, _, rfl, .inl (SqL.of ha), rfl, true, ?_, iteT ⟨_, rfl, a, rfl, ⟨_, SqL.of ha⟩, fun D hD => ?_⟩⟩⟩⟩
    · exact congrArg V.bl (decide_eq_true (by omega))
    · exact congrArg V.bl (decide_eq_true (by omega))
    · rw [hlen, decide_eq_true rfl]
    · refine lc_rep (S := H) (xs := ns) T H (fun _ => some true) hD (fun b z => z) ha (strs_at.mpr rfl) (by omega) (fun i v y H3 hi hat q3 hDn Ky Kn' ky kz => ?_) (fun H3 ys q3 h3 hA => ?_)
      · have hat : v = V.str y := hat
        subst hat
        exact ⟨rfl, yes_if ⟨_, rfl, y, rfl, ok.each y (List.mem_of_getElem? hi), fun H4 s4 => ky _ true _ rfl s4 rfl⟩⟩
      · have e1 : ns.filterMap (fun _ => some true) = ns.map fun _ => true := by
          rw [← List.filterMap_eq_map]
          rfl
        rw [e1, bls_at] at hA
        subst hA
        refine ⟨D, _, rfl, SqL.of h3, ?_⟩
        rw [all_true _ fun b hb => by obtain ⟨_, _, e⟩ := List.mem_map.mp hb; exact e.symm]
        exact k H3 q3
end
end SG

set_option Elab.async false
set_option linter.all false
set_option maxRecDepth 100000
set_option maxHeartbeats 4000000
set_option autoImplicit false
/-! grammars: lets_by. -/
namespace SG
open PySem PySem.Spec PyProof.Rows L2 LamX C8
def spLetsBy (T : List (Addr × Str)) (C : Addr) : Sp := fun vs H Q _ => ∃ (v u : V) (g : Gr) (r : Rul) (rs : List (Str × List Str)), vs = [v, u] ∧ GrAt C H v g ∧ At H u r ∧ dlk g.stored r.a = some rs ∧ letterT r.b ∧ r.c.length ≤ 3 ∧ (∀ x ∈ r.c, (dlk g.stored x).isSome = true) ∧
  rs.length < 4 ∧ (r.b, r.c) ∉ rs ∧ ∀ H', Sm T H H' → Q (.bl true) H'
section
variable {P : Program} {w : World} {K : PySem.W.Frag} {mg : Str → Option Value} {base : Heap} {T : List (Addr × Str)} {C : Addr}
theorem scLetsBy : FnScope ["self", "rule", "name", "letter", "row", "one"] ["self", "rule"] (fnScope sLetsBy) := fnScope_by (by decide +kernel)
theorem met_lets_by (X : Gs mg) (G : GCls K C) (cL : Cal P w K mg base 2 "is_letter" (spIsLetter T) []) (F : MetB K C "lets_by" "Grammar.lets_by" sLetsBy ["self", "rule"]) : Met P w K mg base 3 C "lets_by" (spLetsBy T C) [] := by
  refine met_of F scLetsBy (fun vs H Q E h => ?_) (fun f cdv A outer s H vs Q E hr h => ?_)
  · obtain ⟨v, u, g, r, rs, rfl, _⟩ := h
    rfl
  · obtain ⟨v, u, g, r, rs, rfl, hg, ⟨a, u1, u2, u3, rfl, ha, h1, h2, h3⟩, hrs, hl, hc3, hin, hfew, hno, k⟩ := h
    have hu := hu_of hr
    have hun := hr.un
    have h1 : u1 = V.str r.a := h1
    have h2 : u2 = V.str r.b := h2
    subst h1
    subst h2
    obtain ⟨c, rfl, hc⟩ := (show At H u3 r.c from h3).strs
    refine ⟨_, pss_cons (ps_asg (pv 1) (pg_tup3K K rfl rfl scLetsBy.nd (i := 2) (j := 3) (l := 4) rfl rfl rfl (.inl rfl) (.inl rfl) (.inl rfl) (.inr rfl) (.inr rfl) (.inr rfl)))
      (pss_cons (ps_if (PW.pt (pw_or (pt_cmp (pc_dnotin hu (pv 2) (pe_fld (pv 0) rfl))) (pw_or (pt_not (pt_val (pe_c cL hr (by decide) rfl (pa_cons (pv 3) pa_nil)))) (pw_or1 (pt_cmpR op_gt (pe_lenK K rfl (by rfl) X.len (pa_cons (pv 4) pa_nil)) (pe_gc rfl (gc_int X.most_row)) (nomark _)))))) (pss_one (ps_ret pe_bl)) pss_nil)
      (pss_cons (ps_if (pt_not (pt_val (pe_callB (cr_all rfl) (by rfl) X.all boot_all_ (pa_cons (pe_lc (own := [("one", 5)]) rfl scLetsBy.nd (pi_list (pv 4)) (blkOk_by (N := ["self", "rule", "name", "letter", "row", "one"]) (sc := fnScope sLetsBy) (by decide +kernel))
          (fun _ _ _ _ _ => pg_name (i := 5) scLetsBy.nd rfl (Or.inl rfl) (.inr rfl)) (fun _ _ _ _ _ => pts_nil) (fun _ _ _ _ _ => pe_cmp (pc_din hu (pv 5) (pe_fldK K rfl (pv 0) rfl)))) pa_nil)))) (pss_one (ps_ret pe_bl)) pss_nil)
      (pss_one (ps_ret (pe_and (pe_cmpR op_lt (pe_lenK K rfl (by rfl) X.len (pa_cons (pe_dget hu (pe_fld (pv 0) rfl) (pv 2) (fun _ _ => rfl)) pa_nil)) (pe_gc rfl (gc_int X.most_rules)) (nomark _))
        (pe_one (pe_cmpR (op_notInT (Str × List Str) (by show (A.deeper _).units + 65 < cLine; omega)) (pe_tup (pa_cons (pv 3) (pa_cons (pe_listK K rfl (by rfl) X.list (pa_cons (pv 4) pa_nil)) pa_nil))) (pe_dget hu (pe_fld (pv 0) rfl) (pv 2) (fun _ _ => rfl)) (by rfl)))))))), ?_⟩
    obtain ⟨p, dx, kn, d, od, rfl, hp, hk, hd⟩ := hg
    -- a look into the stored rules at any later heap
    have din : ∀ {H' : Hp} {Y : Str}, Sm T H H' → (dlk g.stored Y).isSome = true → ∃ z, DGet H' d (.str Y) (some z) := fun {H' Y} s1 hY => by
      obtain ⟨_, e, _, hg1⟩ := (hd.mono s1.kp).dlk Y
      cases e
      obtain ⟨x, hx⟩ := Option.isSome_iff_exists.mp hY
      rw [hx] at hg1
      obtain ⟨z, hz, _⟩ := hg1
      exact ⟨z, hz⟩
    have fld : ∀ {H' : Hp}, Sm T H H' → H' p = some (.ins C dx (gfs kn d od)) := fun s1 => s1.ins hp
    obtain ⟨z1, hz1⟩ := din (Sm.refl T H) (by rw [hrs]; rfl)
    refine ⟨_, rfl, a, _, rfl, SqT.of ha, rfl, _, _, rfl, _, _, rfl, _, _, rfl, rfl, ?_⟩
    -- if name not in self.stored or not is_letter(letter) or len(row) > 3
    refine ⟨_, rfl, _, rfl, p, C, dx, _, _, rfl, hp, G.cl, G.nS, gfs_stored _ _ _, d, _, rfl, hz1, false, rfl, iteF ?_⟩
    refine ⟨_, rfl, r.b, rfl, hl, fun H1 s1 => ⟨true, rfl, iteF ?_⟩⟩
    refine ⟨_, rfl, c, _, rfl, .inl (SqL.of (s1.lst hc)), _, _, rfl, rfl, _, rfl, ?_⟩
    rw [decide_eq_false (by rw [List.length_map]; omega)]
    refine iteF ⟨_, rfl, c, rfl, ⟨_, SqL.of (s1.lst hc)⟩, fun D hD => ?_⟩
    refine lc_rep (S := H1) (xs := r.c) T H1 (fun _ => some true) hD (fun b z => z) (s1.lst hc) (strs_at.mpr rfl) (by omega) (fun i v y H3 hi hat q3 hDn Ky Kn' ky kz => ?_) (fun H3 ys q3 h3 hA => ?_)
    · have hat : v = V.str y := hat
      subst hat
      obtain ⟨z2, hz2⟩ := din (s1.trans q3) (hin y (List.mem_of_getElem? hi))
      exact ⟨rfl, yes_if ⟨_, rfl, _, rfl, p, C, dx, _, _, rfl, fld (s1.trans q3), G.cl, G.nS, gfs_stored _ _ _, d, _, rfl, hz2, ky _ true _ rfl (Sm.refl T H3) rfl⟩⟩
    · have e1 : r.c.filterMap (fun _ => some true) = r.c.map fun _ => true := by
        rw [← List.filterMap_eq_map]
        rfl
      rw [e1, bls_at] at hA
      subst hA
      have s3 := s1.trans q3
      refine ⟨D, _, rfl, SqL.of h3, ?_⟩
      rw [all_true _ fun b hb => by obtain ⟨_, _, e⟩ := List.mem_map.mp hb; exact e.symm]
      refine ⟨true, rfl, iteF ?_⟩
      -- return len(self.stored[name]) < 4 and (letter, list(row)) not in self.stored[name]
      obtain ⟨_, e, _, hg1⟩ := (hd.mono s3.kp).dlk r.a
      cases e
      rw [hrs] at hg1
      obtain ⟨z, hz, hrz⟩ := hg1
      obtain ⟨l, us, rfl, hlst, hus⟩ := id hrz
      refine ⟨_, rfl, p, C, dx, _, _, rfl, fld s3, G.cl, G.nS, gfs_stored _ _ _, _, rfl, d, _, rfl, hz, l, us, rfl, .inl (SqL.of hlst), _, _, rfl, rfl, true, ?_, iteT ?_⟩
      · exact congrArg V.bl (decide_eq_true (by rw [hus.length]; omega))
      · refine ⟨_, rfl, _, rfl, c, _, rfl, .inl (SqL.of (s3.lst hc)), fun l2 hl2 => ⟨by show 2 ≤ sizeLine; decide, fun t ht => ?_⟩⟩
        have lt : l2 ≠ t := ne_of_none upd_same ht
        have htn : H3 t = Option.none := by rw [upd_ne lt.symm] at ht; exact ht
        have s4 : Sm T H3 (upd (upd H3 l2 (.lst (r.c.map V.str))) t (.tup [.str r.b, .ref l2])) := (Sm.new hl2).trans (Sm.new ht)
        obtain ⟨_, e, _, hg2⟩ := (hd.mono (s3.trans s4).kp).dlk r.a
        cases e
        rw [hrs] at hg2
        obtain ⟨z', hz', hrz'⟩ := hg2
        refine ⟨_, rfl, p, C, dx, _, _, rfl, fld (s3.trans s4), G.cl, G.nS, gfs_stored _ _ _, _, rfl, d, _, rfl, hz', (r.b, r.c), rs, ⟨t, _, _, rfl, upd_same, rfl, l2, _, rfl, by rw [upd_ne lt, upd_same], strs_at.mpr rfl⟩, hrz', ?_⟩
        have e : ∀ i : Decidable ((r.b, r.c) ∈ rs), @decide _ i = false := fun i => @decide_eq_false _ i hno
        rw [e]
        exact k _ (s3.trans s4)
end
end SG

set_option Elab.async false
set_option linter.all false
set_option maxRecDepth 100000
set_option maxHeartbeats 4000000
set_option autoImplicit false
/-! grammars: made. -/
namespace SG
open PySem PySem.Spec PyProof.Rows L2 LamX C8
abbrev RP : Type := Str × List Str
/-- a name's rules in the list -/
def rulesOf (rules : List Rul) (X : Str) : List RP := (rules.filter fun r => decide (r.a = X)).map fun r => (r.b, r.c)
def storedOf (names : List Str) (rules : List Rul) : List (Str × List RP) := names.map fun X => (X, rulesOf rules X)
theorem rulesOf_snoc (rules : List Rul) (r : Rul) (X : Str) : rulesOf (rules ++ [r]) X = if r.a = X then rulesOf rules X ++ [(r.b, r.c)] else rulesOf rules X := by
  unfold rulesOf
  rw [List.filter_append]
  by_cases e : r.a = X
  · rw [if_pos e, List.map_append]
    congr 1
    simp [e]
  · rw [if_neg e]
    simp [e]
theorem mem_rulesOf {rules : List Rul} {X : Str} {p : RP} : p ∈ rulesOf rules X ↔ (⟨X, p.1, p.2⟩ : Rul) ∈ rules := by
  unfold rulesOf
  rw [List.mem_map]
  constructor
  · rintro ⟨r, hr, rfl⟩
    rw [List.mem_filter] at hr
    have e : r.a = X := of_decide_eq_true hr.2
    subst e
    exact hr.1
  · intro h
    exact ⟨_, List.mem_filter.mpr ⟨h, decide_eq_true rfl⟩, rfl⟩
/-- names and rules of which a grammar is made -/
structure GOk (names : List Str) (rules : List Rul) : Prop where
  nok : NamesOk names
  left : ∀ r ∈ rules, r.a ∈ names
  letter : ∀ r ∈ rules, letterT r.b
  short : ∀ r ∈ rules, r.c.length ≤ 3
  row : ∀ r ∈ rules, ∀ x ∈ r.c, x ∈ names
  nd : rules.Nodup
  few : ∀ X, (rulesOf rules X).length ≤ 4
  len : rules.length ≤ 100
abbrev sGInit : Stmt := inClass sGram 0
def spGInit (T : List (Addr × Str)) (C : Addr) : Sp := fun vs H Q _ => ∃ (p dx : Addr) (vn vr : V) (names : List Str) (rules : List Rul), vs = [.ref p, vn, vr] ∧ H p = some (.ins C dx []) ∧ At (hid H p) vn names ∧ At (hid H p) vr rules ∧ GOk names rules ∧
  ∀ H', Sm T (hid H p) H' → GrAt C H' (.ref p) ⟨names, storedOf names rules⟩ → Q .non H'
/-! ### a dict of lists of one's own -/
def hidL (H : Hp) (L : List Addr) : Hp := fun b => if b ∈ L then Option.none else H b
section
variable {H A B : Hp} {L : List Addr} {T : List (Addr × Str)}
theorem hidL_in {b : Addr} (h : b ∈ L) : hidL H L b = Option.none := if_pos h
theorem hidL_out {b : Addr} (h : b ∉ L) : hidL H L b = H b := if_neg h
theorem hidL_kp : Kp (hidL H L) H := fun b o e n => by
  by_cases q : b ∈ L
  · rw [hidL_in q] at e; cases e
  · rw [hidL_out q] at e; exact e
theorem hidL_mono (k : Kp A B) : Kp (hidL A L) (hidL B L) := fun b o e n => by
  by_cases q : b ∈ L
  · rw [hidL_in q] at e; cases e
  · rw [hidL_out q] at e ⊢; exact k b o e n
theorem hidL_upd {m : Addr} {o : HO} (h : m ∈ L) : hidL (upd H m o) L = hidL H L := by
  funext b
  by_cases q : b ∈ L
  · rw [hidL_in q, hidL_in q]
  · rw [hidL_out q, hidL_out q, upd_ne (fun z => q (by rw [z]; exact h))]
/-- the dict's pairs, the lists at f -/
def kvsF (names : List Str) (f : Str → Addr) : List (Key × V) := names.map fun X => ((Sum.inr X : Key), V.ref (f X))
def StoF (Z H : Hp) (names : List Str) (f : Str → Addr) (g : Str → List RP) : Prop := ∀ X ∈ names, ∃ vs, H (f X) = some (.lst vs) ∧ AllAt Z vs (g X)
theorem StoF.kv {Z : Hp} (k : Kp Z H) {f : Str → Addr} {g : Str → List RP} : ∀ {names : List Str}, StoF Z H names f g → AllKv H (kvsF names f) (names.map fun X => (X, g X))
  | [], _ => True.intro
  | X :: names, h => by
    obtain ⟨vs, h1, h2⟩ := h X List.mem_cons_self
    exact ⟨rfl, ⟨_, vs, rfl, h1, h2.mono k⟩, StoF.kv k fun Y hY => h Y (List.mem_cons_of_mem _ hY)⟩
theorem StoF.mono {H' : Hp} (k : Kp H H') {names : List Str} {f : Str → Addr} {g : Str → List RP} (h : StoF (hidL H L) H names f g) : StoF (hidL H' L) H' names f g := fun X hX => by
  obtain ⟨vs, h1, h2⟩ := h X hX
  exact ⟨vs, k _ _ h1 (fun _ z => nomatch z), h2.mono (hidL_mono k)⟩
theorem dlk_mapF {β : Type} {g : Str → β} {X : Str} : ∀ {names : List Str}, X ∈ names → dlk (names.map fun Y => (Y, g Y)) X = some (g X)
  | [], h => nomatch h
  | Y :: names, h => by
    by_cases e : Y = X
    · subst e
      rw [List.map_cons, dlk_cons, if_pos rfl]
    · rcases List.mem_cons.mp h with z | z
      · exact absurd z.symm e
      · rw [List.map_cons, dlk_cons, if_neg e]
        exact dlk_mapF z
theorem rulesOf_take (rules : List Rul) (j : Nat) (X : Str) : (rulesOf (rules.take j) X).length ≤ (rulesOf rules X).length := by
  unfold rulesOf
  rw [List.length_map, List.length_map]
  exact (((List.take_sublist j rules).filter _).length_le)
theorem kvsF_put {names : List Str} {X : Str} {f : Str → Addr} {l : Addr} (h : X ∉ names) : putK (kvsF names f) (Sum.inr X : Key) (.ref l) = kvsF (names ++ [X]) (fun Y => if Y = X then l else f Y) := by
  have e1 : (kvsF names f).any (fun kv => decide (kv.1 = (Sum.inr X : Key))) = false := by
    rw [List.any_eq_false]
    intro kv hkv
    obtain ⟨Y, hY, rfl⟩ := List.mem_map.mp hkv
    rw [decide_eq_true_eq]
    intro z
    injection z with z
    exact h (by rw [← z]; exact hY)
  unfold putK
  rw [e1, if_neg Bool.false_ne_true]
  unfold kvsF
  rw [List.map_append]
  congr 1
  · apply List.map_congr_left
    intro Y hY
    show ((Sum.inr Y : Key), V.ref (f Y)) = (Sum.inr Y, V.ref (if Y = X then l else f Y))
    rw [if_neg (fun z => h (by rw [← z]; exact hY))]
  · simp
theorem kvsF_get {names : List Str} {X : Str} {f : Str → Addr} (h : X ∈ names) : valV (kvsF names f) (Sum.inr X : Key) = some (.ref (f X)) := by
  induction names with
  | nil => cases h
  | cons Y names ih =>
    by_cases e : Y = X
    · subst e
      exact valV_pos rfl
    · rcases List.mem_cons.mp h with z | z
      · exact absurd z.symm e
      · show valV ((Sum.inr Y, V.ref (f Y)) :: kvsF names f) _ = _
        rw [valV_neg (fun z => e (by injection z))]
        exact ih z
end
section
variable {P : Program} {w : World} {K : PySem.W.Frag} {mg : Str → Option Value} {base : Heap} {T : List (Addr × Str)} {C : Addr}
theorem scGInit : FnScope ["self", "names", "rules", "name", "at", "rule"] ["self", "names", "rules"] (fnScope sGInit) := fnScope_by (by decide +kernel)
theorem mak_gram (X : Gs mg) (G : GCls K C) (cN : Cal P w K mg base 3 "are_names" (spAreNames T) []) (cL : Met P w K mg base 3 C "lets_by" (spLetsBy T C) []) (F : MakB K mg "Grammar" "Grammar.__init__" C sGInit ["self", "names", "rules"]) : Mak P w K mg base 4 "Grammar" C (spGInit T C) [] := by
  refine mak_of F scGInit (fun vs H Q E h => ?_) (fun f cdv A outer s H vs Q E hr h => ?_)
  · obtain ⟨p, dx, vn, vr, names, rules, rfl, _⟩ := h
    rfl
  · obtain ⟨p, dx, vn, vr, names, rules, rfl, hp, hn, hrl, ok, k⟩ := h
    have hu := hu_of hr
    obtain ⟨an, rfl, han⟩ := hn.strs
    obtain ⟨ar, rvs, rfl, har, hrv⟩ := hrl
    refine ⟨_, pss_cons (ps_if (pt_not (pt_val (pe_c cN hr (by decide) rfl (pa_cons (pv 1) pa_nil)))) (pss_one ps_never) pss_nil)
      (pss_cons (ps_fld (pv 0) (pe_listK K rfl (by rfl) X.list (pa_cons (pv 1) pa_nil)) rfl) (pss_cons (ps_fld (pv 0) pe_dnewK rfl) (pss_cons (ps_fld (pv 0) (pe_lst pa_nil) rfl)
      (pss_cons (ps_for PassesOwn.never rfl (pi_list (pv 1)) (pg_name (i := 3) scGInit.nd rfl (Or.inl rfl)) (pss_one (ps_dput hu (pe_fld (pv 0) rfl) (pv 3) (pe_lst pa_nil) rfl)))
      (pss_one (ps_for PassesOwn.never rfl (pi_enum (by rfl) X.enumerate (pa_cons (pv 2) pa_nil)) (pg_tup2K K rfl rfl scGInit.nd (i := 4) (j := 5) rfl rfl (.inl rfl) (.inl rfl) (.inr rfl) (.inr rfl))
        (pss_cons (ps_if (pt_not (pt_val (pe_mt cL hr (by decide) (pv 0) (pa_cons (pv 5) pa_nil)))) (pss_one ps_never) pss_nil)
        (pss_cons (ps_expr (pe_bm PySem.F.plainAttrs_list PySem.F.slot_list_append PySem.F.type_list_append mt_append (pe_dget hu (pe_fld (pv 0) rfl) (pe_ix ix_tup (pv 5) pe_int (fun _ _ => rfl)) (fun _ _ => rfl))
            (pa_cons (pe_tup (pa_cons (pe_ix ix_tup (pv 5) pe_int (fun _ _ => rfl)) (pa_cons (pe_listK K rfl (by rfl) X.list (pa_cons (pe_ix ix_tup (pv 5) pe_int (fun _ _ => rfl)) pa_nil)) pa_nil))) pa_nil)))
        (pss_one (ps_expr (pe_bm PySem.F.plainAttrs_list PySem.F.slot_list_append PySem.F.type_list_append mt_append (pe_fld (pv 0) rfl) (pa_cons (pe_ix ix_tup (pv 5) pe_int (fun _ _ => rfl)) pa_nil)))))))))))), ?_⟩
    have e1 : ∀ kn : Addr, putF "known" (V.ref kn) [] = [(("known" : Str), V.ref kn)] := fun _ => rfl
    have e2 : ∀ kn d : Addr, putF "stored" (V.ref d) [(("known" : Str), V.ref kn)] = [(("known" : Str), V.ref kn), ("stored", .ref d)] := fun kn d => putF_new (show ("stored" : Str) ∉ (["known"] : List Str) by decide +kernel)
    have e3 : ∀ kn d od : Addr, putF "order" (V.ref od) [(("known" : Str), V.ref kn), ("stored", .ref d)] = gfs kn d od := fun kn d od => putF_new (show ("order" : Str) ∉ (["known", "stored"] : List Str) by decide +kernel)
    have han0 : H an = some (.lst (names.map V.str)) := hid_kp an _ han (fun _ z => nomatch z)
    refine ⟨_, rfl, .ref an, names, rfl, At.of_strs han0, ok.nok, fun H1 s1 => ⟨true, rfl, iteF ?_⟩⟩
    -- self.known = list(names); self.stored = {}; self.order = []
    have hp1 : H1 p = some (.ins C dx []) := s1.ins hp
    refine ⟨_, rfl, an, _, rfl, .inl (SqL.of (s1.lst han0)), fun kn hkn => ?_⟩
    have npk : p ≠ kn := ne_of_none hp1 hkn
    refine ⟨_, rfl, p, C, dx, _, rfl, (by rw [upd_ne npk]; exact hp1), G.cl, G.nK, by show 0 < 1000; decide, ?_⟩
    rw [e1]
    intro d hd
    have npd : p ≠ d := ne_of_none upd_same hd
    refine ⟨_, rfl, p, C, dx, _, rfl, (by rw [upd_ne npd]; exact upd_same), G.cl, G.nS, by show 1 < 1000; decide, ?_⟩
    rw [e2]
    refine ⟨Nat.zero_le _, fun od hod => ?_⟩
    have npo : p ≠ od := ne_of_none upd_same hod
    refine ⟨_, rfl, p, C, dx, _, rfl, (by rw [upd_ne npo]; exact upd_same), G.cl, G.nO, by show 2 < 1000; decide, ?_⟩
    rw [e3]
    have hdk : d ≠ kn := fun z => by rw [z, upd_ne npk.symm, upd_same] at hd; cases hd
    have hod2 : od ≠ kn ∧ od ≠ d := by
      refine ⟨fun z => ?_, fun z => ?_⟩
      · rw [z, upd_ne npk.symm, upd_ne hdk.symm, upd_ne npk.symm, upd_same] at hod; cases hod
      · rw [z, upd_ne npd.symm, upd_same] at hod; cases hod
    have hd1 : H1 d = Option.none := by rw [upd_ne npd.symm, upd_ne hdk] at hd; exact hd
    have hod1 : H1 od = Option.none := by rw [upd_ne npo.symm, upd_ne hod2.2, upd_ne npo.symm, upd_ne hod2.1] at hod; exact hod
    have sB : Sm T (hid H p) H1 := Sm.trans (Sm.of fun b o e => by
      by_cases q : b = p
      · rw [q, hid_at] at e; cases e
      · rw [hid_ne q] at e; exact e) s1
    have bp : hid H p p = Option.none := hid_at
    have bk := sB.fr _ hkn
    have bd := sB.fr _ hd1
    have bo := sB.fr _ hod1
    have sA : Sm T (hid H p) (upd (upd (upd (upd (upd (upd H1 kn (.lst (names.map V.str))) p (.ins C dx [("known", .ref kn)])) d (.dK [])) p (.ins C dx [("known", .ref kn), ("stored", .ref d)])) od (.lst [])) p (.ins C dx (gfs kn d od))) := by
      have a1 : Sm T (hid H p) (upd H1 kn (.lst (names.map V.str))) := sB.trans (Sm.new hkn)
      have a2 := a1.mut (u := .ins C dx []) (o := .ins C dx [("known", .ref kn)]) bp (by rw [upd_ne npk]; exact hp1) True.intro
      have a3 : Sm T (hid H p) _ := a2.trans (Sm.new (o := .dK []) hd)
      have a4 := a3.mut (u := .ins C dx [("known", .ref kn)]) (o := .ins C dx [("known", .ref kn), ("stored", .ref d)]) bp (by rw [upd_ne npd]; exact upd_same) True.intro
      have a5 : Sm T (hid H p) _ := a4.trans (Sm.new (o := .lst []) hod)
      exact a5.mut (u := .ins C dx [("known", .ref kn), ("stored", .ref d)]) bp (by rw [upd_ne npo]; exact upd_same) True.intro
    -- for name in names: self.stored[name] = []
    refine ⟨_, rfl, an, rfl, ⟨_, SqL.of (sA.lst han)⟩, for_list (K := K) (a := an) (xs := names.map V.str)
      (fun i σ H' => ∃ (ff : Str → Addr) (z : Option V), σ = [some (.ref p), some (.ref an), some (.ref ar), z, Option.none, Option.none] ∧ Sm T (hid H p) H' ∧ H' p = some (.ins C dx (gfs kn d od)) ∧ H' kn = some (.lst (names.map V.str)) ∧ H' od = some (.lst []) ∧
        H' d = some (.dK (kvsF (names.take i) ff)) ∧ (∀ Y ∈ names.take i, hid H p (ff Y) = Option.none ∧ H' (ff Y) = some (.lst []) ∧ ff Y ≠ od ∧ ff Y ≠ kn) ∧ ∀ Y ∈ names.take i, ∀ Z ∈ names.take i, ff Y = ff Z → Y = Z)
      ⟨fun _ => 0, _, rfl, sA, upd_same, ?_, ?_, ?_, (fun Y hY => by rw [List.take_zero] at hY; exact nomatch hY), (fun Y hY => by rw [List.take_zero] at hY; exact nomatch hY)⟩
      (fun i σ H' _ h => by obtain ⟨_, _, _, h, _⟩ := h; exact SqL.of (h.lst han)) ?_ ?_⟩
    · rw [upd_ne npk.symm, upd_ne hod2.1.symm, upd_ne npk.symm, upd_ne hdk.symm, upd_ne npk.symm, upd_same]
    · rw [upd_ne npo.symm, upd_same]
    · rw [upd_ne npd.symm, upd_ne hod2.2.symm, upd_ne npd.symm, upd_same]
      rfl
    · rintro i y σ H3 hi ⟨ff, z, rfl, s3, q1, q2, q3, q4, q5, q6⟩
      rw [List.getElem?_map] at hi
      obtain ⟨Y, hY, rfl⟩ := Option.map_eq_some_iff.mp hi
      obtain ⟨hil, eY⟩ := List.getElem?_eq_some_iff.mp hY
      have et : names.take (i + 1) = names.take i ++ [Y] := by
        rw [List.take_add_one, hY]
        rfl
      have hnew : Y ∉ names.take i := fun m => by
        have := ok.nok.nd
        rw [← List.take_append_drop (i + 1) names, et] at this
        have h2 := (List.nodup_append.mp (List.nodup_append.mp this).1).2.2
        exact h2 Y m Y (List.mem_singleton.mpr rfl) rfl
      refine ⟨Nat.zero_le _, fun l hl => ?_⟩
      have nl : ∀ {b : Addr} {o : HO}, H3 b = some o → b ≠ l := fun e => ne_of_none e hl
      have up : ∀ {b : Addr} {o : HO}, H3 b = some o → upd H3 l (.lst []) b = some o := fun e => by rw [upd_ne (nl e)]; exact e
      refine ⟨_, rfl, p, C, dx, _, _, rfl, up q1, G.cl, G.nS, gfs_stored _ _ _, _, rfl, d, _, rfl, DPut.k (k := Sum.inr Y) (up q4) ?_, fun Z => if Z = Y then l else ff Z, _, rfl, ?_, ?_, ?_, ?_, ?_, fun Z hZ => ?_, fun Z hZ W hW e => ?_⟩
      · unfold kvsF
        rw [List.length_map]
        have := ok.nok.few
        exact Nat.lt_of_le_of_lt (Nat.le_trans (List.length_take_le' ..) this) (by decide)
      · exact (s3.trans (Sm.new hl)).mut bd (up q4) True.intro
      · have : p ≠ d := npd
        rw [upd_ne this]; exact up q1
      · rw [upd_ne hdk.symm]; exact up q2
      · rw [upd_ne hod2.2]; exact up q3
      · rw [upd_same, et, kvsF_put hnew]
      · rw [et] at hZ
        have dl : l ≠ d := (nl q4).symm
        rcases List.mem_append.mp hZ with m | m
        · have : Z ≠ Y := fun z => hnew (by rw [← z]; exact m)
          obtain ⟨b1, b2, b3, b4⟩ := q5 Z m
          have nd : ff Z ≠ d := fun z => by rw [z, q4] at b2; cases b2
          show hid H p (if Z = Y then l else ff Z) = Option.none ∧ upd (upd H3 l (.lst [])) d _ (if Z = Y then l else ff Z) = some (.lst []) ∧ (if Z = Y then l else ff Z) ≠ od ∧ (if Z = Y then l else ff Z) ≠ kn
          rw [if_neg this]
          exact ⟨b1, by rw [upd_ne nd]; exact up b2, b3, b4⟩
        · have : Z = Y := List.mem_singleton.mp m
          show hid H p (if Z = Y then l else ff Z) = Option.none ∧ upd (upd H3 l (.lst [])) d _ (if Z = Y then l else ff Z) = some (.lst []) ∧ (if Z = Y then l else ff Z) ≠ od ∧ (if Z = Y then l else ff Z) ≠ kn
          rw [if_pos this]
          exact ⟨s3.fr _ hl, by rw [upd_ne dl, upd_same], (nl q3).symm, (nl q2).symm⟩
      · rw [et] at hZ hW
        have e : (if Z = Y then l else ff Z) = (if W = Y then l else ff W) := e
        rcases List.mem_append.mp hZ with m | m <;> rcases List.mem_append.mp hW with m2 | m2
        · rw [if_neg (fun z => hnew (by rw [← z]; exact m)), if_neg (fun z => hnew (by rw [← z]; exact m2))] at e
          exact q6 Z m W m2 e
        · rw [if_neg (fun z => hnew (by rw [← z]; exact m)), if_pos (List.mem_singleton.mp m2)] at e
          exact absurd e (nl (q5 Z m).2.1)
        · rw [if_pos (List.mem_singleton.mp m), if_neg (fun z => hnew (by rw [← z]; exact m2))] at e
          exact absurd e.symm (nl (q5 W m2).2.1)
        · rw [List.mem_singleton.mp m, List.mem_singleton.mp m2]
    · rintro σ H3 ⟨ff, z, rfl, s3, q1, q2, q3, q4, q5, q6⟩
      rw [List.length_map, List.take_length] at q4 q5 q6
      -- for at, rule in enumerate(rules)
      have hL : ∀ m ∈ p :: d :: od :: names.map ff, ∃ o, H3 m = some o := fun m hm => by
        rcases List.mem_cons.mp hm with e | hm
        · rw [e]; exact ⟨_, q1⟩
        · rcases List.mem_cons.mp hm with e | hm
          · rw [e]; exact ⟨_, q4⟩
          · rcases List.mem_cons.mp hm with e | hm
            · rw [e]; exact ⟨_, q3⟩
            · obtain ⟨Y, hY, e⟩ := List.mem_map.mp hm
              rw [← e]; exact ⟨_, (q5 Y hY).2.1⟩
      have ffp : ∀ Y ∈ names, ff Y ≠ p ∧ ff Y ≠ d := fun Y hY => ⟨(fun e => by have := (q5 Y hY).2.1; rw [e, q1] at this; cases this), (fun e => by have := (q5 Y hY).2.1; rw [e, q4] at this; cases this)⟩
      have inL : ∀ Y ∈ names, ff Y ∈ p :: d :: od :: names.map ff := fun Y hY => List.mem_cons_of_mem _ (List.mem_cons_of_mem _ (List.mem_cons_of_mem _ (List.mem_map.mpr ⟨Y, hY, rfl⟩)))
      refine ⟨_, rfl, ar, rvs, rfl, SqL.of (s3.lst har), for_it walk_enum
        (fun i σ H' => ∃ (z4 z5 : Option V) (os : List V), σ = [some (.ref p), some (.ref an), some (.ref ar), z, z4, z5] ∧ Sm T (hid H p) H' ∧ H' p = some (.ins C dx (gfs kn d od)) ∧ H' kn = some (.lst (names.map V.str)) ∧ H' od = some (.lst os) ∧ os.length = i ∧
          H' d = some (.dK (kvsF names ff)) ∧ StoF (hidL H' (p :: d :: od :: names.map ff)) H' names ff (rulesOf (rules.take i)))
        ⟨_, _, [], rfl, s3, q1, q2, q3, rfl, q4, fun Y hY => ⟨[], (q5 Y hY).2.1, by rw [List.take_zero]; exact True.intro⟩⟩ (fun i σ H' _ h => by obtain ⟨_, _, _, _, h, _⟩ := h; exact SqL.of (h.lst har)) ?_ ?_⟩
      · rintro i v σ H4 H5 hi ⟨z4, z5, os, rfl, s4, r1, r2, r3, r4, r5, r6⟩ ⟨t0, x1, y1, rfl, ht0, rfl, ex1, ey1⟩
        cases ex1
        obtain ⟨r, hr1, hat⟩ := hrv.getV ey1
        obtain ⟨a1, u1, u2, u3, rfl, ha1, g1, g2, g3⟩ := hat
        have g1 : u1 = V.str r.a := g1
        have g2 : u2 = V.str r.b := g2
        subst g1
        subst g2
        obtain ⟨c, rfl, hc⟩ := (show At (hid H p) u3 r.c from g3).strs
        have hrm : r ∈ rules := List.mem_of_getElem? hr1
        have et : rules.take (i + 1) = rules.take i ++ [r] := by
          rw [List.take_add_one, hr1]
          rfl
        have sT : Sm T H4 (upd H4 t0 (.tup [.int (i : Nat), .ref a1])) := Sm.new ht0
        have s5 := s4.trans sT
        have n1 := sT.ins r1
        have n6 := r6.mono sT.kp
        have hX := ok.left r hrm
        have hnot : (r.b, r.c) ∉ rulesOf (rules.take i) r.a := fun m => by
          have m := mem_rulesOf.mp m
          have nd := ok.nd
          rw [← List.take_append_drop (i + 1) rules, et] at nd
          have h2 := (List.nodup_append.mp (List.nodup_append.mp nd).1).2.2
          exact h2 r m r (List.mem_singleton.mpr rfl) rfl
        have hfew : (rulesOf (rules.take i) r.a).length < 4 := by
          have h1 := rulesOf_take rules (i + 1) r.a
          rw [et, rulesOf_snoc, if_pos rfl, List.length_append] at h1
          have h2 := ok.few r.a
          simp at h1
          omega
        have hgr : GrAt C (upd H4 t0 (.tup [.int (i : Nat), .ref a1])) (.ref p) ⟨names, storedOf names (rules.take i)⟩ := ⟨p, dx, kn, d, od, rfl, n1, At.of_strs (sT.lst r2), ⟨d, _, rfl, .inl (sT.dK r5), StoF.kv hidL_kp n6⟩⟩
        refine ⟨t0, _, rfl, SqT.of upd_same, rfl, _, _, rfl, _, _, rfl, rfl, ?_⟩
        refine ⟨_, rfl, p, dx, _, rfl, n1, gfs_no _ _ _ (by decide +kernel) (by decide +kernel) (by decide +kernel), _, rfl, _, _, ⟨names, storedOf names (rules.take i)⟩, r, rulesOf (rules.take i) r.a, rfl, hgr,
          ⟨a1, _, _, _, rfl, s5.tup ha1, rfl, rfl, At.of_strs (s5.lst hc)⟩, dlk_mapF hX, ok.letter r hrm, ok.short r hrm, fun x hx => by rw [show dlk (storedOf names (rules.take i)) x = _ from dlk_mapF (ok.row r hrm x hx)]; rfl, hfew, hnot, fun H6 s6 => ⟨true, rfl, iteF ?_⟩⟩
        have s46 := sT.trans s6
        have s06 := s4.trans s46
        have m1 := s46.ins r1
        have m2 := s46.lst r2
        have m3 := s46.lst r3
        have m5 := s46.dK r5
        have m6 := r6.mono s46.kp
        have ma := s06.tup ha1
        have mc := s06.lst hc
        obtain ⟨us, hus, hA⟩ := m6 r.a hX
        have hlen : us.length < 4 := by rw [hA.length]; exact hfew
        -- self.stored[rule[0]].append((rule[1], list(rule[2])))
        refine ⟨_, rfl, p, C, dx, _, _, rfl, m1, G.cl, G.nS, gfs_stored _ _ _, _, rfl, a1, _, 0, _, rfl, rfl, SqT.of ma, atI_nat (j := 0) rfl, d, .ref (ff r.a), rfl, by
          have := DGet.k (k := (Sum.inr r.a : Key)) m5
          rw [kvsF_get hX] at this
          exact this, .inl ⟨rfl, _, SqL.of hus⟩, ?_⟩
        refine ⟨_, rfl, a1, _, 1, _, rfl, rfl, SqT.of ma, atI_nat (j := 1) rfl, _, rfl, a1, _, 2, _, rfl, rfl, SqT.of ma, atI_nat (j := 2) rfl, c, _, rfl, .inl (SqL.of mc), fun l2 hl2 => ⟨by show 2 ≤ sizeLine; decide, fun t ht => ?_⟩⟩
        have lt : l2 ≠ t := ne_of_none upd_same ht
        have htn : H6 t = Option.none := by rw [upd_ne lt.symm] at ht; exact ht
        have s7 : Sm T H6 (upd (upd H6 l2 (.lst (r.c.map V.str))) t (.tup [.str r.b, .ref l2])) := (Sm.new hl2).trans (Sm.new ht)
        refine ⟨ff r.a, us, _, rfl, rfl, s7.lst hus, Nat.lt_trans hlen (by decide), ?_⟩
        -- self.order.append(rule[0])
        have bf : hid H p (ff r.a) = Option.none := (q5 r.a hX).1
        have nfp := (ffp r.a hX).1
        have nfd := (ffp r.a hX).2
        have nfo := (q5 r.a hX).2.2.1
        have nfk := (q5 r.a hX).2.2.2
        have s8 : Sm T (hid H p) (upd (upd (upd H6 l2 (.lst (r.c.map V.str))) t (.tup [.str r.b, .ref l2])) (ff r.a) (.lst (us ++ [.ref t]))) := (s06.trans s7).mut bf (s7.lst hus) True.intro
        have p1 : ∀ {b : Addr} {o : HO}, H6 b = some o → upd (upd H6 l2 (.lst (r.c.map V.str))) t (.tup [.str r.b, .ref l2]) b = some o := fun {b o} e => by
          rw [upd_ne (fun z => by rw [z, htn] at e; cases e), upd_ne (fun z => by rw [z, hl2] at e; cases e)]
          exact e
        have p2 : ∀ {b : Addr} {o : HO}, b ≠ ff r.a → H6 b = some o → upd (upd (upd H6 l2 (.lst (r.c.map V.str))) t (.tup [.str r.b, .ref l2])) (ff r.a) (.lst (us ++ [.ref t])) b = some o := fun {b o} n e => by
          rw [upd_ne n]
          exact p1 e
        refine ⟨_, rfl, p, C, dx, _, _, rfl, p2 nfp.symm m1, G.cl, G.nO, gfs_order _ _ _, .inl ⟨rfl, _, SqL.of (p2 nfo.symm m3)⟩, _, rfl, a1, _, 0, _, rfl, rfl, SqT.of (s8.tup ha1), atI_nat (j := 0) rfl, od, os, _, rfl, rfl, p2 nfo.symm m3, ?_, ?_⟩
        · rw [r4]
          have := ok.len
          have hi : i < rvs.length := hi
          rw [hrv.length] at hi
          exact Nat.lt_of_lt_of_le hi (Nat.le_trans this (by decide))
        · have nod : d ≠ od := hod2.2.symm
          refine ⟨_, _, _, rfl, s8.mut bo (p2 nfo.symm m3) True.intro, ?_, ?_, upd_same, by rw [List.length_append, r4]; rfl, ?_, fun Y hY => ?_⟩
          · rw [upd_ne npo]; exact p2 nfp.symm m1
          · rw [upd_ne hod2.1.symm]; exact p2 nfk.symm m2
          · rw [upd_ne nod]; exact p2 nfd.symm m5
          · have noL : ∀ m ∈ p :: d :: od :: names.map ff, m ≠ t ∧ m ≠ l2 := fun m hm => by
              have : ∃ o, H6 m = some o := by
                rcases List.mem_cons.mp hm with e | hm
                · rw [e]; exact ⟨_, m1⟩
                · rcases List.mem_cons.mp hm with e | hm
                  · rw [e]; exact ⟨_, m5⟩
                  · rcases List.mem_cons.mp hm with e | hm
                    · rw [e]; exact ⟨_, m3⟩
                    · obtain ⟨Z, hZ, e⟩ := List.mem_map.mp hm
                      obtain ⟨vs, h1, _⟩ := m6 Z hZ
                      rw [← e]; exact ⟨_, h1⟩
              obtain ⟨o, ho⟩ := this
              exact ⟨ne_of_none ho htn, ne_of_none ho hl2⟩
            have tL : t ∉ p :: d :: od :: names.map ff := fun m => (noL t m).1 rfl
            have lL : l2 ∉ p :: d :: od :: names.map ff := fun m => (noL l2 m).2 rfl
            have odL : od ∈ p :: d :: od :: names.map ff := List.mem_cons_of_mem _ (List.mem_cons_of_mem _ List.mem_cons_self)
            rw [hidL_upd odL, hidL_upd (inL r.a hX), et, rulesOf_snoc]
            have kz : Kp (hidL H6 (p :: d :: od :: names.map ff)) (hidL (upd (upd H6 l2 (.lst (r.c.map V.str))) t (.tup [.str r.b, .ref l2])) (p :: d :: od :: names.map ff)) := hidL_mono s7.kp
            by_cases e : r.a = Y
            · subst e
              rw [if_pos rfl]
              refine ⟨us ++ [.ref t], by rw [upd_ne nfo, upd_same], (hA.mono kz).snoc ⟨t, _, _, rfl, by rw [hidL_out tL, upd_same], rfl, l2, _, rfl, by rw [hidL_out lL, upd_ne lt, upd_same], strs_at.mpr rfl⟩⟩
            · rw [if_neg e]
              obtain ⟨vs, h1, h2⟩ := m6 Y hY
              have ne1 : ff Y ≠ ff r.a := fun z => e (q6 Y hY r.a hX z).symm
              exact ⟨vs, by rw [upd_ne (q5 Y hY).2.2.1]; exact p2 ne1 h1, h2.mono kz⟩
      · rintro σ H4 ⟨z4, z5, os, rfl, s4, r1, r2, r3, r4, r5, r6⟩
        have et : rules.take rvs.length = rules := by rw [hrv.length, List.take_length]
        rw [et] at r6
        exact k H4 s4 ⟨p, dx, kn, d, od, rfl, r1, At.of_strs r2, ⟨d, _, rfl, .inl r5, StoF.kv hidL_kp r6⟩⟩
end
end SG

set_option Elab.async false
set_option linter.all false
set_option autoImplicit false
set_option maxHeartbeats 1000000
/-! The plain law of the planted grammars. -/
namespace SG
open PySem
section
variable {N L : Type} [DecidableEq N]
theorem wt_mono {a b : N → Nat} : ∀ {r : List N}, (∀ x ∈ r, a x ≤ b x) → wt a r ≤ wt b r
  | [], _ => Nat.le_refl _
  | x :: r, h => by
    rw [wt_cons, wt_cons]
    have := h x List.mem_cons_self
    have := wt_mono fun y hy => h y (List.mem_cons_of_mem _ hy)
    omega
theorem wt_lt {a b : N → Nat} : ∀ {r : List N}, (∀ x ∈ r, a x ≤ b x) → (∃ x ∈ r, a x < b x) → wt a r < wt b r
  | [], _, h => by
    obtain ⟨x, hx, _⟩ := h
    cases hx
  | x :: r, h, k => by
    rw [wt_cons, wt_cons]
    have h1 := h x List.mem_cons_self
    have h2 := wt_mono fun y hy => h y (List.mem_cons_of_mem _ hy)
    obtain ⟨y, hy, e⟩ := k
    rcases List.mem_cons.mp hy with z | z
    · rw [z] at e
      omega
    · have := wt_lt (fun y hy => h y (List.mem_cons_of_mem _ hy)) ⟨y, z, e⟩
      omega
/-- what bounds the norms gives them -/
theorem exists_nms (g : Gm N L) (closed : ∀ X ∈ g.names, ∀ p ∈ g.rules X, Over g p.2) : ∀ (n : Nat) (ρ : N → Nat), wt ρ g.names = n → (∀ X ∈ g.names, ∃ p ∈ g.rules X, 1 + wt ρ p.2 ≤ ρ X) → ∃ w, Nms g w ∧ ∀ X ∈ g.names, w X ≤ ρ X := by
  intro n
  induction n using Nat.strongRecOn with
  | ind n ih =>
    intro ρ hn h
    by_cases k : ∀ X ∈ g.names, ∀ p ∈ g.rules X, ρ X ≤ 1 + wt ρ p.2
    · refine ⟨ρ, ⟨closed, fun X hX => ?_, k⟩, fun X _ => Nat.le_refl _⟩
      obtain ⟨p, hp, e⟩ := h X hX
      exact ⟨p, hp, Nat.le_antisymm e (k X hX p hp)⟩
    · simp only [Classical.not_forall] at k
      obtain ⟨X, hX, p, hp, k⟩ := k
      have hle : ∀ Y, (if Y = X then 1 + wt ρ p.2 else ρ Y) ≤ ρ Y := fun Y => by
        by_cases e : Y = X
        · rw [if_pos e, e]; omega
        · rw [if_neg e]; exact Nat.le_refl _
      have hlt : wt (fun Y => if Y = X then 1 + wt ρ p.2 else ρ Y) g.names < n := by
        rw [← hn]
        refine wt_lt (fun Y _ => hle Y) ⟨X, hX, ?_⟩
        show (if X = X then 1 + wt ρ p.2 else ρ X) < ρ X
        rw [if_pos rfl]
        omega
      obtain ⟨w, W, hw⟩ := ih _ hlt _ rfl fun Y hY => by
        by_cases e : Y = X
        · subst e
          refine ⟨p, hp, ?_⟩
          show 1 + _ ≤ (if Y = Y then 1 + wt ρ p.2 else ρ Y)
          rw [if_pos rfl]
          have := wt_mono (r := p.2) fun Z _ => hle Z
          omega
        · obtain ⟨q, hq, e2⟩ := h Y hY
          refine ⟨q, hq, ?_⟩
          show 1 + _ ≤ (if Y = X then 1 + wt ρ p.2 else ρ Y)
          rw [if_neg e]
          have := wt_mono (r := q.2) fun Z _ => hle Z
          omega
      exact ⟨w, W, fun Y hY => Nat.le_trans (hw Y hY) (hle Y)⟩
end
abbrev Mks : Type := List (Str × List Str)
def gmOf (names : List Str) (rules : List Rul) : Gm Str Str := ⟨names, rulesOf rules⟩
theorem rulesOf_app (a b : List Rul) (X : Str) : rulesOf (a ++ b) X = rulesOf a X ++ rulesOf b X := by
  unfold rulesOf
  rw [List.filter_append, List.map_append]
theorem rulesOf_nil_of {rules : List Rul} {X : Str} (h : ∀ r ∈ rules, r.a ≠ X) : rulesOf rules X = [] := by
  unfold rulesOf
  rw [List.filter_eq_nil_iff.mpr fun r hr => by simpa using h r hr]
  rfl
def plantR (Y : Str) (S : List RP) : List Rul := S.map fun p => ⟨Y, p.1, p.2⟩
theorem rulesOf_plant (Y X : Str) (S : List RP) : rulesOf (plantR Y S) X = if Y = X then S else [] := by
  unfold rulesOf plantR
  by_cases e : Y = X
  · rw [if_pos e, List.filter_eq_self.mpr (fun r hr => by
      obtain ⟨p, _, rfl⟩ := List.mem_map.mp hr
      simpa using e), List.map_map]
    exact List.map_id' _
  · rw [if_neg e, List.filter_eq_nil_iff.mpr fun r hr => by
      obtain ⟨p, _, rfl⟩ := List.mem_map.mp hr
      simpa using e]
    rfl
/-- a grammar in the making: some names have the steps of others' rows -/
structure PInv (names : List Str) (rules : List Rul) (mk : Mks) (u : Str → Nat) : Prop where
  pos : 1 ≤ names.length
  nd : names.Nodup
  each : ∀ x ∈ names, nameT x
  left : ∀ r ∈ rules, r.a ∈ names
  letter : ∀ r ∈ rules, letterT r.b
  short : ∀ r ∈ rules, r.c.length ≤ 3
  rnd : rules.Nodup
  few : ∀ X, (rulesOf rules X).length ≤ 4
  base : ∀ r ∈ rules, ∀ x ∈ r.c, x ∈ names ∧ dlk mk x = none
  keys : (mk.map (·.1)).Nodup
  dom : ∀ Y m, dlk mk Y = some m → Y ∈ names ∧ m ≠ [] ∧ m.length ≤ 2 ∧ ∀ x ∈ m, x ∈ names ∧ dlk mk x = none
  steps : ∀ Y m1 rest, dlk mk Y = some (m1 :: rest) → ∀ p, p ∈ rulesOf rules Y ↔ ∃ q ∈ rulesOf rules m1, p = (q.1, q.2 ++ rest)
  nms : Nms (gmOf names rules) u
  le : ∀ X ∈ names, u X ≤ 12
  wtk : ∀ Y m, dlk mk Y = some m → u Y = wt u m
theorem wt_congr {a b : Str → Nat} : ∀ {r : List Str}, (∀ x ∈ r, a x = b x) → wt a r = wt b r
  | [], _ => rfl
  | x :: r, h => by rw [wt_cons, wt_cons, h x List.mem_cons_self, wt_congr fun y hy => h y (List.mem_cons_of_mem _ hy)]
/-- one more name is planted -/
theorem PInv.plant {names : List Str} {rules : List Rul} {mk : Mks} {u : Str → Nat} (I : PInv names rules mk u) {names' : List Str} {Y m1 : Str} {rest : List Str} {S : List RP} (perm : names'.Perm (Y :: names)) (new : Y ∉ names) (hY : nameT Y)
    (hm : ∀ x ∈ m1 :: rest, x ∈ names ∧ dlk mk x = none) (hr : rest.length ≤ 1) (hS : ∀ p, p ∈ S ↔ ∃ q ∈ rulesOf rules m1, p = (q.1, q.2 ++ rest)) (snd : S.Nodup) (sfew : S.length ≤ 4) (sshort : ∀ p ∈ S, p.2.length ≤ 3) (hw : wt u (m1 :: rest) ≤ 12) :
    PInv names' (rules ++ plantR Y S) (mk ++ [(Y, m1 :: rest)]) (fun X => if X = Y then wt u (m1 :: rest) else u X) := by
  have mem : ∀ {x}, x ∈ names' ↔ x = Y ∨ x ∈ names := fun {x} => by rw [perm.mem_iff, List.mem_cons]
  have ne : ∀ {x}, x ∈ names → x ≠ Y := fun h e => new (by rw [← e]; exact h)
  have nokey : dlk mk Y = none := by
    cases e : dlk mk Y with
    | none => rfl
    | some m => exact absurd (I.dom Y m e).1 new
  have lk1 : ∀ x, x ≠ Y → dlk (mk ++ [(Y, m1 :: rest)]) x = dlk mk x := fun x hx => by
    rw [dlk_append]
    cases e : dlk mk x with
    | some m => rfl
    | none =>
      show dlk [(Y, m1 :: rest)] x = none
      rw [dlk_cons, if_neg (fun z => hx z.symm)]
      rfl
  have lkY : dlk (mk ++ [(Y, m1 :: rest)]) Y = some (m1 :: rest) := by
    rw [dlk_append, nokey]
    show dlk [(Y, m1 :: rest)] Y = _
    rw [dlk_cons, if_pos rfl]
  have noY : rulesOf rules Y = [] := rulesOf_nil_of fun r hr => ne (I.left r hr)
  have r1 : ∀ X, X ≠ Y → rulesOf (rules ++ plantR Y S) X = rulesOf rules X := fun X hX => by
    rw [rulesOf_app, rulesOf_plant, if_neg (fun z => hX z.symm), List.append_nil]
  have rY : rulesOf (rules ++ plantR Y S) Y = S := by
    rw [rulesOf_app, rulesOf_plant, if_pos rfl, noY, List.nil_append]
  have hrow : ∀ X p, p ∈ rulesOf rules X → ∀ x ∈ p.2, x ∈ names ∧ dlk mk x = none := fun X p hp x hx => I.base _ (mem_rulesOf.mp hp) x hx
  have srow : ∀ p ∈ S, ∀ x ∈ p.2, x ∈ names ∧ dlk mk x = none := fun p hp x hx => by
    obtain ⟨q, hq, rfl⟩ := (hS p).mp hp
    rcases List.mem_append.mp hx with z | z
    · exact hrow m1 q hq x z
    · exact hm x (List.mem_cons_of_mem _ z)
  have wt1 : ∀ r : List Str, (∀ x ∈ r, x ∈ names) → wt (fun X => if X = Y then wt u (m1 :: rest) else u X) r = wt u r := fun r h => wt_congr fun x hx => if_neg (ne (h x hx))
  have memr : ∀ r, r ∈ rules ++ plantR Y S → r ∈ rules ∨ (r.a = Y ∧ (r.b, r.c) ∈ S) := fun r h => by
    rcases List.mem_append.mp h with z | z
    · exact .inl z
    · obtain ⟨p, hp, rfl⟩ := List.mem_map.mp z
      exact .inr ⟨rfl, hp⟩
  have m1n := (hm m1 List.mem_cons_self).1
  have m1r : ∀ p, p ∈ rulesOf rules m1 → wt u (p.2 ++ rest) = wt u p.2 + wt u rest := fun p _ => wt_append _ _ _
  refine ⟨?_, ?_, fun x hx => ?_, fun r h => ?_, fun r h => ?_, fun r h => ?_, ?_, fun X => ?_, fun r h x hx => ?_, ?_, fun Z m h => ?_, fun Z a b h p => ?_, ⟨fun X hX p hp x hx => ?_, fun X hX => ?_, fun X hX p hp => ?_⟩, fun X hX => ?_, fun Z m h => ?_⟩
  · rw [perm.length_eq]
    exact Nat.succ_le_succ (Nat.zero_le _)
  · rw [perm.nodup_iff]
    exact List.nodup_cons.mpr ⟨new, I.nd⟩
  · rcases mem.mp hx with z | z
    · rw [z]; exact hY
    · exact I.each x z
  · rcases memr r h with z | z
    · exact mem.mpr (.inr (I.left r z))
    · exact mem.mpr (.inl z.1)
  · rcases memr r h with z | z
    · exact I.letter r z
    · obtain ⟨q, hq, e⟩ := (hS _).mp z.2
      have := I.letter _ (mem_rulesOf.mp hq)
      have e1 : r.b = q.1 := congrArg Prod.fst e
      rw [e1]
      exact this
  · rcases memr r h with z | z
    · exact I.short r z
    · exact sshort _ z.2
  · refine List.nodup_append.mpr ⟨I.rnd, List.Pairwise.map _ (fun a b n z => n (by
      injection z with _ z1 z2
      exact Prod.ext z1 z2)) snd, fun a ha b hb z => ?_⟩
    subst z
    obtain ⟨p, hp, rfl⟩ := List.mem_map.mp hb
    exact new (I.left _ ha)
  · by_cases e : X = Y
    · rw [e, rY]; exact sfew
    · rw [r1 X e]; exact I.few X
  · have h2 : x ∈ names ∧ dlk mk x = none := by
      rcases memr r h with z | z
      · exact I.base r z x hx
      · exact srow _ z.2 x hx
    exact ⟨mem.mpr (.inr h2.1), by rw [lk1 x (ne h2.1)]; exact h2.2⟩
  · rw [List.map_append]
    refine List.nodup_append.mpr ⟨I.keys, List.nodup_cons.mpr ⟨List.not_mem_nil, List.nodup_nil⟩, fun a ha b hb z => ?_⟩
    have hb : b = Y := List.mem_singleton.mp hb
    rw [z, hb] at ha
    have := dlk_isSome.mpr ha
    rw [nokey] at this
    cases this
  · by_cases e : Z = Y
    · subst e
      rw [lkY] at h
      cases h
      refine ⟨mem.mpr (.inl rfl), List.cons_ne_nil _ _, Nat.succ_le_succ hr, fun x hx => ?_⟩
      obtain ⟨a1, a2⟩ := hm x hx
      exact ⟨mem.mpr (.inr a1), by rw [lk1 x (ne a1)]; exact a2⟩
    · rw [lk1 Z e] at h
      obtain ⟨b1, b2, b3, b4⟩ := I.dom Z m h
      refine ⟨mem.mpr (.inr b1), b2, b3, fun x hx => ?_⟩
      obtain ⟨a1, a2⟩ := b4 x hx
      exact ⟨mem.mpr (.inr a1), by rw [lk1 x (ne a1)]; exact a2⟩
  · by_cases e : Z = Y
    · subst e
      rw [lkY] at h
      cases h
      rw [rY, r1 m1 (ne m1n)]
      exact hS p
    · rw [lk1 Z e] at h
      have a1 := ((I.dom Z _ h).2.2.2 a List.mem_cons_self).1
      rw [r1 Z e, r1 a (ne a1)]
      exact I.steps Z a b h p
  · have hp : p ∈ rulesOf (rules ++ plantR Y S) X := hp
    by_cases e : X = Y
    · rw [e, rY] at hp
      exact mem.mpr (.inr (srow p hp x hx).1)
    · rw [r1 X e] at hp
      exact mem.mpr (.inr (hrow X p hp x hx).1)
  · show ∃ p ∈ rulesOf (rules ++ plantR Y S) X, _
    by_cases e : X = Y
    · subst e
      obtain ⟨q, hq, e2⟩ := I.nms.n1 m1 m1n
      refine ⟨(q.1, q.2 ++ rest), by rw [rY]; exact (hS _).mpr ⟨q, hq, rfl⟩, ?_⟩
      rw [if_pos rfl, wt1 _ (fun x hx => (srow _ ((hS _).mpr ⟨q, hq, rfl⟩) x hx).1), wt_cons]
      show 1 + wt u (q.2 ++ rest) = _
      rw [wt_append]
      omega
    · have hXn : X ∈ names := (mem.mp hX).resolve_left e
      obtain ⟨q, hq, e2⟩ := I.nms.n1 X hXn
      refine ⟨q, by rw [r1 X e]; exact hq, ?_⟩
      rw [if_neg e, wt1 _ (fun x hx => (hrow X q hq x hx).1)]
      exact e2
  · have hp : p ∈ rulesOf (rules ++ plantR Y S) X := hp
    show (if X = Y then wt u (m1 :: rest) else u X) ≤ _
    by_cases e : X = Y
    · subst e
      rw [rY] at hp
      rw [if_pos rfl, wt1 _ (fun x hx => (srow p hp x hx).1)]
      obtain ⟨q, hq, rfl⟩ := (hS _).mp hp
      have := I.nms.n2 m1 m1n q hq
      rw [wt_cons]
      show _ ≤ 1 + wt u (q.2 ++ rest)
      rw [wt_append]
      omega
    · rw [r1 X e] at hp
      rw [if_neg e, wt1 _ (fun x hx => (hrow X p hp x hx).1)]
      exact I.nms.n2 X ((mem.mp hX).resolve_left e) p hp
  · show (if X = Y then wt u (m1 :: rest) else u X) ≤ 12
    by_cases e : X = Y
    · rw [if_pos e]; exact hw
    · rw [if_neg e]; exact I.le X ((mem.mp hX).resolve_left e)
  · show (if Z = Y then wt u (m1 :: rest) else u Z) = _
    by_cases e : Z = Y
    · subst e
      rw [lkY] at h
      cases h
      rw [if_pos rfl, wt1 _ fun x hx => (hm x hx).1]
    · rw [lk1 Z e] at h
      rw [if_neg e, wt1 _ fun x hx => ((I.dom Z m h).2.2.2 x hx).1]
      exact I.wtk Z m h
end SG

set_option Elab.async false
set_option linter.all false
set_option autoImplicit false
set_option maxHeartbeats 1000000
/-! The plain law, on: names exchanged in rows; what the last base tells. -/
namespace SG
open PySem
/-- a rule and the one it was -/
structure SwapR (names : List Str) (mk : Mks) (u : Str → Nat) (r' r : Rul) : Prop where
  a : r'.a = r.a
  b : r'.b = r.b
  len : r'.c.length = r.c.length
  out : out (dlk mk) r'.c = r.c
  wt : wt u r'.c = wt u r.c
  over : ∀ x ∈ r'.c, x ∈ names
/-- the two lists go together -/
def Along {α β : Type} (R : α → β → Prop) : List α → List β → Prop
  | [], [] => True
  | a :: as, b :: bs => R a b ∧ Along R as bs
  | _, _ => False
section
variable {α β : Type} {R : α → β → Prop}
theorem Along.len : ∀ {as : List α} {bs : List β}, Along R as bs → as.length = bs.length
  | [], [], _ => rfl
  | [], _ :: _, h => h.elim
  | _ :: _, [], h => h.elim
  | _ :: _, _ :: _, h => congrArg (· + 1) h.2.len
theorem Along.to : ∀ {as : List α} {bs : List β} {a : α}, Along R as bs → a ∈ as → ∃ b ∈ bs, R a b
  | [], _, _, _, h => nomatch h
  | _ :: _, [], _, h, _ => h.elim
  | x :: as, y :: bs, a, h, m => by
    rcases List.mem_cons.mp m with e | m
    · exact ⟨y, List.mem_cons_self, by rw [e]; exact h.1⟩
    · obtain ⟨b, hb, r⟩ := Along.to h.2 m
      exact ⟨b, List.mem_cons_of_mem _ hb, r⟩
theorem Along.fro : ∀ {as : List α} {bs : List β} {b : β}, Along R as bs → b ∈ bs → ∃ a ∈ as, R a b
  | _, [], _, _, h => nomatch h
  | [], _ :: _, _, h, _ => h.elim
  | x :: as, y :: bs, b, h, m => by
    rcases List.mem_cons.mp m with e | m
    · exact ⟨x, List.mem_cons_self, by rw [e]; exact h.1⟩
    · obtain ⟨a, ha, r⟩ := Along.fro h.2 m
      exact ⟨a, List.mem_cons_of_mem _ ha, r⟩
theorem Along.set : ∀ {as : List α} {bs : List β} {k : Nat} {a : α}, Along R as bs → (∀ b, bs[k]? = some b → R a b) → Along R (as.set k a) bs
  | [], [], _, _, _, _ => True.intro
  | [], _ :: _, _, _, h, _ => h.elim
  | _ :: _, [], _, _, h, _ => h.elim
  | _ :: _, y :: _, 0, _, h, k => ⟨k y rfl, h.2⟩
  | _ :: _, _ :: _, i + 1, _, h, k => ⟨h.1, Along.set h.2 fun b hb => k b (by simpa using hb)⟩
theorem Along.refl {R : α → α → Prop} (h : ∀ a, R a a) : ∀ as : List α, Along R as as
  | [] => True.intro
  | a :: as => ⟨h a, Along.refl h as⟩
theorem Along.self {R : α → α → Prop} : ∀ {as : List α}, (∀ a ∈ as, R a a) → Along R as as
  | [], _ => True.intro
  | a :: as, h => ⟨h a List.mem_cons_self, Along.self fun b hb => h b (List.mem_cons_of_mem _ hb)⟩
end
/-- the grammar as the law hands it on -/
structure PFin (names : List Str) (rules : List Rul) (mk : Mks) (u : Str → Nat) : Prop where
  ok : GOk names rules
  nms : Nms (gmOf names rules) u
  mkd : Mkd (gmOf names rules) (dlk mk)
  hlds : Hlds (gmOf names rules) (dlk mk)
  le : ∀ X ∈ names, u X ≤ 12
  wtk : ∀ Y m, dlk mk Y = some m → u Y = wt u m
  keys : (mk.map (·.1)).Nodup
  mlen : ∀ Y m, dlk mk Y = some m → m.length ≤ 2
theorem rulesOf_len {R : Rul → Rul → Prop} (ha : ∀ a b, R a b → a.a = b.a) (X : Str) : ∀ {as bs : List Rul}, Along R as bs → (rulesOf as X).length = (rulesOf bs X).length
  | [], [], _ => rfl
  | [], _ :: _, h => h.elim
  | _ :: _, [], h => h.elim
  | a :: as, b :: bs, h => by
    have ih := rulesOf_len ha X h.2
    unfold rulesOf at ih ⊢
    rw [List.length_map, List.length_map] at ih ⊢
    rw [List.filter_cons, List.filter_cons, ha a b h.1]
    by_cases e : b.a = X
    · rw [if_pos (decide_eq_true e), if_pos (decide_eq_true e), List.length_cons, List.length_cons, ih]
    · rw [if_neg (by simpa using e), if_neg (by simpa using e), ih]
section
variable {names : List Str} {rules rules' : List Rul} {mk : Mks} {u : Str → Nat}
theorem swap_to (F : Along (SwapR names mk u) rules' rules) {X : Str} {p' : RP} (h : p' ∈ rulesOf rules' X) : ∃ p ∈ rulesOf rules X, p'.1 = p.1 ∧ out (dlk mk) p'.2 = p.2 ∧ wt u p'.2 = wt u p.2 := by
  obtain ⟨r, hr, s⟩ := F.to (mem_rulesOf.mp h)
  refine ⟨(r.b, r.c), mem_rulesOf.mpr ?_, s.b, s.out, s.wt⟩
  have := s.a
  have e : X = r.a := this
  rw [e]
  exact hr
theorem swap_fro (F : Along (SwapR names mk u) rules' rules) {X : Str} {p : RP} (h : p ∈ rulesOf rules X) : ∃ p' ∈ rulesOf rules' X, p'.1 = p.1 ∧ out (dlk mk) p'.2 = p.2 ∧ wt u p'.2 = wt u p.2 := by
  obtain ⟨r, hr, s⟩ := F.fro (mem_rulesOf.mp h)
  refine ⟨(r.b, r.c), mem_rulesOf.mpr ?_, s.b, s.out, s.wt⟩
  have e : r.a = X := s.a
  rw [← e]
  exact hr
theorem PInv.rlen (I : PInv names rules mk u) : rules.length ≤ 4 * names.length := by
  have h : ∀ (ns : List Str) (rs : List Rul), (∀ r ∈ rs, r.a ∈ ns) → (∀ X, (rulesOf rs X).length ≤ 4) → rs.length ≤ 4 * ns.length := by
    intro ns
    induction ns with
    | nil =>
      intro rs h _
      cases rs with
      | nil => exact Nat.le_refl _
      | cons r rs => exact nomatch h r List.mem_cons_self
    | cons Y ns ih =>
      intro rs h k
      have h1 : (rs.filter fun r => decide (r.a = Y)).length ≤ 4 := by
        have := k Y
        unfold rulesOf at this
        rw [List.length_map] at this
        exact this
      have h2 := ih (rs.filter fun r => !decide (r.a = Y)) (fun r hr => by
        rw [List.mem_filter] at hr
        have e : r.a ≠ Y := by simpa using hr.2
        exact (List.mem_cons.mp (h r hr.1)).resolve_left e) (fun X => by
        have : (rulesOf (rs.filter fun r => !decide (r.a = Y)) X).length ≤ (rulesOf rs X).length := by
          unfold rulesOf
          rw [List.length_map, List.length_map]
          exact ((List.filter_sublist).filter _).length_le
        exact Nat.le_trans this (k X))
      have h3 : rs.length = (rs.filter fun r => decide (r.a = Y)).length + (rs.filter fun r => !decide (r.a = Y)).length := by
        have := List.length_eq_countP_add_countP (p := fun r : Rul => decide (r.a = Y)) (l := rs)
        rw [List.countP_eq_length_filter, List.countP_eq_length_filter] at this
        rw [this]
        congr 2
        apply List.filter_congr
        intro r _
        by_cases e : r.a = Y <;> simp [e]
      rw [List.length_cons]
      omega
  exact h names rules I.left I.few
theorem PInv.fin (I : PInv names rules mk u) (F : Along (SwapR names mk u) rules' rules) (nd : rules'.Nodup) (h6 : names.length ≤ 6) : PFin names rules' mk u := by
  have M : Mkd (gmOf names rules') (dlk mk) := ⟨fun X m h => (I.dom X m h).1, fun X m h => (I.dom X m h).2.1, fun X m h x hx => ((I.dom X m h).2.2.2 x hx).2, fun X m h x hx => ((I.dom X m h).2.2.2 x hx).1⟩
  have len : rules.length ≤ 4 * names.length := I.rlen
  have few : ∀ X, (rulesOf rules' X).length ≤ 4 := fun X => by
    rw [rulesOf_len (fun a b h => h.a) X F]
    exact I.few X
  refine ⟨⟨⟨I.pos, h6, I.nd, I.each⟩, fun r hr => ?_, fun r hr => ?_, fun r hr => ?_, fun r hr x hx => ?_, nd, few, ?_⟩, ⟨fun X hX p hp => ?_, fun X hX => ?_, fun X hX p hp => ?_⟩, M, fun Y m h => ?_, I.le, I.wtk, I.keys, fun Y m h => (I.dom Y m h).2.2.1⟩
  · obtain ⟨q, hq, s⟩ := F.to hr
    rw [s.a]; exact I.left q hq
  · obtain ⟨q, hq, s⟩ := F.to hr
    rw [s.b]; exact I.letter q hq
  · obtain ⟨q, hq, s⟩ := F.to hr
    rw [s.len]; exact I.short q hq
  · obtain ⟨q, hq, s⟩ := F.to hr
    exact s.over x hx
  · rw [F.len]
    omega
  · have hp : p ∈ rulesOf rules' X := hp
    obtain ⟨q, hq, s⟩ := F.to (mem_rulesOf.mp hp)
    exact fun x hx => s.over x hx
  · obtain ⟨p, hp, e⟩ := I.nms.n1 X hX
    obtain ⟨p', hp', _, _, e2⟩ := swap_fro F hp
    exact ⟨p', hp', by rw [e2]; exact e⟩
  · obtain ⟨q, hq, _, _, e2⟩ := swap_to F hp
    rw [e2]
    exact I.nms.n2 X hX q hq
  · cases m with
    | nil => exact absurd rfl (I.dom Y [] h).2.1
    | cons m1 rest =>
      have hrest : out (dlk mk) rest = rest := out_self fun x hx => ((I.dom Y _ h).2.2.2 x (List.mem_cons_of_mem _ hx)).2
      refine ⟨fun l x' s => ?_, fun l y' s => ?_⟩
      · obtain ⟨more', hm', rfl⟩ := stp_cons.mp s
        rw [List.append_nil]
        obtain ⟨p, hp, e1, e2, _⟩ := swap_to F (p' := (l, more')) hm'
        obtain ⟨q, hq, rfl⟩ := (I.steps Y m1 rest h p).mp hp
        obtain ⟨q', hq', e3, e4, _⟩ := swap_fro F hq
        have e1 : l = q.1 := e1
        have e2 : out (dlk mk) more' = q.2 ++ rest := e2
        refine ⟨q'.2 ++ rest, stp_cons.mpr ⟨q'.2, ?_, rfl⟩, ?_⟩
        · have : (l, q'.2) = q' := by rw [e1, ← e3]
          show (l, q'.2) ∈ rulesOf rules' m1
          rw [this]
          exact hq'
        · rw [e2, out_append, e4, hrest]
      · obtain ⟨more', hm', rfl⟩ := stp_cons.mp s
        obtain ⟨q, hq, e1, e2, _⟩ := swap_to F (p' := (l, more')) hm'
        have hp := (I.steps Y m1 rest h (q.1, q.2 ++ rest)).mpr ⟨q, hq, rfl⟩
        obtain ⟨p', hp', e3, e4, _⟩ := swap_fro F hp
        have e1 : l = q.1 := e1
        have e2 : out (dlk mk) more' = q.2 := e2
        refine ⟨p'.2 ++ [], stp_cons.mpr ⟨p'.2, ?_, rfl⟩, ?_⟩
        · have : (l, p'.2) = p' := by rw [e1]; exact Prod.ext e3.symm rfl
          show (l, p'.2) ∈ rulesOf rules' Y
          rw [this]
          exact hp'
        · rw [List.append_nil, e4, out_append, e2, hrest]
/-- the grammar's data as the program keeps it -/
abbrev grOf (names : List Str) (rules : List Rul) : Gr := ⟨names, storedOf names rules⟩
theorem gm_of (ok : GOk names rules) : (grOf names rules).gm = gmOf names rules := by
  have : (fun X => (dlk (storedOf names rules) X).getD []) = rulesOf rules := by
    funext X
    by_cases e : X ∈ names
    · rw [show dlk (storedOf names rules) X = _ from dlk_mapF e]
      rfl
    · rw [rulesOf_nil_of fun r hr z => e (by rw [← z]; exact ok.left r hr)]
      cases q : dlk (storedOf names rules) X with
      | none => rfl
      | some rs =>
        have : X ∈ (storedOf names rules).map (·.1) := dlk_isSome.mp (by rw [q]; rfl)
        unfold storedOf at this
        rw [List.map_map] at this
        obtain ⟨Z, hZ, rfl⟩ := List.mem_map.mp this
        exact absurd hZ e
  show (⟨names, _⟩ : Gm Str Str) = ⟨names, _⟩
  rw [this]
theorem gsm_of (ok : GOk names rules) : GSm (grOf names rules) := by
  have key : ∀ X rs, dlk (storedOf names rules) X = some rs → X ∈ names ∧ rs = rulesOf rules X := fun X rs h => by
    have hX : X ∈ names := by
      have : X ∈ (storedOf names rules).map (·.1) := dlk_isSome.mp (by rw [h]; rfl)
      unfold storedOf at this
      rw [List.map_map] at this
      obtain ⟨Z, hZ, rfl⟩ := List.mem_map.mp this
      exact hZ
    rw [show dlk (storedOf names rules) X = _ from dlk_mapF hX] at h
    exact ⟨hX, (Option.some.inj h).symm⟩
  refine ⟨fun X rs h => ?_, fun X rs h r hr => ?_, fun X rs h r hr x hx => ?_, ?_, ok.nok.nd, Nat.le_trans ok.nok.few (by decide)⟩
  · obtain ⟨_, rfl⟩ := key X rs h
    exact Nat.le_trans (ok.few X) (by decide)
  · obtain ⟨_, rfl⟩ := key X rs h
    exact Nat.le_trans (ok.short _ (mem_rulesOf.mp hr)) (by decide)
  · obtain ⟨_, rfl⟩ := key X rs h
    have := ok.row _ (mem_rulesOf.mp hr) x hx
    show (dlk (storedOf names rules) x).isSome = true
    rw [show dlk (storedOf names rules) x = _ from dlk_mapF this]
    rfl
  · show (storedOf names rules).map (·.1) = names
    unfold storedOf
    rw [List.map_map]
    exact List.map_id' _
theorem PFin.wok (F : PFin names rules mk u) : WOk (grOf names rules) u := by
  refine ⟨by rw [gm_of F.ok]; exact F.nms, gsm_of F.ok, fun z => ?_, F.le⟩
  have := F.ok.nok.pos
  have z : names = [] := z
  rw [z] at this
  exact absurd this (by decide)
/-- the base that is told holds, and tells the two alike -/
theorem PFin.last (F : PFin names rules mk u) : Mkd (gmOf names rules) (dlk (lastB (grOf names rules) u)) ∧ Hlds (gmOf names rules) (dlk (lastB (grOf names rules) u)) ∧ ((lastB (grOf names rules) u).map (·.1)).Nodup ∧
    ∀ x y, Over (gmOf names rules) x → Over (gmOf names rules) y → out (dlk mk) x = out (dlk mk) y → out (dlk (lastB (grOf names rules) u)) x = out (dlk (lastB (grOf names rules) u)) y := by
  have W := F.wok
  have O := ordN_ok W.gs u
  obtain ⟨K, h1, h2⟩ := lastBase_ok W.nms canon O
  rw [gm_of F.ok] at h1 h2
  have K2 := K.mkd
  rw [gm_of F.ok] at K2
  refine ⟨?_, ?_, K.keys, fun x y hx hy e => ?_⟩
  · show Mkd _ (dlk (lastBase (grOf names rules).gm cn u (ordN (grOf names rules) u)))
    rw [gm_of F.ok]
    exact K2
  · show Hlds _ (dlk (lastBase (grOf names rules).gm cn u (ordN (grOf names rules) u)))
    rw [gm_of F.ok]
    exact h1
  · show out (dlk (lastBase (grOf names rules).gm cn u (ordN (grOf names rules) u))) x = out (dlk (lastBase (grOf names rules).gm cn u (ordN (grOf names rules) u))) y
    rw [gm_of F.ok]
    exact h2 _ (hlds_bis F.nms F.mkd F.hlds) x y ⟨hx, hy, e⟩
end
end SG

set_option Elab.async false
set_option linter.all false
set_option maxRecDepth 100000
set_option maxHeartbeats 4000000
set_option autoImplicit false
/-! The law's own: digits, the state that gives them. -/
namespace SG
open PySem PySem.Spec PyProof.Rows L2 LamX C8
abbrev sDigits : Stmt := top 49
abbrev sNextOf : Stmt := top 50
def spDigits (T : List (Addr × Str)) : Sp := fun vs H Q _ => ∃ (c : Int) (n : Nat), vs = [.int c, .int (n : Int)] ∧ n ≤ 1000 ∧ ∀ ds : List Int, ds.length = n → (∀ d ∈ ds, 0 ≤ d) → Ret T H Q ds
/-- the state: digits, and where one is -/
def Stt (H : Hp) (s D : Addr) (ds : List Int) : Prop := (∃ i : Int, H s = some (.lst [.ref D, .int i])) ∧ H D = some (.lst (ds.map V.int)) ∧ ds ≠ [] ∧ ∀ d ∈ ds, 0 ≤ d
/-- the state goes on, all else stays -/
def Nx (T : List (Addr × Str)) (s D : Addr) (H H' : Hp) : Prop := Sm T (hid H s) H' ∧ ∃ i : Int, H' s = some (.lst [.ref D, .int i])
def spNextOf (T : List (Addr × Str)) : Sp := fun vs H Q _ => ∃ (s D : Addr) (ds : List Int), vs = [.ref s] ∧ Stt H s D ds ∧ ∀ (d : Nat) H', Nx T s D H H' → Q (.int (d : Int)) H'
section
variable {T : List (Addr × Str)} {H H1 H2 : Hp} {s D p : Addr} {ds : List Int}
theorem Stt.ne (h : Stt H s D ds) : D ≠ s := fun e => by
  obtain ⟨⟨i, h1⟩, h2, h3, _⟩ := h
  rw [e, h1] at h2
  cases ds with
  | nil => exact h3 rfl
  | cons d ds =>
    injection h2 with h2
    injection h2 with h2
    injection h2 with h2
    cases h2
theorem Nx.kp (h : Nx T s D H H1) : Kp (hid H s) H1 := h.1.kp
theorem Nx.keep (h : Nx T s D H H1) {b : Addr} {o : HO} (e : H b = some o) (n : b ≠ s) (t : ∀ ps, o ≠ .tbl ps) : H1 b = some o := h.1.kp b o (by rw [hid_ne n]; exact e) t
theorem Nx.stt (h : Nx T s D H H1) (k : Stt H s D ds) : Stt H1 s D ds := ⟨h.2, h.keep k.2.1 k.ne (fun _ z => nomatch z), k.2.2⟩
theorem hid_sm (e : Sm T (hid H s) H1) (h1 : ∃ i : Int, H1 s = some (.lst [.ref D, .int i])) : Sm T (hid H s) (hid H1 s) where
  kp := fun b o q n => by
    by_cases z : b = s
    · rw [z, hid_at] at q; cases q
    · rw [hid_ne z]; exact e.kp b o q n
  fr := fun b q => by
    by_cases z : b = s
    · rw [z]; exact hid_at
    · rw [hid_ne z] at q; exact e.fr b q
  tb := fun t q hq => by
    obtain ⟨ps, a, b, c⟩ := e.tb t q hq
    obtain ⟨i, h1⟩ := h1
    have n1 : q.1 ≠ s := fun z => by rw [z, h1] at a; cases a
    refine ⟨ps, by rw [hid_ne n1]; exact a, b, fun pos cv hc => ?_⟩
    obtain ⟨d, e1, e2⟩ := c pos cv hc
    have n2 : d ≠ s := fun z => by
      rw [z, h1] at e2
      have := Option.some.inj e2
      unfold CodeO at this
      cases this
    exact ⟨d, e1, by rw [hid_ne n2]; exact e2⟩
theorem Nx.trans (a : Nx T s D H H1) (b : Nx T s D H1 H2) : Nx T s D H H2 := ⟨(hid_sm a.1 a.2).trans b.1, b.2⟩
theorem sm_hid (e : Sm T H H1) (h : ∃ i : Int, H s = some (.lst [.ref D, .int i])) : Sm T (hid H s) H1 := Sm.trans (Sm.of fun b o q => by
  by_cases z : b = s
  · rw [z, hid_at] at q; cases q
  · rw [hid_ne z] at q; exact q) e
theorem Nx.of (e : Sm T H H1) (h : Stt H s D ds) : Nx T s D H H1 := by
  obtain ⟨⟨i, h1⟩, h2⟩ := h
  exact ⟨sm_hid e ⟨i, h1⟩, i, e.lst h1⟩
theorem Nx.sm (a : Nx T s D H H1) (b : Sm T H1 H2) : Nx T s D H H2 := ⟨a.1.trans b, by
  obtain ⟨i, h⟩ := a.2
  exact ⟨i, b.lst h⟩⟩
theorem Nx.mut {o u : HO} (a : Nx T s D H H1) (hp : H p = Option.none) (hu : H1 p = some u) (n : Own u) (ns : p ≠ s) : Nx T s D H (upd H1 p o) := ⟨a.1.mut (by rw [hid_ne ns]; exact hp) hu n, by
  obtain ⟨i, h⟩ := a.2
  exact ⟨i, by rw [upd_ne ns.symm]; exact h⟩⟩
theorem Nx.tb (a : Nx T s D H H1) (h : Tabs T (hid H s)) : Tabs T H1 := a.1.tb h
end
section
variable {P : Program} {w : World} {K : PySem.W.Frag} {mg : Str → Option Value} {base : Heap} {T : List (Addr × Str)}
theorem scDigits : FnScope ["_law_cell_here", "_law_many", "_law_row", "_law_rest", "_law_number", "_law_k"] ["_law_cell_here", "_law_many"] (fnScope sDigits) := fnScope_by (by decide +kernel)
theorem cal_digits (X : Gs mg) (F : DefB K mg "_law_digits" sDigits ["_law_cell_here", "_law_many"]) : Cal P w K mg base 1 "_law_digits" (spDigits T) [] := by
  refine cal_of F scDigits (fun vs H Q E h => ?_) (fun f cdv A outer s H vs Q E hr h => ?_)
  · obtain ⟨c, n, rfl, _⟩ := h
    rfl
  · obtain ⟨c, n, rfl, hn, k⟩ := h
    refine ⟨_, pss_cons (ps_set (i := 2) scDigits.nd rfl (Or.inl rfl) (pe_lst pa_nil)) (pss_cons (ps_set (i := 3) scDigits.nd rfl (Or.inl rfl) pe_int)
      (pss_cons (ps_if (pt_cmpR op_ge (pv 0) (pe_op op_pow pe_int pe_int) (nomark _)) (pss_one (ps_set (i := 3) scDigits.nd rfl (Or.inl rfl) (pv 0))) pss_nil)
      (pss_cons (ps_set (i := 4) scDigits.nd rfl (Or.inl rfl) (pe_op op_mod (pv 0) pe_int))
      (pss_cons (ps_for PassesOwn.never rfl (pi_range1 (by rfl) X.range (pa_cons (pv 1) pa_nil)) (pg_name (i := 5) scDigits.nd rfl (Or.inl rfl))
        (pss_cons (ps_set (i := 4) scDigits.nd rfl (Or.inl rfl) (pe_op op_mod (pe_op op_add (pe_op op_add (pe_op op_mul (pv 4) pe_int) (pe_op op_mul pe_int (pv 5))) pe_int) pe_int))
        (pss_cons (ps_set (i := 4) scDigits.nd rfl (Or.inl rfl) (pe_op op_mod (pe_op op_mul (pv 4) (pe_op op_add (pe_op op_fdiv (pv 4) pe_int) pe_int)) pe_int))
        (pss_one (ps_if (pt_cmpR op_gt (pv 3) pe_int (nomark _))
          (pss_cons (ps_expr (pe_bm PySem.F.plainAttrs_list PySem.F.slot_list_append PySem.F.type_list_append mt_append (pv 2) (pa_cons (pe_op op_mod (pv 3) pe_int) pa_nil))) (pss_one (ps_set (i := 3) scDigits.nd rfl (Or.inl rfl) (pe_op op_fdiv (pv 3) pe_int))))
          (pss_one (ps_expr (pe_bm PySem.F.plainAttrs_list PySem.F.slot_list_append PySem.F.type_list_append mt_append (pv 2) (pa_cons (pe_op op_mod (pe_op op_fdiv (pv 4) pe_int) pe_int) pa_nil)))))))))
      (pss_one (ps_ret (pv 2))))))), ?_⟩
    refine ⟨Nat.zero_le _, fun D hD => ?_⟩
    refine ⟨_, rfl, _, _, rfl, rfl, ⟨by decide, by decide, by decide⟩, _, _, rfl, rfl, _, rfl, ?_⟩
    have hpow : (10 : Int) ^ (18 : Int).toNat = 1000000000000000000 := by decide
    rw [hpow]
    have hl0 : (D : Addr) = D := rfl
    cases hd : decide ((1000000000000000000 : Int) ≤ c)
    case' false =>
      refine iteF ?_
      have hc0 : (0 : Int) ≤ 0 := Int.le_refl 0
    case' true =>
      refine iteT ?_
      have hc0 : (0 : Int) ≤ c := by
        have := of_decide_eq_true hd
        omega
      refine ⟨_, rfl, ?_⟩
    all_goals
      refine ⟨_, rfl, _, _, rfl, rfl, (by show (0 : Int) < _; decide), ?_⟩
      refine ⟨_, rfl, _, rfl, by omega, by omega, ?_⟩
      have e0 : ((n : Int)).toNat = n := rfl
      rw [e0]
      refine for_range (lo := 0) (n := n) (fun i σ H' => ∃ (r m : Int) (z : Option V) (ds : List Int), σ = [some (.int c), some (.int (n : Int)), some (.ref D), some (.int r), some (.int m), z] ∧ 0 ≤ r ∧ 0 ≤ m ∧ m < 2147483647 ∧ Sm T H H' ∧ H' D = some (.lst (ds.map V.int)) ∧ ds.length = i ∧ ∀ d ∈ ds, 0 ≤ d)
        ⟨_, _, _, [], rfl, hc0, Int.emod_nonneg _ (by decide), Int.emod_lt_of_pos _ (by decide), Sm.new hD, upd_same, rfl, fun d hd => nomatch hd⟩ ?_ ?_
      · rintro i σ H1 hi ⟨r, m, z, ds, rfl, hr0, hm0, hm1, s1, h1, h2, h3⟩
        refine ⟨_, rfl, _, _, rfl, rfl, .inr ⟨by decide, by decide⟩, _, rfl, _, _, rfl, rfl, .inl ⟨by decide, by decide⟩, _, _, rfl, rfl, _, _, rfl, rfl, _, _, rfl, rfl, (by show (0 : Int) < _; decide), ?_⟩
        refine ⟨_, rfl, _, rfl, _, _, rfl, rfl, ⟨by decide, by decide⟩, _, _, rfl, rfl, _, _, rfl, rfl, .inl ⟨by omega, by omega⟩, _, _, rfl, rfl, (by show (0 : Int) < _; decide), ?_⟩
        have hlen : (ds.map V.int).length < sizeLine := by
          rw [List.length_map, h2]
          exact Nat.lt_of_lt_of_le hi (Nat.le_trans hn (by decide))
        have more : ∀ v : Int, 0 ≤ v → (upd H1 D (.lst (ds.map V.int ++ [.int v]))) D = some (.lst ((ds ++ [v]).map V.int)) ∧ (ds ++ [v]).length = i + 1 ∧ ∀ d ∈ ds ++ [v], 0 ≤ d := fun v hv => by
          refine ⟨by rw [upd_same, List.map_append]; rfl, by rw [List.length_append, h2]; rfl, fun d hd => ?_⟩
          rcases List.mem_append.mp hd with q | q
          · exact h3 d q
          · rw [List.mem_singleton.mp q]; exact hv
        refine ⟨_, rfl, _, _, rfl, rfl, _, rfl, ?_⟩
        cases hq : decide ((0 : Int) < r)
        · refine iteF ?_
          refine ⟨_, rfl, .inl ⟨rfl, _, SqL.of h1⟩, _, rfl, _, _, rfl, rfl, ⟨by decide, by decide⟩, _, _, rfl, rfl, (by show (0 : Int) < _; decide), D, _, _, rfl, rfl, h1, hlen, ?_⟩
          exact ⟨_, _, _, _, rfl, hr0, Int.emod_nonneg _ (by decide), Int.lt_trans (Int.emod_lt_of_pos _ (by decide)) (by decide), s1.mut hD h1 True.intro, more _ (Int.emod_nonneg _ (by decide))⟩
        · refine iteT ?_
          refine ⟨_, rfl, .inl ⟨rfl, _, SqL.of h1⟩, _, rfl, _, _, rfl, rfl, (by show (0 : Int) < _; decide), D, _, _, rfl, rfl, h1, hlen, ?_⟩
          refine ⟨_, rfl, _, _, rfl, rfl, ⟨by decide, by decide⟩, ?_⟩
          exact ⟨_, _, _, _, rfl, Int.ediv_nonneg hr0 (by decide), Int.emod_nonneg _ (by decide), Int.lt_trans (Int.emod_lt_of_pos _ (by decide)) (by decide), s1.mut hD h1 True.intro, more _ (Int.emod_nonneg _ (by decide))⟩
      · rintro σ H1 ⟨r, m, z, ds, rfl, hr0, hm0, hm1, s1, h1, h2, h3⟩
        exact ⟨_, rfl, k ds h2 h3 _ _ s1 ⟨D, _, rfl, by rw [dif_new hD]; exact h1, ints_at.mpr rfl⟩⟩
theorem scNextOf : FnScope ["_law_state"] ["_law_state"] (fnScope sNextOf) := fnScope_by (by decide +kernel)
theorem mod_at {α : Type} {xs : List α} (h : xs ≠ []) (i : Int) : ∃ (j : Nat) (x : α), i % (xs.length : Int) = (j : Int) ∧ xs[j]? = some x := by
  have hl : 0 < xs.length := List.length_pos_iff.mpr h
  have h1 := Int.emod_nonneg i (show (xs.length : Int) ≠ 0 by omega)
  have h2 := Int.emod_lt_of_pos i (show (0 : Int) < xs.length by omega)
  refine ⟨(i % (xs.length : Int)).toNat, xs[(i % (xs.length : Int)).toNat]'(by omega), by omega, List.getElem?_eq_getElem (by omega)⟩
theorem cal_next_of (X : Gs mg) (F : DefB K mg "_law_next_of" sNextOf ["_law_state"]) : Cal P w K mg base 1 "_law_next_of" (spNextOf T) [] := by
  refine cal_of F scNextOf (fun vs H Q E h => ?_) (fun f cdv A outer s H vs Q E hr h => ?_)
  · obtain ⟨s, D, ds, rfl, _⟩ := h
    rfl
  · obtain ⟨a, D, ds, rfl, st, k⟩ := h
    have hne := st.ne
    obtain ⟨⟨i, h1⟩, h2, h3, h4⟩ := st
    refine ⟨_, pss_cons (ps_asg (pe_op op_add (pe_ix ix_list (pv 0) pe_int (fun _ _ => rfl)) pe_int) (pg_sub (pv 0) pe_int set_list))
      (pss_one (ps_ret (pe_ix ix_list (pe_ix ix_list (pv 0) pe_int (fun _ _ => rfl)) (pe_op op_mod (pe_ix ix_list (pv 0) pe_int (fun _ _ => rfl)) (pe_lenK K rfl (by rfl) X.len (pa_cons (pe_ix ix_list (pv 0) pe_int (fun _ _ => rfl)) pa_nil))) (fun _ _ => rfl)))), ?_⟩
    refine ⟨_, rfl, a, _, 1, _, rfl, rfl, SqL.of h1, atI_nat (j := 1) rfl, i, 1, rfl, rfl, _, rfl, a, _, 1, 1, rfl, rfl, h1, rfl, ?_⟩
    have n1 : upd H a (.lst [.ref D, .int (i + 1)]) D = some (.lst (ds.map V.int)) := by rw [upd_ne hne]; exact h2
    obtain ⟨j, d, e1, e2⟩ := mod_at h3 (i + 1)
    have hd : 0 ≤ d := h4 d (List.mem_of_getElem? e2)
    refine ⟨_, rfl, a, _, 0, _, rfl, rfl, SqL.of upd_same, atI_nat (j := 0) rfl, _, rfl, a, _, 1, _, rfl, rfl, SqL.of upd_same, atI_nat (j := 1) rfl, _, rfl, a, _, 0, _, rfl, rfl, SqL.of upd_same, atI_nat (j := 0) rfl, D, _, rfl, .inl (SqL.of n1), _, _, rfl, rfl, ?_, D, _, _, .int d, rfl, rfl, SqL.of n1, ?_, ?_⟩
    · rw [List.length_map]
      have := List.length_pos_iff.mpr h3
      omega
    · rw [List.length_map, e1]
      exact atI_nat (by rw [List.getElem?_map, e2]; rfl)
    · have e3 : d = (d.toNat : Int) := by omega
      rw [e3]
      refine k d.toNat _ ⟨⟨fun b o q n => ?_, fun b q => ?_, fun t => ?_⟩, i + 1, upd_same⟩
      · by_cases z : b = a
        · rw [z, hid_at] at q; cases q
        · rw [hid_ne z] at q; rw [upd_ne z]; exact q
      · by_cases z : b = a
        · rw [z]; exact hid_at
        · rw [upd_ne z] at q; rw [hid_ne z]; exact q
      · refine t.ext fun b o q => ?_
        by_cases z : b = a
        · rw [z, hid_at] at q; cases q
        · rw [hid_ne z] at q; rw [upd_ne z]; exact q
end
end SG

set_option Elab.async false
set_option linter.all false
set_option maxRecDepth 100000
set_option maxHeartbeats 4000000
set_option autoImplicit false
/-! The law's own: names called, rows drawn. -/
namespace SG
open PySem PySem.Spec PyProof.Rows L2 LamX C8
abbrev sCalled : Stmt := top 51
abbrev sDrawn : Stmt := top 52
/-- a base name: small letters and one of the first six at its end -/
def baseName (k : Nat) (x : Str) : Prop := k < 6 ∧ ∃ w : Str, smallT w ∧ w.length ≤ 7 ∧ x = w ++ (⟨#[97 + k]⟩ : Str)
theorem tl_snoc (w : Str) (c : Nat) : (w ++ (⟨#[c]⟩ : Str)).cps.toList = w.cps.toList ++ [c] := by
  exact TL.tl_append w ⟨#[c]⟩
theorem str_len (x : Str) : x.length = x.cps.toList.length := by
  simp [Str.length]
theorem smallT_snoc {w : Str} {c : Nat} (h : smallT w) (hc : c ∈ abc.cps.toList) : smallT (w ++ (⟨#[c]⟩ : Str)) := fun d hd => by
  rw [tl_snoc] at hd
  rcases List.mem_append.mp hd with z | z
  · exact h d z
  · rw [List.mem_singleton.mp z]; exact hc
theorem abc_list : abc.cps.toList = [97, 98, 99, 100, 101, 102, 103, 104, 105, 106, 107, 108, 109, 110, 111, 112, 113, 114, 115, 116, 117, 118, 119, 120, 121, 122] := by decide +kernel
theorem abc_mem {c : Nat} (h1 : 97 ≤ c) (h2 : c ≤ 122) : c ∈ abc.cps.toList := by
  rw [abc_list]
  have : c = 97 ∨ c = 98 ∨ c = 99 ∨ c = 100 ∨ c = 101 ∨ c = 102 ∨ c = 103 ∨ c = 104 ∨ c = 105 ∨ c = 106 ∨ c = 107 ∨ c = 108 ∨ c = 109 ∨ c = 110 ∨ c = 111 ∨ c = 112 ∨ c = 113 ∨ c = 114 ∨ c = 115 ∨ c = 116 ∨ c = 117 ∨ c = 118 ∨ c = 119 ∨ c = 120 ∨ c = 121 ∨ c = 122 := by omega
  simp
  omega
theorem names_tl : ("names" : Str).cps.toList = [110, 97, 109, 101, 115] := by decide +kernel
theorem baseName.last {k : Nat} {x : Str} (h : baseName k x) : ∃ l, x.cps.toList = l ++ [97 + k] := by
  obtain ⟨_, w, _, _, rfl⟩ := h
  exact ⟨_, tl_snoc w _⟩
theorem baseName.inj {j k : Nat} {x : Str} (h : baseName j x) (h' : baseName k x) : j = k := by
  obtain ⟨l, e⟩ := h.last
  obtain ⟨l', e'⟩ := h'.last
  rw [e] at e'
  have := List.append_inj' e' rfl
  have h3 : 97 + j = 97 + k := by simpa using this.2
  omega
theorem baseName.name {k : Nat} {x : Str} (h : baseName k x) : nameT x := by
  obtain ⟨hk, w, hs, hl, rfl⟩ := h
  have e : (w ++ (⟨#[97 + k]⟩ : Str)).length = w.length + 1 := by rw [str_len, tl_snoc, List.length_append, str_len]; rfl
  refine ⟨by omega, by omega, smallT_snoc hs (abc_mem (by omega) (by omega)), fun z => ?_⟩
  have e2 := congrArg (fun s : Str => s.cps.toList) z
  have e2 : (w ++ (⟨#[97 + k]⟩ : Str)).cps.toList = ("names" : Str).cps.toList := e2
  rw [tl_snoc, names_tl] at e2
  have : w.cps.toList ++ [97 + k] = [110, 97, 109, 101] ++ [115] := e2
  have := (List.append_inj' this rfl).2
  have : 97 + k = 115 := by simpa using this
  omega
/-- the k-th is a base name at k -/
def Called (ns : List Str) : Prop := ∀ (k : Nat) (x : Str), ns[k]? = some x → baseName k x
theorem Called.nd {ns : List Str} (h : Called ns) : ns.Nodup := by
  rw [List.Nodup, List.pairwise_iff_getElem]
  intro i j hi hj lt e
  have h1 := h i _ (List.getElem?_eq_getElem hi)
  have h2 := h j _ (List.getElem?_eq_getElem hj)
  rw [e] at h1
  have := h1.inj h2
  omega
def spCalled (T : List (Addr × Str)) : Sp := fun vs H Q _ => ∃ (s D : Addr) (ds : List Int) (n : Nat), vs = [.ref s, .int (n : Int)] ∧ Stt H s D ds ∧ n ≤ 6 ∧ ∀ (ns : List Str) v H', ns.length = n → Called ns → Nx T s D H H' → At (dif H' H) v ns → Q v H'
def spDrawn (T : List (Addr × Str)) : Sp := fun vs H Q _ => ∃ (s D : Addr) (ds : List Int) (v : V) (ns : List Str), vs = [.ref s, v, .int 3] ∧ Stt H s D ds ∧ At (hid H s) v ns ∧ ns.length ≤ 1000 ∧ ∀ (row : List Str) v' H', row.length ≤ 3 → (∀ x ∈ row, x ∈ ns) → Nx T s D H H' → At (dif H' H) v' row → Q v' H'
section
variable {P : Program} {w : World} {K : PySem.W.Frag} {mg : Str → Option Value} {base : Heap} {T : List (Addr × Str)}
theorem scCalled : FnScope ["_law_state", "_law_many", "_law_names", "_law_k", "_law_word", "_law_j"] ["_law_state", "_law_many"] (fnScope sCalled) := fnScope_by (by decide +kernel)
theorem pick {α : Type} {xs : List α} {n : Nat} (h : xs.length = n) (hn : 0 < n) (d : Int) : ∃ x ∈ xs, atI xs (d % (n : Int)) = some x := by
  have ne : xs ≠ [] := fun z => by rw [z] at h; rw [← h] at hn; exact absurd hn (Nat.lt_irrefl 0)
  obtain ⟨j, x, e1, e2⟩ := mod_at ne d
  rw [h] at e1
  exact ⟨x, List.mem_of_getElem? e2, by rw [e1]; exact atI_nat e2⟩
theorem abcdef_at : ∀ i : Nat, i < 6 → ("abcdef" : Str).cps.toList[i]? = some (97 + i) := by decide +kernel
theorem cal_called (X : Gs mg) (cNx : Cal P w K mg base 1 "_law_next_of" (spNextOf T) []) (F : DefB K mg "_law_called" sCalled ["_law_state", "_law_many"]) : Cal P w K mg base 2 "_law_called" (spCalled T) [] := by
  refine cal_of F scCalled (fun vs H Q E h => ?_) (fun f cdv A outer s H vs Q E hr h => ?_)
  · obtain ⟨s, D, ds, n, rfl, _⟩ := h
    rfl
  · obtain ⟨a, D, ds, n, rfl, st, hn, k⟩ := h
    refine ⟨_, pss_cons (ps_set (i := 2) scCalled.nd rfl (Or.inl rfl) (pe_lst pa_nil))
      (pss_cons (ps_for PassesOwn.never rfl (pi_range1 (by rfl) X.range (pa_cons (pv 1) pa_nil)) (pg_name (i := 3) scCalled.nd rfl (Or.inl rfl))
        (pss_cons (ps_set (i := 4) scCalled.nd rfl (Or.inl rfl) pe_str)
        (pss_cons (ps_for PassesOwn.never rfl (pi_range1 (by rfl) X.range (pa_cons (pe_op op_mod (pe_c cNx hr (by decide) rfl (pa_cons (pv 0) pa_nil)) pe_int) pa_nil)) (pg_name (i := 5) scCalled.nd rfl (Or.inl rfl))
          (pss_one (ps_set (i := 4) scCalled.nd rfl (Or.inl rfl) (pe_op op_add_str (pv 4) (pe_ix ix_str pe_str (pe_op op_mod (pe_c cNx hr (by decide) rfl (pa_cons (pv 0) pa_nil)) pe_int) (fun _ _ => rfl))))))
        (pss_one (ps_expr (pe_bm PySem.F.plainAttrs_list PySem.F.slot_list_append PySem.F.type_list_append mt_append (pv 2) (pa_cons (pe_op op_add_str (pv 4) (pe_ix ix_str pe_str (pv 3) (fun _ _ => rfl))) pa_nil)))))))
      (pss_one (ps_ret (pv 2)))), ?_⟩
    refine ⟨Nat.zero_le _, fun L hL => ⟨_, rfl, _, rfl, by omega, by omega, ?_⟩⟩
    have hLa : L ≠ a := fun e => by
      obtain ⟨⟨i, h1⟩, _⟩ := st
      rw [e, h1] at hL
      cases hL
    have e0 : ((n : Int)).toNat = n := rfl
    rw [e0]
    refine for_range (lo := 0) (n := n) (fun i σ H' => ∃ (ns : List Str) (z3 z4 z5 : Option V), σ = [some (.ref a), some (.int (n : Int)), some (.ref L), z3, z4, z5] ∧ Nx T a D H H' ∧ H' L = some (.lst (ns.map V.str)) ∧ ns.length = i ∧ Called ns)
      ⟨[], _, _, _, rfl, Nx.of (Sm.new hL) st, upd_same, rfl, fun k x h => by simp at h⟩ ?_ ?_
    · rintro i σ H1 hi ⟨ns, z3, z4, z5, rfl, x1, h1, h2, h3⟩
      refine ⟨_, rfl, a, D, ds, rfl, x1.stt st, fun d H2 x2 => ⟨_, _, rfl, rfl, (by show (0 : Int) < _; decide), _, rfl, by omega, by omega, ?_⟩⟩
      have h12 := x2.keep h1 hLa (fun _ z => nomatch z)
      have x12 := x1.trans x2
      refine for_range (lo := 0) (n := ((d : Int) % 8).toNat) (fun j σ H' => ∃ (wd : Str) (z5 : Option V), σ = [some (.ref a), some (.int (n : Int)), some (.ref L), some (.int (0 + (i : Nat))), some (.str wd), z5] ∧ Nx T a D H H' ∧ H' L = some (.lst (ns.map V.str)) ∧ smallT wd ∧ wd.length = j)
        ⟨_, _, rfl, x12, h12, (fun c hc => nomatch hc), rfl⟩ ?_ ?_
      · rintro j σ H3 hj ⟨wd, y5, rfl, x3, h4, h5, h6⟩
        refine ⟨_, rfl, _, rfl, a, D, ds, rfl, x3.stt st, fun d2 H4 x4 => ⟨_, _, rfl, rfl, (by show (0 : Int) < _; decide), ?_⟩⟩
        obtain ⟨c, hc, ec⟩ := pick (xs := abc.cps.toList) (n := 26) (by rw [abc_list]; rfl) (by decide) (d2 : Int)
        have hm0 : j < 8 := by omega
        refine ⟨abc, _, c, rfl, rfl, by rw [str_len, abc_list]; decide, ec, wd, ⟨#[c]⟩, rfl, rfl, ?_, ?_⟩
        · show wd.length + 1 ≤ sizeLine
          rw [h6]
          exact Nat.le_trans (show j + 1 ≤ 100 by omega) (by decide)
        · exact ⟨_, _, rfl, x3.trans x4, x4.keep h4 hLa (fun _ z => nomatch z), smallT_snoc h5 hc, by rw [str_len, tl_snoc, List.length_append, ← str_len, h6]; rfl⟩
      · rintro σ H3 ⟨wd, y5, rfl, x3, h4, h5, h6⟩
        have h7 : wd.length ≤ 7 := by omega
        have hi6 : i < 6 := Nat.lt_of_lt_of_le hi hn
        refine ⟨_, rfl, .inl ⟨rfl, _, SqL.of h4⟩, _, rfl, _, rfl, ("abcdef" : Str), _, 97 + i, rfl, rfl, by decide +kernel, by rw [Int.zero_add]; exact atI_nat (abcdef_at i hi6), wd, ⟨#[97 + i]⟩, rfl, rfl, ?_, L, _, _, rfl, rfl, h4, ?_, ?_⟩
        · show wd.length + 1 ≤ sizeLine
          exact Nat.le_trans (show wd.length + 1 ≤ 100 by omega) (by decide)
        · rw [List.length_map, h2]
          exact Nat.lt_trans hi6 (by decide)
        · refine ⟨ns ++ [wd ++ (⟨#[97 + i]⟩ : Str)], _, _, _, rfl, x3.mut hL h4 True.intro hLa, by rw [upd_same, List.map_append]; rfl, by rw [List.length_append, h2]; rfl, fun q x hq => ?_⟩
          by_cases e : q < ns.length
          · rw [List.getElem?_append_left e] at hq
            exact h3 q x hq
          · rw [List.getElem?_append_right (by omega)] at hq
            have e2 : q = i := by
              by_cases z : q - ns.length = 0
              · omega
              · rw [List.getElem?_eq_none (by simp; omega)] at hq
                cases hq
            subst e2
            rw [h2, Nat.sub_self] at hq
            have hq : wd ++ (⟨#[97 + q]⟩ : Str) = x := Option.some.inj hq
            exact ⟨hi6, wd, h5, h7, hq.symm⟩
    · rintro σ H1 ⟨ns, z3, z4, z5, rfl, x1, h1, h2, h3⟩
      exact ⟨_, rfl, k ns _ _ h2 h3 x1 ⟨L, _, rfl, by rw [dif_new hL]; exact h1, strs_at.mpr rfl⟩⟩
theorem scDrawn : FnScope ["_law_state", "_law_names", "_law_most", "_law_k"] ["_law_state", "_law_names", "_law_most"] (fnScope sDrawn) := fnScope_by (by decide +kernel)
theorem cal_drawn (X : Gs mg) (cNx : Cal P w K mg base 1 "_law_next_of" (spNextOf T) []) (F : DefB K mg "_law_drawn" sDrawn ["_law_state", "_law_names", "_law_most"]) : Cal P w K mg base 2 "_law_drawn" (spDrawn T) [] := by
  refine cal_of F scDrawn (fun vs H Q E h => ?_) (fun f cdv A outer s H vs Q E hr h => ?_)
  · obtain ⟨s, D, ds, v, ns, rfl, _⟩ := h
    rfl
  · obtain ⟨a, D, ds, v, ns, rfl, st, hv, hnl, k⟩ := h
    have hu64 := hr.units
    obtain ⟨b, rfl, hb⟩ := hv.strs
    refine ⟨_, pss_one (ps_ret (pe_lc (own := [("_law_k", 3)]) rfl scDrawn.nd (pi_range1 (by rfl) X.range (pa_cons (pe_op op_mod (pe_c cNx hr (by decide) rfl (pa_cons (pv 0) pa_nil)) (pe_op op_add (pv 2) pe_int)) pa_nil))
      (blkOk_by (N := ["_law_state", "_law_names", "_law_most", "_law_k"]) (sc := fnScope sDrawn) (by decide +kernel))
      (fun _ _ _ _ _ => pg_name (i := 3) scDrawn.nd rfl (Or.inl rfl) (.inr rfl))
      (fun _ _ _ _ _ => pts_one (pt_cmpR (op_neT (List Str) hu64) (pv 1) (pe_lst pa_nil) (nomark _)))
      (fun _ _ _ _ _ => pe_ix (ix_listK K rfl) (pv 1) (pe_op op_mod (pe_c cNx hr (by decide) rfl (pa_cons (pv 0) pa_nil)) (pe_lenK K rfl (by rfl) X.len (pa_cons (pv 1) pa_nil))) (fun _ _ => rfl)))), ?_⟩
    refine ⟨_, rfl, a, D, ds, rfl, st, fun d H1 x1 => ⟨_, rfl, _, _, rfl, rfl, _, _, rfl, rfl, (by show (0 : Int) < 3 + 1; decide), _, rfl, ?_, ?_, fun L hL => ?_⟩⟩
    · show -(2 ^ 62) ≤ (d : Int) % (3 + 1)
      omega
    · show (d : Int) % (3 + 1) < 2 ^ 62
      omega
    have hLa : L ≠ a := fun e => by
      obtain ⟨i, h1⟩ := x1.2
      rw [e, h1] at hL
      cases hL
    have hL0 : H L = Option.none := by
      have := x1.1.fr _ hL
      rw [hid_ne hLa] at this
      exact this
    refine lc_range (lo := 0) (n := ((d : Int) % (3 + 1)).toNat) (fun i H' => ∃ row : List Str, Nx T a D H H' ∧ H' L = some (.lst (row.map V.str)) ∧ row.length ≤ i ∧ ∀ x ∈ row, x ∈ ns)
      ⟨[], x1.sm (Sm.new hL), upd_same, Nat.le_refl _, fun x h => nomatch h⟩ ?_ ?_
    · rintro i H2 hi ⟨row, x2, h1, h2, h3⟩
      have hb2 := x2.kp b _ hb (fun _ z => nomatch z)
      refine ⟨rfl, _, rfl, Nat.zero_le _, fun t ht => ⟨ns, [], ⟨b, _, rfl, by rw [upd_ne (ne_of_none hb2 ht)]; exact hb2, strs_at.mpr rfl⟩, ⟨t, [], rfl, upd_same, True.intro⟩, _, rfl, ?_⟩⟩
      have xt : Nx T a D H (upd H2 t (.lst [])) := x2.sm (Sm.new ht)
      have ht1 : L ≠ t := ne_of_none h1 ht
      by_cases e : ns = []
      · subst e
        refine iteF ⟨row, xt, by rw [upd_ne ht1]; exact h1, Nat.le_succ_of_le h2, h3⟩
      · have e1 : ∀ i : Decidable (ns = []), (!@decide _ i) = true := fun i => by rw [@decide_eq_false _ i e]; rfl
        rw [e1]
        refine iteT ⟨_, rfl, _, rfl, a, D, ds, rfl, xt.stt st, fun d2 H4 x4 => ?_⟩
        have xx := xt.trans x4
        have hb4 := xx.kp b _ hb (fun _ z => nomatch z)
        obtain ⟨x, hx, ex⟩ := pick (xs := ns) (n := ns.length) rfl (List.length_pos_iff.mpr e) (d2 : Int)
        have hx2 : atI (ns.map V.str) ((d2 : Int) % (((ns.map V.str).length : Nat) : Int)) = some (.str x) := by
          obtain ⟨j, y, q1, q2⟩ := mod_at e (d2 : Int)
          rw [q1, atI_nat q2] at ex
          cases ex
          rw [List.length_map, q1]
          exact atI_nat (by rw [List.getElem?_map, q2]; rfl)
        refine ⟨_, rfl, b, _, rfl, .inl (SqL.of hb4), _, _, rfl, rfl, ?_, b, _, _, _, rfl, rfl, SqL.of hb4, hx2, ?_⟩
        · have := List.length_pos_iff.mpr e
          show (0 : Int) < (((ns.map V.str).length : Nat) : Int)
          rw [List.length_map]
          omega
        · have h4 : H4 L = some (.lst (row.map V.str)) := x4.keep (show upd H2 t (.lst []) L = some (.lst (row.map V.str)) by rw [upd_ne ht1]; exact h1) hLa (fun _ z => nomatch z)
          refine ⟨_, h4, ?_, row ++ [x], xx.mut hL0 h4 True.intro hLa, by rw [upd_same, List.map_append]; rfl, by rw [List.length_append]; exact Nat.succ_le_succ h2, fun y hy => ?_⟩
          · rw [List.length_map]
            exact Nat.lt_of_le_of_lt (show row.length ≤ 100 by omega) (by decide)
          · rcases List.mem_append.mp hy with z | z
            · exact h3 y z
            · rw [List.mem_singleton.mp z]; exact hx
    · rintro H2 ⟨row, x2, h1, h2, h3⟩
      exact k row _ _ (by omega) h3 x2 ⟨L, _, rfl, by rw [dif_new hL0]; exact h1, strs_at.mpr rfl⟩
end
end SG

set_option Elab.async false
set_option linter.all false
set_option autoImplicit false
set_option maxHeartbeats 1000000
/-! The plain law of the base grammar. -/
namespace SG
open PySem PySem.Spec PyProof.Rows L2 LamX C8
structure BInv (ns : List Str) (rules : List Rul) (f : Str → Nat) : Prop where
  left : ∀ r ∈ rules, r.a ∈ ns
  letter : ∀ r ∈ rules, letterT r.b
  short : ∀ r ∈ rules, r.c.length ≤ 3
  rnd : rules.Nodup
  base : ∀ r ∈ rules, ∀ x ∈ r.c, x ∈ ns
  le : ∀ X ∈ ns, f X ≤ 12
theorem rulesOf_perm {a b : List Rul} (h : a.Perm b) (X : Str) : (rulesOf a X).Perm (rulesOf b X) := (h.filter _).map _
theorem BInv.pinv {ns names : List Str} {rules rules' : List Rul} {f : Str → Nat} (B : BInv ns rules f) (pre : ∀ X ∈ ns, ∃ r ∈ rules, r.a = X ∧ 1 + wt f r.c ≤ f X) (few : ∀ X, (rulesOf rules X).length ≤ 4) (C : Called ns) (pos : 1 ≤ ns.length)
    (pn : names.Perm ns) (pr : rules'.Perm rules) : ∃ u, PInv names rules' [] u := by
  have mem : ∀ {r}, r ∈ rules' → r ∈ rules := fun h => pr.mem_iff.mp h
  obtain ⟨u, W, hu⟩ := exists_nms (gmOf names rules') (fun X hX p hp x hx => pn.mem_iff.mpr (B.base _ (mem (mem_rulesOf.mp hp)) x hx)) _ f rfl fun X hX => by
    obtain ⟨r, hr, e, h⟩ := pre X (pn.mem_iff.mp hX)
    subst e
    exact ⟨(r.b, r.c), mem_rulesOf.mpr (pr.mem_iff.mpr hr), h⟩
  refine ⟨u, by rw [pn.length_eq]; exact pos, pn.nodup_iff.mpr C.nd, fun x hx => ?_, fun r hr => pn.mem_iff.mpr (B.left r (mem hr)), fun r hr => B.letter r (mem hr), fun r hr => B.short r (mem hr), pr.nodup_iff.mpr B.rnd, fun X => by rw [(rulesOf_perm pr X).length_eq]; exact few X,
    fun r hr x hx => ⟨pn.mem_iff.mpr (B.base r (mem hr) x hx), rfl⟩, List.nodup_nil, fun Y m h => (nomatch h), fun Y a b h => (nomatch h), W, fun X hX => Nat.le_trans (hu X hX) (B.le X (pn.mem_iff.mp hX)), fun Y m h => (nomatch h)⟩
  obtain ⟨i, hi, e⟩ := List.mem_iff_getElem.mp (pn.mem_iff.mp hx)
  exact (C i x (by rw [List.getElem?_eq_getElem hi, e])).name
theorem rot_perm {α : Type} (xs : List α) (n : Nat) : (xs.drop n ++ xs.take n).Perm xs := by
  have := List.perm_append_comm (l₁ := xs.drop n) (l₂ := xs.take n)
  rw [List.take_append_drop] at this
  exact this
/-- all but L stays -/
def Mv (L : List Addr) (H H' : Hp) : Prop := ∀ b o, b ∉ L → H b = some o → (∀ ps, o ≠ .tbl ps) → H' b = some o
section
variable {T : List (Addr × Str)} {L : List Addr} {H H0 H1 H2 : Hp} {s D m : Addr} {o : HO}
theorem Mv.refl : Mv L H H := fun _ _ _ e _ => e
theorem Mv.trans (a : Mv L H H1) (b : Mv L H1 H2) : Mv L H H2 := fun c o hc e n => b c o hc (a c o hc e n) n
theorem Mv.nx (a : Mv L H H1) (x : Nx T s D H1 H2) (h : s ∈ L) : Mv L H H2 := fun c o hc e n => x.keep (a c o hc e n) (fun z => hc (by rw [z]; exact h)) n
theorem Mv.sm (a : Mv L H H1) (x : Sm T H1 H2) : Mv L H H2 := fun c o hc e n => x.kp c o (a c o hc e n) n
theorem Mv.upd (a : Mv L H H1) (h : m ∈ L ∨ H m = Option.none) : Mv L H (upd H1 m o) := fun c u hc e n => by
  have : c ≠ m := fun z => by
    rcases h with h | h
    · exact hc (by rw [z]; exact h)
    · rw [z, h] at e; cases e
  rw [upd_ne this]
  exact a c u hc e n
theorem Mv.kp (a : Mv L H H1) : Kp (hidL H L) (hidL H1 L) := fun b o e n => by
  by_cases q : b ∈ L
  · rw [hidL_in q] at e; cases e
  · rw [hidL_out q] at e ⊢
    exact a b o q e n
theorem Sm.nx (e : Sm T H H1) (x : Nx T s D H1 H2) (h : H s = Option.none) (h1 : ∃ i : Int, H1 s = some (.lst [.ref D, .int i])) : Sm T H H2 where
  kp := fun b o q n => by
    have : b ≠ s := fun z => by rw [z, h] at q; cases q
    exact x.keep (e.kp b o q n) this n
  fr := fun b q => by
    have := x.1.fr b q
    by_cases z : b = s
    · rw [z]; exact h
    · rw [hid_ne z] at this; exact e.fr b this
  tb := fun t => x.1.tb fun q hq => by
    obtain ⟨ps, a, b, c⟩ := e.tb t q hq
    obtain ⟨i, h1⟩ := h1
    have n1 : q.1 ≠ s := fun z => by rw [z, h1] at a; cases a
    refine ⟨ps, by rw [hid_ne n1]; exact a, b, fun pos cv hc => ?_⟩
    obtain ⟨d, e1, e2⟩ := c pos cv hc
    have n2 : d ≠ s := fun z => by
      rw [z, h1] at e2
      have := Option.some.inj e2
      unfold CodeO at this
      cases this
    exact ⟨d, e1, by rw [hid_ne n2]; exact e2⟩
end
/-- the sum of a row's numbers, as the program adds them -/
theorem sum_wt (f : Str → Nat) : ∀ row : List Str, (row.map fun X => ((f X : Nat) : Int)).sum = ((wt f row : Nat) : Int)
  | [] => rfl
  | X :: row => by
    rw [List.map_cons, List.sum_cons, sum_wt f row, wt_cons]
    omega
end SG

set_option Elab.async false
set_option linter.all false
set_option maxRecDepth 100000
set_option maxHeartbeats 8000000
set_option autoImplicit false
/-! The law's own: a base grammar built. -/
namespace SG
open PySem PySem.Spec PyProof.Rows L2 LamX C8
abbrev sBuilt : Stmt := top 53
abbrev builtN : List Str := ["_law_cell_here", "_law_many", "_law_state", "_law_names", "_law_letters", "_law_reach", "_law_rules", "_law_k", "_law_row", "_law_j", "_law_rule", "_law_turn", "_law_at", "_law_name"]
def spBuilt (T : List (Addr × Str)) : Sp := fun vs H Q _ => ∃ (c : Int) (n : Nat), vs = [.int c, .int (n : Int)] ∧ 1 ≤ n ∧ n ≤ 4 ∧
  ∀ (names : List Str) (rules : List Rul) (u : Str → Nat) (p N R : Addr) (us : List V) (H' : Hp), names.length = n → (∀ x ∈ names, ∃ k, baseName k x) → PInv names rules [] u → Sm T H H' → H' p = some (.tup [.ref N, .ref R]) → H N = Option.none → H' N = some (.lst (names.map V.str)) →
    H' R = some (.lst us) → R ≠ N → H R = Option.none → AllAt (hidL H' [N, R]) us rules → Q (.ref p) H'
/-- the letters of a base grammar -/
def LettersOk (ls : Str) : Prop := 1 ≤ ls.length ∧ ls.length ≤ 3 ∧ ∀ c ∈ ls.cps.toList, c ∈ abc.cps.toList
theorem letters_ok : LettersOk "a" ∧ LettersOk "ab" ∧ LettersOk "xyz" := by
  unfold LettersOk
  rw [abc_list]
  decide +kernel
theorem letter_at {ls : Str} (h : LettersOk ls) (d : Int) : ∃ c : Nat, letterT (⟨#[c]⟩ : Str) ∧ atI ls.cps.toList (d % ((ls.length : Nat) : Int)) = some c := by
  obtain ⟨c, hc, e⟩ := pick (xs := ls.cps.toList) (n := ls.length) (str_len ls).symm h.1 d
  refine ⟨c, ⟨rfl, fun x hx => ?_⟩, e⟩
  have : x = c := List.mem_singleton.mp hx
  rw [this]
  exact h.2.2 c hc
/-- the numbers of a row, looked up -/
theorem nat_get {H G : Hp} {d : Addr} {kvs : List (Key × V)} {xs : List (Str × Nat)} {X : Str} {n : Nat} (hd : H d = some (.dK kvs)) (h : AllKv G kvs xs) (e : dlk xs X = some n) : DGet H d (.str X) (some (.int (n : Int))) := by
  obtain ⟨v, h1, h2⟩ := h.some e
  have h2 : v = V.int (n : Int) := h2
  have := DGet.k (k := (Sum.inr X : Key)) hd
  rw [h1, h2] at this
  exact this
theorem Stt.upd {H : Hp} {s D p : Addr} {ds : List Int} {o : HO} (h : Stt H s D ds) (n1 : p ≠ s) (n2 : p ≠ D) : Stt (upd H p o) s D ds := by
  obtain ⟨⟨i, h1⟩, h2, h3⟩ := h
  exact ⟨⟨i, by rw [upd_ne n1.symm]; exact h1⟩, by rw [upd_ne n2.symm]; exact h2, h3⟩
section
variable {P : Program} {w : World} {K : PySem.W.Frag} {mg : Str → Option Value} {base : Heap} {T : List (Addr × Str)}
theorem scBuilt : FnScope builtN ["_law_cell_here", "_law_many"] (fnScope sBuilt) := fnScope_by (by decide +kernel)
/-- what both loops keep -/
structure BL0 (T : List (Addr × Str)) (H H' : Hp) (a D : Addr) (ds : List Int) (Ln : Addr) (ns : List Str) (d R : Addr) (rules : List Rul) : Prop where
  sm : Sm T H H'
  stt : Stt H' a D ds
  ln : H' Ln = some (.lst (ns.map V.str))
  dd : ∃ kvs, H' d = some (.dK kvs)
  rr : ∃ vs, H' R = some (.lst vs) ∧ AllAt (hidL H' [a, d, R]) vs rules
theorem cal_built (X : Gs mg) (cDig : Cal P w K mg base 1 "_law_digits" (spDigits T) []) (cNx : Cal P w K mg base 1 "_law_next_of" (spNextOf T) []) (cCa : Cal P w K mg base 2 "_law_called" (spCalled T) []) (cDr : Cal P w K mg base 2 "_law_drawn" (spDrawn T) [])
    (F : DefB K mg "_law_built" sBuilt ["_law_cell_here", "_law_many"]) : Cal P w K mg base 3 "_law_built" (spBuilt T) [] := by
  refine cal_of F scBuilt (fun vs H Q E h => ?_) (fun f cdv A outer s H vs Q E hr h => ?_)
  · obtain ⟨c, n, rfl, _⟩ := h
    rfl
  · obtain ⟨c, n, rfl, hn1, hn4, k⟩ := h
    have hu := hu_of hr
    have hun := hr.un
    refine ⟨_, pss_cons (ps_set (i := 2) scBuilt.nd rfl (Or.inl rfl) (pe_lst (pa_cons (pe_c cDig hr (by decide) rfl (pa_cons (pv 0) (pa_cons pe_int pa_nil))) (pa_cons (pe_un un_neg pe_int) pa_nil))))
      (pss_cons (ps_set (i := 3) scBuilt.nd rfl (Or.inl rfl) (pe_c cCa hr (by decide) rfl (pa_cons (pv 2) (pa_cons (pv 1) pa_nil))))
      (pss_cons (ps_set (i := 4) scBuilt.nd rfl (Or.inl rfl) (pe_ix ix_list (pe_lst (pa_cons pe_str (pa_cons pe_str (pa_cons pe_str (pa_cons pe_str pa_nil))))) (pe_op op_mod (pe_c cNx hr (by decide) rfl (pa_cons (pv 2) pa_nil)) pe_int) (fun _ _ => rfl)))
      (pss_cons (ps_set (i := 5) scBuilt.nd rfl (Or.inr rfl) pe_dnewK)
      (pss_cons (ps_set (i := 6) scBuilt.nd rfl (Or.inl rfl) (pe_lst pa_nil))
      (pss_cons (ps_for PassesOwn.never rfl (pi_range1 (by rfl) X.range (pa_cons (pv 1) pa_nil)) (pg_name (i := 7) scBuilt.nd rfl (Or.inl rfl))
        (pss_cons (ps_set (i := 8) scBuilt.nd rfl (Or.inl rfl) (pe_c cDr hr (by decide) rfl (pa_cons (pv 2) (pa_cons (pe_slice sl_list (pv 3) po_none (po_some (pv 7))) (pa_cons pe_int pa_nil)))))
        (pss_cons (ps_while PassesOwn.never (pt_cmpR op_gt (pe_callB (cr_sum rfl) (by rfl) X.sum boot_sum_ (pa_cons (pe_lc (own := [("_law_name", 13)]) rfl scBuilt.nd (pi_list (pv 8)) (blkOk_by (N := builtN) (sc := fnScope sBuilt) (by decide +kernel))
            (fun _ _ _ _ _ => pg_name (i := 13) scBuilt.nd rfl (Or.inl rfl) (.inr rfl)) (fun _ _ _ _ _ => pts_nil) (fun _ _ _ _ _ => pe_dget hu (pv 5) (pv 13) (fun _ _ => rfl))) pa_nil)) pe_int (nomark _))
          (pss_one (ps_expr (pe_bm0 PySem.F.plainAttrs_list PySem.F.slot_list_pop PySem.F.type_list_pop mt_pop (pv 8)))))
        (pss_cons (ps_dput hu (pv 5) (pe_ix ix_list (pv 3) (pv 7) (fun _ _ => rfl)) (pe_op op_add pe_int (pe_callB (cr_sum rfl) (by rfl) X.sum boot_sum_ (pa_cons (pe_lc (own := [("_law_name", 13)]) rfl scBuilt.nd (pi_list (pv 8)) (blkOk_by (N := builtN) (sc := fnScope sBuilt) (by decide +kernel))
            (fun _ _ _ _ _ => pg_name (i := 13) scBuilt.nd rfl (Or.inl rfl) (.inr rfl)) (fun _ _ _ _ _ => pts_nil) (fun _ _ _ _ _ => pe_dget hu (pv 5) (pv 13) (fun _ _ => rfl))) pa_nil))) rfl)
        (pss_one (ps_expr (pe_bm PySem.F.plainAttrs_list PySem.F.slot_list_append PySem.F.type_list_append mt_append (pv 6) (pa_cons (pe_tup (pa_cons (pe_ix ix_list (pv 3) (pv 7) (fun _ _ => rfl)) (pa_cons (pe_ix ix_str (pv 4) (pe_op op_mod (pe_c cNx hr (by decide) rfl (pa_cons (pv 2) pa_nil)) (pe_callB call_len (by rfl) X.len boot_len_ (pa_cons (pv 4) pa_nil))) (fun _ _ => rfl)) (pa_cons (pv 8) pa_nil)))) pa_nil))))))))
      (pss_cons (ps_for PassesOwn.never rfl (pi_range1 (by rfl) X.range (pa_cons (pv 1) pa_nil)) (pg_name (i := 7) scBuilt.nd rfl (Or.inl rfl))
        (pss_one (ps_for PassesOwn.never rfl (pi_range1 (by rfl) X.range (pa_cons (pe_op op_mod (pe_c cNx hr (by decide) rfl (pa_cons (pv 2) pa_nil)) pe_int) pa_nil)) (pg_name (i := 9) scBuilt.nd rfl (Or.inl rfl))
          (pss_cons (ps_set (i := 10) scBuilt.nd rfl (Or.inl rfl) (pe_tup (pa_cons (pe_ix ix_list (pv 3) (pv 7) (fun _ _ => rfl)) (pa_cons (pe_ix ix_str (pv 4) (pe_op op_mod (pe_c cNx hr (by decide) rfl (pa_cons (pv 2) pa_nil)) (pe_callB call_len (by rfl) X.len boot_len_ (pa_cons (pv 4) pa_nil))) (fun _ _ => rfl)) (pa_cons (pe_c cDr hr (by decide) rfl (pa_cons (pv 2) (pa_cons (pv 3) (pa_cons pe_int pa_nil)))) pa_nil)))))
          (pss_one (ps_if (pt_cmpR (op_notInT Rul (by show (A.deeper _).units + 65 < cLine; omega)) (pv 10) (pv 6) (by rfl)) (pss_one (ps_expr (pe_bm PySem.F.plainAttrs_list PySem.F.slot_list_append PySem.F.type_list_append mt_append (pv 6) (pa_cons (pv 10) pa_nil)))) pss_nil))))))
      (pss_cons (ps_set (i := 11) scBuilt.nd rfl (Or.inl rfl) (pe_op op_mod (pe_c cNx hr (by decide) rfl (pa_cons (pv 2) pa_nil)) (pv 1)))
      (pss_cons (ps_set (i := 12) scBuilt.nd rfl (Or.inl rfl) (pe_op op_mod (pe_c cNx hr (by decide) rfl (pa_cons (pv 2) pa_nil)) (pe_lenK K rfl (by rfl) X.len (pa_cons (pv 6) pa_nil))))
      (pss_one (ps_ret (pe_tup (pa_cons (pe_op op_cat (pe_slice sl_list (pv 3) (po_some (pv 11)) po_none) (pe_slice sl_list (pv 3) po_none (po_some (pv 11)))) (pa_cons (pe_op op_cat (pe_slice sl_list (pv 6) (po_some (pv 12)) po_none) (pe_slice sl_list (pv 6) po_none (po_some (pv 12)))) pa_nil))))))))))))), ?_⟩
    -- the state
    refine ⟨_, rfl, c, 90, rfl, by decide, fun ds hdl hd0 v1 H1 s1 h1 => ⟨1, rfl, by show 2 ≤ sizeLine; decide, fun a ha => ?_⟩⟩
    obtain ⟨D, us1, rfl, hD, hus⟩ := h1
    rw [ints_at] at hus
    subst hus
    have hD1 := (dif_some hD).2
    have ha0 : H a = Option.none := s1.fr _ ha
    have s2 : Sm T H (upd H1 a (.lst [.ref D, .int (-1)])) := s1.trans (Sm.new ha)
    have hne : ds ≠ [] := fun z => by rw [z] at hdl; cases hdl
    have st2 : Stt (upd H1 a (.lst [.ref D, .int (-1)])) a D ds := ⟨⟨-1, upd_same⟩, by rw [upd_ne (ne_of_none hD1 ha)]; exact hD1, hne, hd0⟩
    -- the names
    refine ⟨_, rfl, _, rfl, a, D, ds, n, rfl, st2, Nat.le_trans hn4 (by decide), fun ns v3 H3 hnl C x3 h3 => ?_⟩
    obtain ⟨Ln, us3, rfl, hLn, hus⟩ := h3
    rw [strs_at] at hus
    subst hus
    have hLn3 := (dif_some hLn).2
    have st3 := x3.stt st2
    have s3 : Sm T H H3 := s2.nx x3 ha0 st2.1
    -- the letters
    refine ⟨by show 4 ≤ sizeLine; decide, fun q hq => ⟨_, rfl, a, D, ds, rfl, ?_, fun dg H4 x4 => ⟨_, _, rfl, rfl, (by show (0 : Int) < _; decide), ?_⟩⟩⟩
    · exact (Nx.of (T := T) (Sm.new hq) st3).stt st3
    have sq : Sm T H3 (upd H3 q (.lst [V.str "a", V.str "ab", V.str "xyz", V.str "ab"])) := Sm.new hq
    have x34 : Nx T a D H3 H4 := (Nx.of sq st3).trans x4
    have hqa : q ≠ a := fun e => by
      obtain ⟨i, h⟩ := st3.1
      rw [e, h] at hq
      cases hq
    have hq4 : H4 q = some (.lst [V.str "a", V.str "ab", V.str "xyz", V.str "ab"]) := x4.keep upd_same hqa (fun _ z => nomatch z)
    obtain ⟨lv, hlv, elv⟩ := pick (xs := [V.str "a", V.str "ab", V.str "xyz", V.str "ab"]) (n := 4) rfl (by decide) (dg : Int)
    obtain ⟨ls, rfl, hls⟩ : ∃ ls : Str, lv = .str ls ∧ LettersOk ls := by
      obtain ⟨l1, l2, l3⟩ := letters_ok
      simp only [List.mem_cons, List.not_mem_nil, or_false] at hlv
      rcases hlv with e | e | e | e
      · exact ⟨_, e, l1⟩
      · exact ⟨_, e, l2⟩
      · exact ⟨_, e, l3⟩
      · exact ⟨_, e, l2⟩
    refine ⟨q, _, _, .str ls, rfl, rfl, SqL.of hq4, elv, ?_⟩
    have st4 := x34.stt st3
    have s4 : Sm T H H4 := s3.nx x34 ha0 st3.1
    have hLna : Ln ≠ a := fun e => by
      have := (dif_some hLn).1
      rw [e, upd_same] at this
      cases this
    have hLn4 := x34.keep hLn3 hLna (fun _ z => nomatch z)
    -- reach, rules
    intro d hd
    refine ⟨Nat.zero_le _, fun R hR => ?_⟩
    have hd0' : H d = Option.none := s4.fr _ hd
    have hRd : R ≠ d := fun e => by rw [e, upd_same] at hR; cases hR
    have hR4 : H4 R = Option.none := by rw [upd_ne hRd] at hR; exact hR
    have hR0 : H R = Option.none := s4.fr _ hR4
    have s5 : Sm T H (upd (upd H4 d (.dK [])) R (.lst [])) := (s4.trans (Sm.new hd)).trans (Sm.new hR)
    have x45 : Sm T H4 (upd (upd H4 d (.dK [])) R (.lst [])) := (Sm.new hd).trans (Sm.new hR)
    have st5 := (Nx.of x45 st4).stt st4
    obtain ⟨i4, hi4⟩ := st4.1
    have hda : d ≠ a := fun e => by rw [e, hi4] at hd; cases hd
    have hRa : R ≠ a := fun e => by rw [e, hi4] at hR4; cases hR4
    have hLd : Ln ≠ d := ne_of_none hLn4 hd
    have hLR : Ln ≠ R := ne_of_none hLn4 hR4
    have aL : a ∈ [a, d, R] := List.mem_cons_self
    have dL : d ∈ [a, d, R] := List.mem_cons_of_mem _ List.mem_cons_self
    have rL : R ∈ [a, d, R] := List.mem_cons_of_mem _ (List.mem_cons_of_mem _ List.mem_cons_self)
    have e0 : ((n : Int)).toNat = n := rfl
    -- the first loop
    refine ⟨_, rfl, _, rfl, by omega, by omega, ?_⟩
    rw [e0]
    refine for_range (lo := 0) (n := n) (fun i σ H' => ∃ (f : Str → Nat) (rules : List Rul) (vs : List V) (kvs : List (Key × V)) (z7 z8 : Option V), σ = [some (.int c), some (.int (n : Int)), some (.ref a), some (.ref Ln), some (.str ls), some (.ref d), some (.ref R), z7, z8, Option.none, Option.none, Option.none, Option.none, Option.none] ∧
        Sm T H H' ∧ Stt H' a D ds ∧ H' Ln = some (.lst (ns.map V.str)) ∧ H' d = some (.dK kvs) ∧ AllKv H kvs ((ns.take i).map fun X => (X, f X)) ∧ H' R = some (.lst vs) ∧ AllAt (hidL H' [a, d, R]) vs rules ∧ rules.length = i ∧
        BInv ns rules f ∧ (∀ r ∈ rules, r.a ∈ ns.take i) ∧ (∀ r ∈ rules, ∀ x ∈ r.c, x ∈ ns.take i) ∧ (∀ X ∈ ns.take i, ∃ r ∈ rules, r.a = X ∧ 1 + wt f r.c ≤ f X) ∧ ∀ X, (rulesOf rules X).length ≤ 1)
      ⟨fun _ => 0, [], [], [], _, _, rfl, s5, st5, ?_, ?_, ?_, upd_same, True.intro, rfl, ⟨fun r h => (nomatch h), fun r h => (nomatch h), fun r h => (nomatch h), List.nodup_nil, fun r h => (nomatch h), fun X _ => Nat.zero_le _⟩, (fun r h => nomatch h), (fun r h => nomatch h), (fun X h => by rw [List.take_zero] at h; exact nomatch h), fun X => Nat.zero_le _⟩ ?_ ?_
    · rw [upd_ne hLR, upd_ne hLd]; exact hLn4
    · rw [upd_ne hRd.symm, upd_same]
    · rw [List.take_zero]
      exact True.intro
    · rintro i σ H6 hi ⟨f, rules, vs, kvs, z7, z8, rfl, s6, st6, l6, d6, kv6, r6, al6, hlen, B, hleft, hrows, hpre, hfew⟩
      have hin : i < ns.length := by rw [hnl]; exact hi
      have eY : ns[i]? = some ns[i] := List.getElem?_eq_getElem hin
      have et : ns.take (i + 1) = ns.take i ++ [ns[i]] := by
        rw [List.take_add_one, eY]
        rfl
      have hnew : ns[i] ∉ ns.take i := fun m => by
        obtain ⟨j, hj, e⟩ := List.mem_iff_getElem.mp m
        rw [List.length_take] at hj
        rw [List.getElem_take] at e
        exact List.pairwise_iff_getElem.mp C.nd j i (by omega) hin (by omega) e
      have atk : atI (ns.map V.str) (0 + ((i : Nat) : Int)) = some (V.str ns[i]) := by
        rw [Int.zero_add]
        exact atI_nat (by rw [List.getElem?_map, eY]; rfl)
      have ecut : cutV (ns.map V.str) Option.none (some (0 + ((i : Nat) : Int))) = (ns.take i).map V.str := by
        rw [Int.zero_add, cutV_to, List.map_take]
      -- row = drawn(state, names[:k], 3)
      refine ⟨_, rfl, _, rfl, _, rfl, _, rfl, Ln, _, rfl, SqL.of l6, fun q hq => ?_⟩
      rw [ecut]
      obtain ⟨i6, hi6⟩ := st6.1
      have hqa : q ≠ a := fun e => by rw [e, hi6] at hq; cases hq
      have sq : Sm T H6 (upd H6 q (.lst ((ns.take i).map V.str))) := Sm.new hq
      refine ⟨a, D, ds, .ref q, ns.take i, rfl, (Nx.of sq st6).stt st6, ⟨q, _, rfl, by rw [hid_ne hqa, upd_same], strs_at.mpr rfl⟩, by rw [List.length_take]; omega, fun row v7 H7 hrl hrm x7 hv => ?_⟩
      have x67 : Nx T a D H6 H7 := (Nx.of sq st6).trans x7
      obtain ⟨W, us7, rfl, hW, hus⟩ := hv
      rw [strs_at] at hus
      subst hus
      obtain ⟨hW0, hW7⟩ := dif_some hW
      have hWq : W ≠ q := fun e => by rw [e, upd_same] at hW0; cases hW0
      have hW6 : H6 W = Option.none := by rw [upd_ne hWq] at hW0; exact hW0
      have hWa : W ≠ a := fun e => by rw [e, hi6] at hW6; cases hW6
      have hWd : W ≠ d := fun e => by rw [e, d6] at hW6; cases hW6
      have hWR : W ≠ R := fun e => by rw [e, r6] at hW6; cases hW6
      have hWL : W ≠ Ln := fun e => by rw [e, l6] at hW6; cases hW6
      have hWH : H W = Option.none := s6.fr _ hW6
      have hWD : W ≠ D := fun e => by rw [e, st6.2.1] at hW6; cases hW6
      have M7 : Mv [a, d, R] H6 H7 := Mv.refl.nx x67 aL
      -- while sum(..) > 11: row.pop()
      refine ⟨fun m σ H' => ∃ row' : List Str, σ = [some (.int c), some (.int (n : Int)), some (.ref a), some (.ref Ln), some (.str ls), some (.ref d), some (.ref R), some (.int (0 + ((i : Nat) : Int))), some (.ref W), Option.none, Option.none, Option.none, Option.none, Option.none] ∧ m = row'.length ∧
          row'.length ≤ 3 ∧ (∀ x ∈ row', x ∈ ns.take i) ∧ Sm T H H' ∧ Stt H' a D ds ∧ H' Ln = some (.lst (ns.map V.str)) ∧ H' d = some (.dK kvs) ∧ H' R = some (.lst vs) ∧ H' W = some (.lst (row'.map V.str)) ∧ Mv [a, d, R] H6 H',
        ⟨_, row, rfl, rfl, hrl, hrm, s6.nx x67 ha0 st6.1, x67.stt st6, x67.keep l6 hLna (fun _ z => nomatch z), x67.keep d6 hda (fun _ z => nomatch z), x67.keep r6 hRa (fun _ z => nomatch z), hW7, M7⟩, ?_⟩
      rintro m σ H8 ⟨row', rfl, rfl, hl', hr', s8, st8, l8, d8, r8, w8, M8⟩
      have lk8 : ∀ x ∈ row', dlk ((ns.take i).map fun X => (X, f X)) x = some (f x) := fun x hx => dlk_mapF (hr' x hx)
      have e1 : row'.filterMap (fun X => some ((f X : Nat) : Int)) = row'.map fun X => ((f X : Nat) : Int) := by
        rw [← List.filterMap_eq_map]
        rfl
      refine ⟨_, rfl, W, rfl, ⟨_, SqL.of w8⟩, fun E hE => ?_⟩
      refine lc_rep (S := H8) (xs := row') T H8 (fun X => some ((f X : Nat) : Int)) hE (fun b z => z) w8 (strs_at.mpr rfl) (by omega) (fun j v y H9 hj hat q9 hEn Ky Kn ky kn => ?_) (fun H9 ys q9 h9 hA => ?_)
      · have hat : v = V.str y := hat
        subst hat
        exact ⟨rfl, yes_if ⟨_, rfl, _, rfl, d, _, rfl, nat_get (q9.dK d8) kv6 (lk8 y (List.mem_of_getElem? hj)), ky _ ((f y : Nat) : Int) _ rfl (Sm.refl T H9) rfl⟩⟩
      rw [e1, ints_at] at hA
      subst hA
      refine ⟨E, _, rfl, SqL.of h9, ?_⟩
      rw [sum_wt]
      refine ⟨_, _, rfl, rfl, _, rfl, ?_⟩
      have s9 := s8.trans q9
      have st9 := (Nx.of q9 st8).stt st8
      have M9 := M8.sm q9
      have w9 := q9.lst w8
      by_cases hb : (11 : Int) < ((wt f row' : Nat) : Int)
      · rw [decide_eq_true hb]
        have hne' : row' ≠ [] := fun z => by rw [z, wt_nil] at hb; exact absurd hb (by decide)
        have hp := List.length_pos_iff.mpr hne'
        refine iteT ⟨_, fun _ _ h => h, ?_⟩
        have hlast : (row'.map V.str)[(row'.map V.str).length - 1]? = some (V.str (row'.getLast hne')) := by
          rw [List.length_map, List.getElem?_map, List.getLast_eq_getElem, List.getElem?_eq_getElem (by omega)]
          rfl
        refine ⟨_, rfl, .inl ⟨rfl, _, SqL.of w9⟩, W, _, _, rfl, rfl, w9, hlast, _, ?_, row'.dropLast, rfl, rfl, ?_, fun x hx => hr' x ((List.dropLast_sublist row').subset hx), s9.mut hWH w9 True.intro, ?_, ?_, ?_, ?_, ?_, M9.upd (.inr hW6)⟩
        · rw [List.length_dropLast]; omega
        · rw [List.length_dropLast]; omega
        · exact st9.upd hWa hWD
        · rw [upd_ne hWL.symm]; exact q9.lst l8
        · rw [upd_ne hWd.symm]; exact q9.dK d8
        · rw [upd_ne hWR.symm]; exact q9.lst r8
        · rw [upd_same, List.map_dropLast]
      · rw [decide_eq_false hb]
        refine iteF ?_
        -- reach[names[k]] = 1 + sum(..)
        have l9 := q9.lst l8
        have d9 := q9.dK d8
        have r9 := q9.lst r8
        refine ⟨_, rfl, W, rfl, ⟨_, SqL.of w9⟩, fun E2 hE2 => ?_⟩
        refine lc_rep (S := H9) (xs := row') T H9 (fun X => some ((f X : Nat) : Int)) hE2 (fun b z => z) w9 (strs_at.mpr rfl) (by omega) (fun j v y H10 hj hat q10 hEn Ky Kn ky kn => ?_) (fun H10 ys q10 h10 hA => ?_)
        · have hat : v = V.str y := hat
          subst hat
          exact ⟨rfl, yes_if ⟨_, rfl, _, rfl, d, _, rfl, nat_get (q10.dK d9) kv6 (lk8 y (List.mem_of_getElem? hj)), ky _ ((f y : Nat) : Int) _ rfl (Sm.refl T H10) rfl⟩⟩
        rw [e1, ints_at] at hA
        subst hA
        refine ⟨E2, _, rfl, SqL.of h10, ?_⟩
        rw [sum_wt]
        have l10 := q10.lst l9
        have d10 := q10.dK d9
        have r10 := q10.lst r9
        have w10 := q10.lst w9
        have s10 := s9.trans q10
        have st10 := (Nx.of q10 st9).stt st9
        have M10 := M9.sm q10
        have hkl : kvs.length < sizeLine := by
          rw [kv6.length, List.length_map, List.length_take]
          exact Nat.lt_of_le_of_lt (show min i ns.length ≤ 100 by omega) (by decide)
        refine ⟨_, _, rfl, rfl, _, rfl, _, rfl, _, rfl, Ln, _, _, _, rfl, rfl, SqL.of l10, atk, d, _, rfl, DPut.k (k := Sum.inr ns[i]) d10 hkl, ?_⟩
        have hDd : d ≠ D := fun e => by
          have := st10.2.1
          rw [← e, d10] at this
          cases this
        have hRD : R ≠ D := fun e => by
          have := st10.2.1
          rw [← e, r10] at this
          have e3 : vs = ds.map V.int := by injection this with h1; injection h1
          cases rules with
          | nil =>
            have : vs = [] := List.length_eq_zero_iff.mp al6.length
            rw [this] at e3
            exact hne (List.map_eq_nil_iff.mp e3.symm)
          | cons r0 rs =>
            cases vs with
            | nil => exact al6
            | cons v0 vs =>
              obtain ⟨t0, _, _, _, e4, _⟩ := al6.1
              rw [e4] at e3
              cases ds with
              | nil => cases e3
              | cons d0 ds => injection e3 with h1; cases h1
        have s11 := s10.mut (o := .dK (putK kvs (Sum.inr ns[i] : Key) (.int (1 + ((wt f row' : Nat) : Int))))) hd0' d10 True.intro
        have st11 := st10.upd (o := .dK (putK kvs (Sum.inr ns[i] : Key) (.int (1 + ((wt f row' : Nat) : Int))))) hda hDd
        have M11 := M10.upd (m := d) (o := .dK (putK kvs (Sum.inr ns[i] : Key) (.int (1 + ((wt f row' : Nat) : Int))))) (.inl dL)
        have l11 : upd H10 d (.dK (putK kvs (Sum.inr ns[i] : Key) (.int (1 + ((wt f row' : Nat) : Int))))) Ln = some (.lst (ns.map V.str)) := by rw [upd_ne hLd]; exact l10
        have r11 : upd H10 d (.dK (putK kvs (Sum.inr ns[i] : Key) (.int (1 + ((wt f row' : Nat) : Int))))) R = some (.lst vs) := by rw [upd_ne hRd]; exact r10
        have w11 : upd H10 d (.dK (putK kvs (Sum.inr ns[i] : Key) (.int (1 + ((wt f row' : Nat) : Int))))) W = some (.lst (row'.map V.str)) := by rw [upd_ne hWd]; exact w10
        -- rules.append((names[k], letters[..], row))
        have hlz : ls.length ≤ sizeLine := Nat.le_trans hls.2.1 (by decide)
        refine ⟨_, rfl, .inl ⟨rfl, _, SqL.of r11⟩, _, rfl, _, rfl, Ln, _, _, _, rfl, rfl, SqL.of l11, atk, _, rfl, _, rfl, a, D, ds, rfl, st11, fun d2 H12 x12 => ?_⟩
        obtain ⟨ch, hch, ech⟩ := letter_at hls (d2 : Int)
        have r12 := x12.keep r11 hRa (fun _ z => nomatch z)
        have w12 := x12.keep w11 hWa (fun _ z => nomatch z)
        have l12 := x12.keep l11 hLna (fun _ z => nomatch z)
        have d12 := x12.keep (show upd H10 d (.dK (putK kvs (Sum.inr ns[i] : Key) (.int (1 + ((wt f row' : Nat) : Int))))) d = some _ from upd_same) hda (fun _ z => nomatch z)
        have s12 := s11.nx x12 ha0 st11.1
        have st12 := x12.stt st11
        have M12 := M11.nx x12 aL
        refine ⟨_, rfl, _, _, rfl, ⟨hlz, rfl⟩, _, _, rfl, rfl, (by show (0 : Int) < _; have := hls.1; omega), ls, _, ch, rfl, rfl, hlz, ech, _, rfl, by show 3 ≤ sizeLine; decide, fun t ht => ?_⟩
        have hRt : R ≠ t := ne_of_none r12 ht
        have hWt : W ≠ t := ne_of_none w12 ht
        have hLt : Ln ≠ t := ne_of_none l12 ht
        have hdt : d ≠ t := ne_of_none d12 ht
        have hvl : vs.length = i := by rw [al6.length, hlen]
        refine ⟨R, vs, _, rfl, rfl, by rw [upd_ne hRt]; exact r12, by rw [hvl]; exact Nat.lt_of_lt_of_le hi (Nat.le_trans hn4 (by decide)), ?_⟩
        have s13 : Sm T H _ := s12.trans (Sm.new (o := .tup [.str ns[i], .str ⟨#[ch]⟩, .ref W]) ht)
        have M13 : Mv [a, d, R] H6 _ := (M12.sm (Sm.new (T := T) (o := .tup [.str ns[i], .str ⟨#[ch]⟩, .ref W]) ht)).upd (m := R) (o := .lst (vs ++ [.ref t])) (.inl rL)
        have st13 := (Nx.of (T := T) (Sm.new (o := .tup [.str ns[i], .str ⟨#[ch]⟩, .ref W]) ht) st12).stt st12
        have r13 : upd H12 t (.tup [.str ns[i], .str ⟨#[ch]⟩, .ref W]) R = some (.lst vs) := by rw [upd_ne hRt]; exact r12
        have wf : ∀ r : List Str, (∀ x ∈ r, x ∈ ns.take i) → wt (fun X => if X = ns[i] then 1 + wt f row' else f X) r = wt f r := fun r hr => wt_congr fun x hx => if_neg (fun z => hnew (by rw [← z]; exact hr x hx))
        have hmono : ∀ {x : Str}, x ∈ ns.take i → x ∈ ns.take (i + 1) := fun h => by rw [et]; exact List.mem_append_left _ h
        have hle : wt f row' ≤ 11 := by omega
        refine ⟨fun X => if X = ns[i] then 1 + wt f row' else f X, rules ++ [⟨ns[i], ⟨#[ch]⟩, row'⟩], _, putK kvs (Sum.inr ns[i] : Key) (.int (1 + ((wt f row' : Nat) : Int))), _, _, rfl, s13.mut hR0 r13 True.intro, st13.upd hRa hRD, ?_, ?_, ?_, upd_same, ?_, by rw [List.length_append, hlen]; rfl, ⟨fun r hr => ?_, fun r hr => ?_, fun r hr => ?_, ?_, fun r hr => ?_, fun X hX => ?_⟩, fun r hr => ?_, fun r hr => ?_, fun X hX => ?_, fun X => ?_⟩
        · rw [upd_ne hLR, upd_ne hLt]; exact l12
        · rw [upd_ne hRd.symm, upd_ne hdt]; exact d12
        · have e2 : ((ns.take (i + 1)).map fun X => (X, (fun X => if X = ns[i] then 1 + wt f row' else f X) X)) = dput ((ns.take i).map fun X => (X, f X)) ns[i] (1 + wt f row') := by
            rw [dput_new, et, List.map_append]
            · congr 1
              · apply List.map_congr_left
                intro X hX
                show (X, if X = ns[i] then 1 + wt f row' else f X) = (X, f X)
                rw [if_neg (fun z => hnew (by rw [← z]; exact hX))]
              · show [(ns[i], if ns[i] = ns[i] then 1 + wt f row' else f ns[i])] = _
                rw [if_pos rfl]
            · cases e3 : dlk ((ns.take i).map fun X => (X, f X)) ns[i] with
              | none => rfl
              | some z =>
                have := dlk_isSome.mp (show (dlk ((ns.take i).map fun X => (X, f X)) ns[i]).isSome = true by rw [e3]; rfl)
                rw [List.map_map] at this
                obtain ⟨Z, hZ, e4⟩ := List.mem_map.mp this
                have e4 : Z = ns[i] := e4
                exact absurd (by rw [← e4]; exact hZ) hnew
          rw [e2]
          refine AllKv.put kv6 ?_
          show V.int (1 + ((wt f row' : Nat) : Int)) = V.int ((1 + wt f row' : Nat) : Int)
          congr 1
        · have tL : t ∉ [a, d, R] := fun m => by
            simp only [List.mem_cons, List.not_mem_nil, or_false] at m
            obtain ⟨i12, hi12⟩ := st12.1
            rcases m with e | e | e
            · rw [e, hi12] at ht; cases ht
            · exact hdt e.symm
            · exact hRt e.symm
          have wL : W ∉ [a, d, R] := fun m => by
            simp only [List.mem_cons, List.not_mem_nil, or_false] at m
            rcases m with e | e | e
            · exact hWa e
            · exact hWd e
            · exact hWR e
          have htR : t ≠ R := hRt.symm
          exact (al6.mono M13.kp).snoc ⟨t, _, _, _, rfl, by rw [hidL_out tL, upd_ne htR, upd_same], rfl, rfl, W, _, rfl, by rw [hidL_out wL, upd_ne hWR, upd_ne hWt]; exact w12, strs_at.mpr rfl⟩
        · rcases List.mem_append.mp hr with z | z
          · exact B.left r z
          · rw [List.mem_singleton.mp z]; exact List.getElem_mem hin
        · rcases List.mem_append.mp hr with z | z
          · exact B.letter r z
          · rw [List.mem_singleton.mp z]; exact hch
        · rcases List.mem_append.mp hr with z | z
          · exact B.short r z
          · rw [List.mem_singleton.mp z]; exact hl'
        · refine List.nodup_append.mpr ⟨B.rnd, List.nodup_cons.mpr ⟨List.not_mem_nil, List.nodup_nil⟩, fun x hx y hy z => ?_⟩
          have hy : y = _ := List.mem_singleton.mp hy
          have := hleft x hx
          rw [z, hy] at this
          exact hnew this
        · rcases List.mem_append.mp hr with z | z
          · exact B.base r z
          · rw [List.mem_singleton.mp z]; exact fun x hx => List.mem_of_mem_take (hr' x hx)
        · show (if X = ns[i] then 1 + wt f row' else f X) ≤ 12
          by_cases e : X = ns[i]
          · rw [if_pos e]; omega
          · rw [if_neg e]; exact B.le X hX
        · rcases List.mem_append.mp hr with z | z
          · exact hmono (hleft r z)
          · rw [List.mem_singleton.mp z, et]; exact List.mem_append_right _ (List.mem_singleton.mpr rfl)
        · rcases List.mem_append.mp hr with z | z
          · exact fun x hx => hmono (hrows r z x hx)
          · rw [List.mem_singleton.mp z]; exact fun x hx => hmono (hr' x hx)
        · rw [et] at hX
          show ∃ r ∈ rules ++ [(⟨ns[i], ⟨#[ch]⟩, row'⟩ : Rul)], r.a = X ∧ 1 + wt (fun X => if X = ns[i] then 1 + wt f row' else f X) r.c ≤ (if X = ns[i] then 1 + wt f row' else f X)
          by_cases e : X = ns[i]
          · refine ⟨_, List.mem_append_right _ (List.mem_singleton.mpr rfl), e.symm, ?_⟩
            rw [if_pos e, wf _ hr']
            exact Nat.le_refl _
          · rcases List.mem_append.mp hX with z | z
            · obtain ⟨r, h1, h2, h3⟩ := hpre X z
              refine ⟨r, List.mem_append_left _ h1, h2, ?_⟩
              rw [if_neg e, wf _ (hrows r h1)]
              exact h3
            · exact absurd (List.mem_singleton.mp z) e
        · rw [rulesOf_snoc]
          by_cases e : ns[i] = X
          · rw [if_pos e, rulesOf_nil_of (fun r hr z => hnew (by rw [e, ← z]; exact hleft r hr))]
            exact Nat.le_refl _
          · rw [if_neg e]; exact hfew X
    · rintro σ H6 ⟨f, rules0, vs0, kvs, z7, z8, rfl, s6, st6, l6, d6, _, r6, al6, hlen0, B0, _, _, hpre0, hfew0⟩
      have htn : ns.take n = ns := by rw [← hnl, List.take_length]
      rw [htn] at hpre0
      have hRD : R ≠ D := fun e => by
        have := st6.2.1
        rw [← e, r6] at this
        have e3 : vs0 = ds.map V.int := by injection this with h1; injection h1
        cases rules0 with
        | nil => rw [List.length_nil] at hlen0; omega
        | cons r0 rs =>
          cases vs0 with
          | nil => exact al6
          | cons v0 vs =>
            obtain ⟨t0, _, _, _, e4, _⟩ := al6.1
            rw [e4] at e3
            cases ds with
            | nil => cases e3
            | cons d0 ds => injection e3 with h1; cases h1
      refine ⟨_, rfl, _, rfl, by omega, by omega, ?_⟩
      rw [e0]
      refine for_range (lo := 0) (n := n) (fun i σ H' => ∃ (rules : List Rul) (vs : List V) (z7 z8 z9 z10 : Option V), σ = [some (.int c), some (.int (n : Int)), some (.ref a), some (.ref Ln), some (.str ls), some (.ref d), some (.ref R), z7, z8, z9, z10, Option.none, Option.none, Option.none] ∧
          Sm T H H' ∧ Stt H' a D ds ∧ H' Ln = some (.lst (ns.map V.str)) ∧ H' d = some (.dK kvs) ∧ H' R = some (.lst vs) ∧ AllAt (hidL H' [a, d, R]) vs rules ∧ BInv ns rules f ∧ (∀ X ∈ ns, ∃ r ∈ rules, r.a = X ∧ 1 + wt f r.c ≤ f X) ∧
          (∀ j X, ns[j]? = some X → (rulesOf rules X).length ≤ if j < i then 4 else 1) ∧ 1 ≤ rules.length ∧ rules.length ≤ 4 + 3 * i)
        ⟨rules0, vs0, _, _, _, _, rfl, s6, st6, l6, d6, r6, al6, B0, hpre0, fun j X h => ?_, by omega, by omega⟩ ?_ ?_
      · have := hfew0 X
        split <;> omega
      · rintro i σ H7 hi ⟨rules, vs, y7, y8, y9, y10, rfl, s7, st7, l7, d7, r7, al7, B, hpre, hfew, hl1, hl2⟩
        have hin : i < ns.length := by rw [hnl]; exact hi
        have eY : ns[i]? = some ns[i] := List.getElem?_eq_getElem hin
        have atk : atI (ns.map V.str) (0 + ((i : Nat) : Int)) = some (V.str ns[i]) := by
          rw [Int.zero_add]
          exact atI_nat (by rw [List.getElem?_map, eY]; rfl)
        refine ⟨_, rfl, a, D, ds, rfl, st7, fun dj H8 x8 => ⟨_, _, rfl, rfl, (by show (0 : Int) < _; decide), _, rfl, ?_, ?_, ?_⟩⟩
        · show -(2 ^ 62) ≤ (dj : Int) % 4
          omega
        · show (dj : Int) % 4 < 2 ^ 62
          omega
        refine for_range (lo := 0) (n := ((dj : Int) % 4).toNat) (fun j σ H' => ∃ (rules : List Rul) (vs : List V) (z8 z9 z10 : Option V), σ = [some (.int c), some (.int (n : Int)), some (.ref a), some (.ref Ln), some (.str ls), some (.ref d), some (.ref R), some (.int (0 + ((i : Nat) : Int))), z8, z9, z10, Option.none, Option.none, Option.none] ∧
            Sm T H H' ∧ Stt H' a D ds ∧ H' Ln = some (.lst (ns.map V.str)) ∧ H' d = some (.dK kvs) ∧ H' R = some (.lst vs) ∧ AllAt (hidL H' [a, d, R]) vs rules ∧ BInv ns rules f ∧ (∀ X ∈ ns, ∃ r ∈ rules, r.a = X ∧ 1 + wt f r.c ≤ f X) ∧
            (∀ j' X, ns[j']? = some X → (rulesOf rules X).length ≤ if j' < i then 4 else if j' = i then 1 + j else 1) ∧ 1 ≤ rules.length ∧ rules.length ≤ 4 + 3 * i + j)
          ⟨rules, vs, _, _, _, rfl, s7.nx x8 ha0 st7.1, x8.stt st7, x8.keep l7 hLna (fun _ z => nomatch z), x8.keep d7 hda (fun _ z => nomatch z), x8.keep r7 hRa (fun _ z => nomatch z), al7.mono (Mv.refl.nx x8 aL).kp, B, hpre, fun j' X h => ?_, hl1, by omega⟩ ?_ ?_
        · have := hfew j' X h
          split at this
          · rw [if_pos (by assumption)]; exact this
          · rw [if_neg (by assumption)]
            split <;> omega
        · rintro j σ H9 hj ⟨rules, vs, w8, w9, w10, rfl, s9, st9, l9, d9, r9, al9, B, hpre, hfew, hl1, hl2⟩
          have hlz : ls.length ≤ sizeLine := Nat.le_trans hls.2.1 (by decide)
          refine ⟨_, rfl, _, rfl, Ln, _, _, _, rfl, rfl, SqL.of l9, atk, _, rfl, _, rfl, a, D, ds, rfl, st9, fun d2 H10 x10 => ?_⟩
          obtain ⟨ch, hch, ech⟩ := letter_at hls (d2 : Int)
          have st10 := x10.stt st9
          have l10 := x10.keep l9 hLna (fun _ z => nomatch z)
          refine ⟨_, rfl, _, _, rfl, ⟨hlz, rfl⟩, _, _, rfl, rfl, (by show (0 : Int) < _; have := hls.1; omega), ls, _, ch, rfl, rfl, hlz, ech, _, rfl, _, rfl, a, D, ds, .ref Ln, ns, rfl, st10, ⟨Ln, _, rfl, by rw [hid_ne hLna]; exact l10, strs_at.mpr rfl⟩, by omega, fun row v H11 hrl hrm x11 hv => ⟨by show 3 ≤ sizeLine; decide, fun t ht => ?_⟩⟩
          obtain ⟨W, us, rfl, hW, hus⟩ := hv
          rw [strs_at] at hus
          subst hus
          have x911 := x10.trans x11
          have l11 := x911.keep l9 hLna (fun _ z => nomatch z)
          have r11 := x911.keep r9 hRa (fun _ z => nomatch z)
          have d11 := x911.keep d9 hda (fun _ z => nomatch z)
          have hdt : t ≠ d := (ne_of_none d11 ht).symm
          have w11 := (dif_some hW).2
          have hW10 := (dif_some hW).1
          have st11 := x911.stt st9
          have s11 : Sm T H H11 := s9.nx x911 ha0 st9.1
          have hWa : W ≠ a := fun e => by
            obtain ⟨q, h⟩ := st10.1
            rw [e, h] at hW10; cases hW10
          have hWd : W ≠ d := fun e => by rw [e, x10.keep d9 hda (fun _ z => nomatch z)] at hW10; cases hW10
          have hWR : W ≠ R := fun e => by rw [e, x10.keep r9 hRa (fun _ z => nomatch z)] at hW10; cases hW10
          have M11 : Mv [a, d, R] H9 H11 := Mv.refl.nx x911 aL
          have sT : Sm T H11 (upd H11 t (.tup [.str ns[i], .str ⟨#[ch]⟩, .ref W])) := Sm.new ht
          have r12 := sT.lst r11
          have l12 := sT.lst l11
          have st12 := (Nx.of sT st11).stt st11
          have M12 := M11.sm sT
          have al12 := al9.mono M12.kp
          have hRt : R ≠ t := ne_of_none r11 ht
          have hWt : W ≠ t := ne_of_none w11 ht
          have hrule : At (upd H11 t (.tup [.str ns[i], .str ⟨#[ch]⟩, .ref W])) (.ref t) (⟨ns[i], ⟨#[ch]⟩, row⟩ : Rul) := ⟨t, _, _, _, rfl, upd_same, rfl, rfl, W, _, rfl, sT.lst w11, strs_at.mpr rfl⟩
          have hvl := al9.length
          refine ⟨_, rfl, _, rfl, _, rules, hrule, ⟨R, vs, rfl, r12, al12.mono hidL_kp⟩, _, rfl, ?_⟩
          have stay : ∀ {j' : Nat} {X : Str}, ns[j']? = some X → (rulesOf rules X).length ≤ if j' < i then 4 else if j' = i then 1 + (j + 1) else 1 := fun {j' X} h => by
            have := hfew j' X h
            split
            · rw [if_pos (by assumption)] at this; exact this
            · rw [if_neg (by assumption)] at this
              split
              · rw [if_pos (by assumption)] at this; omega
              · rw [if_neg (by assumption)] at this; exact this
          by_cases hmem : (⟨ns[i], ⟨#[ch]⟩, row⟩ : Rul) ∈ rules
          · have e1 : ∀ q : Decidable ((⟨ns[i], ⟨#[ch]⟩, row⟩ : Rul) ∈ rules), (!@decide _ q) = false := fun q => by rw [@decide_eq_true _ q hmem]; rfl
            rw [e1]
            exact iteF ⟨rules, vs, _, _, _, rfl, s11.trans sT, st12, l12, sT.dK d11, r12, al12, B, hpre, fun j' X h => stay h, hl1, by omega⟩
          · have e1 : ∀ q : Decidable ((⟨ns[i], ⟨#[ch]⟩, row⟩ : Rul) ∈ rules), (!@decide _ q) = true := fun q => by rw [@decide_eq_false _ q hmem]; rfl
            rw [e1]
            refine iteT ⟨_, rfl, .inl ⟨rfl, _, SqL.of r12⟩, _, rfl, R, vs, _, rfl, rfl, r12, ?_, ?_⟩
            · rw [hvl]
              exact Nat.lt_of_le_of_lt (show rules.length ≤ 100 by omega) (by decide)
            · have hj3 : j < 4 := by omega
              have M13 : Mv [a, d, R] H9 _ := M12.upd (m := R) (o := .lst (vs ++ [.ref t])) (.inl rL)
              have tL : t ∉ [a, d, R] := fun m => by
                simp only [List.mem_cons, List.not_mem_nil, or_false] at m
                obtain ⟨q, hq⟩ := st11.1
                rcases m with e | e | e
                · rw [e, hq] at ht; cases ht
                · exact hdt e
                · exact hRt e.symm
              have wL : W ∉ [a, d, R] := fun m => by
                simp only [List.mem_cons, List.not_mem_nil, or_false] at m
                rcases m with e | e | e
                · exact hWa e
                · exact hWd e
                · exact hWR e
              refine ⟨rules ++ [⟨ns[i], ⟨#[ch]⟩, row⟩], _, _, _, _, rfl, (s11.trans sT).mut hR0 r12 True.intro, st12.upd hRa hRD, by rw [upd_ne hLR]; exact l12, by rw [upd_ne hRd.symm]; exact sT.dK d11, upd_same, (al9.mono M13.kp).snoc ⟨t, _, _, _, rfl, by rw [hidL_out tL, upd_ne hRt.symm, upd_same], rfl, rfl, W, _, rfl, by rw [hidL_out wL, upd_ne hWR]; exact sT.lst w11, strs_at.mpr rfl⟩,
                ⟨fun r hr => ?_, fun r hr => ?_, fun r hr => ?_, ?_, fun r hr => ?_, B.le⟩, fun X hX => ?_, fun j' X h => ?_, by rw [List.length_append]; omega, by rw [List.length_append]; show rules.length + 1 ≤ _; omega⟩
              · rcases List.mem_append.mp hr with z | z
                · exact B.left r z
                · rw [List.mem_singleton.mp z]; exact List.getElem_mem hin
              · rcases List.mem_append.mp hr with z | z
                · exact B.letter r z
                · rw [List.mem_singleton.mp z]; exact hch
              · rcases List.mem_append.mp hr with z | z
                · exact B.short r z
                · rw [List.mem_singleton.mp z]; exact hrl
              · refine List.nodup_append.mpr ⟨B.rnd, List.nodup_cons.mpr ⟨List.not_mem_nil, List.nodup_nil⟩, fun x hx y hy z => ?_⟩
                rw [z, List.mem_singleton.mp hy] at hx
                exact hmem hx
              · rcases List.mem_append.mp hr with z | z
                · exact B.base r z
                · rw [List.mem_singleton.mp z]; exact hrm
              · obtain ⟨r, q1, q2⟩ := hpre X hX
                exact ⟨r, List.mem_append_left _ q1, q2⟩
              · rw [rulesOf_snoc]
                by_cases e : ns[i] = X
                · rw [if_pos e, List.length_append]
                  have ej : j' = i := by
                    have hjl : j' < ns.length := (List.getElem?_eq_some_iff.mp h).1
                    have e2 : ns[j'] = X := (List.getElem?_eq_some_iff.mp h).2
                    rcases Nat.lt_trichotomy j' i with q | q | q
                    · exact absurd (e2.trans e.symm) (List.pairwise_iff_getElem.mp C.nd j' i hjl hin q)
                    · exact q
                    · exact absurd (e.trans e2.symm) (List.pairwise_iff_getElem.mp C.nd i j' hin hjl q)
                  have := hfew j' X h
                  rw [ej, if_neg (Nat.lt_irrefl i), if_pos rfl] at this
                  rw [ej, if_neg (Nat.lt_irrefl i), if_pos rfl]
                  show (rulesOf rules X).length + 1 ≤ _
                  omega
                · rw [if_neg e]; exact stay h
        · rintro σ H9 ⟨rules, vs, w8, w9, w10, rfl, s9, st9, l9, d9, r9, al9, B, hpre, hfew, hl1, hl2⟩
          refine ⟨rules, vs, _, _, _, _, rfl, s9, st9, l9, d9, r9, al9, B, hpre, fun j' X h => ?_, hl1, by omega⟩
          have := hfew j' X h
          split at this
          · rw [if_pos (by omega)]; exact this
          · split at this
            · rw [if_pos (by omega)]; omega
            · rw [if_neg (by omega)]; exact this
      · rintro σ H7 ⟨rules, vs, y7, y8, y9, y10, rfl, s7, st7, l7, _, r7, al7, B, hpre, hfew, hl1, hl2⟩
        have few : ∀ X, (rulesOf rules X).length ≤ 4 := fun X => by
          by_cases e : X ∈ ns
          · obtain ⟨j, hj, e2⟩ := List.mem_iff_getElem.mp e
            have := hfew j X (by rw [List.getElem?_eq_getElem hj, e2])
            split at this <;> omega
          · rw [rulesOf_nil_of fun r hr z => e (by rw [← z]; exact B.left r hr)]
            exact Nat.zero_le _
        have hvl := al7.length
        -- turn, at
        refine ⟨_, rfl, a, D, ds, rfl, st7, fun d1 H8 x8 => ⟨_, rfl, _, _, rfl, rfl, (by show (0 : Int) < (n : Int); omega), ?_⟩⟩
        have st8 := x8.stt st7
        have r8 := x8.keep r7 hRa (fun _ z => nomatch z)
        refine ⟨_, rfl, a, D, ds, rfl, st8, fun d2 H9 x9 => ⟨_, rfl, R, vs, rfl, .inl (SqL.of (x9.keep r8 hRa (fun _ z => nomatch z))), _, _, rfl, rfl, (by show (0 : Int) < ((vs.length : Nat) : Int); omega), ?_⟩⟩
        have x79 := x8.trans x9
        have l9 := x79.keep l7 hLna (fun _ z => nomatch z)
        have r9 := x79.keep r7 hRa (fun _ z => nomatch z)
        have s9 : Sm T H H9 := s7.nx x79 ha0 st7.1
        have M9 : Mv [a, d, R] H7 H9 := Mv.refl.nx x79 aL
        have al9 := al7.mono M9.kp
        have et1 : (d1 : Int) % (n : Int) = ((d1 % n : Nat) : Int) := by omega
        have et2 : (d2 : Int) % ((vs.length : Nat) : Int) = ((d2 % vs.length : Nat) : Int) := by omega
        have hm1 : d1 % n < n := Nat.mod_lt _ (by omega)
        have hm2 : d2 % vs.length < vs.length := Nat.mod_lt _ (by omega)
        have ec1 : cutV (ns.map V.str) (some ((d1 : Int) % (n : Int))) Option.none = (ns.drop (d1 % n)).map V.str := by
          rw [et1, cutV_from (by rw [List.length_map]; omega), List.map_drop]
        have ec2 : cutV (ns.map V.str) Option.none (some ((d1 : Int) % (n : Int))) = (ns.take (d1 % n)).map V.str := by
          rw [et1, cutV_to, List.map_take]
        have ec3 : cutV vs (some ((d2 : Int) % ((vs.length : Nat) : Int))) Option.none = vs.drop (d2 % vs.length) := by rw [et2]; exact cutV_from (by omega)
        have ec4 : cutV vs Option.none (some ((d2 : Int) % ((vs.length : Nat) : Int))) = vs.take (d2 % vs.length) := by rw [et2]; exact cutV_to
        refine ⟨_, rfl, _, rfl, _, rfl, Ln, _, rfl, SqL.of l9, fun q1 hq1 => ?_⟩
        rw [ec1]
        have t1 : Sm T H9 (upd H9 q1 (.lst ((ns.drop (d1 % n)).map V.str))) := Sm.new hq1
        refine ⟨_, rfl, _, rfl, _, rfl, Ln, _, rfl, SqL.of (t1.lst l9), fun q2 hq2 => ?_⟩
        rw [ec2]
        have t2 : Sm T H9 _ := t1.trans (Sm.new (o := .lst ((ns.take (d1 % n)).map V.str)) hq2)
        have hq12 : q1 ≠ q2 := ne_of_none upd_same hq2
        refine ⟨q1, q2, _, _, rfl, rfl, by rw [upd_ne hq12, upd_same], upd_same, ?_, fun N hN => ?_⟩
        · rw [List.length_map, List.length_map, List.length_drop, List.length_take]
          exact Nat.le_trans (show _ ≤ 100 by omega) (by decide)
        rw [← List.map_append]
        have t3 : Sm T H9 _ := t2.trans (Sm.new (o := .lst ((ns.drop (d1 % n) ++ ns.take (d1 % n)).map V.str)) hN)
        have hN9 : H9 N = Option.none := t2.fr _ hN
        refine ⟨_, rfl, _, rfl, _, rfl, R, _, rfl, SqL.of (t3.lst r9), fun q3 hq3 => ?_⟩
        rw [ec3]
        have t4 : Sm T H9 _ := t3.trans (Sm.new (o := .lst (vs.drop (d2 % vs.length))) hq3)
        refine ⟨_, rfl, _, rfl, _, rfl, R, _, rfl, SqL.of (t4.lst r9), fun q4 hq4 => ?_⟩
        rw [ec4]
        have t5 : Sm T H9 _ := t4.trans (Sm.new (o := .lst (vs.take (d2 % vs.length))) hq4)
        have hq34 : q3 ≠ q4 := ne_of_none upd_same hq4
        refine ⟨q3, q4, _, _, rfl, rfl, by rw [upd_ne hq34, upd_same], upd_same, ?_, fun R' hR' => ⟨by show 2 ≤ sizeLine; decide, fun p hp => ?_⟩⟩
        · rw [List.length_drop, List.length_take]
          exact Nat.le_trans (show _ ≤ 100 by omega) (by decide)
        have t6 : Sm T H9 _ := t5.trans (Sm.new (o := .lst (vs.drop (d2 % vs.length) ++ vs.take (d2 % vs.length))) hR')
        have t7 : Sm T H9 _ := t6.trans (Sm.new (o := .tup [.ref N, .ref R']) hp)
        have hNa : _ := ((Sm.new (T := T) (o := .lst (vs.drop (d2 % vs.length))) hq3).trans ((Sm.new (o := .lst (vs.take (d2 % vs.length))) hq4).trans ((Sm.new (o := .lst (vs.drop (d2 % vs.length) ++ vs.take (d2 % vs.length))) hR').trans (Sm.new (o := .tup [.ref N, .ref R']) hp)))).lst (upd_same)
        obtain ⟨u, I⟩ := B.pinv hpre few C (by omega) (rot_perm ns (d1 % n)) (rot_perm rules (d2 % vs.length))
        have hN5 := ((Sm.new (T := T) (o := .lst (vs.drop (d2 % vs.length))) hq3).trans (Sm.new (o := .lst (vs.take (d2 % vs.length))) hq4)).lst upd_same
        have hRN : R' ≠ N := (ne_of_none hN5 hR').symm
        refine k (ns.drop (d1 % n) ++ ns.take (d1 % n)) (rules.drop (d2 % vs.length) ++ rules.take (d2 % vs.length)) u p N R' (vs.drop (d2 % vs.length) ++ vs.take (d2 % vs.length)) _ ?_ ?_ I (s9.trans t7) upd_same (s9.fr _ hN9) hNa ?_ hRN ?_ ?_
        · rw [(rot_perm ns _).length_eq]; exact hnl
        · intro x hx
          obtain ⟨j, hj, e⟩ := List.mem_iff_getElem.mp ((rot_perm ns _).mem_iff.mp hx)
          exact ⟨j, C j x (by rw [List.getElem?_eq_getElem hj, e])⟩
        · rw [upd_ne (ne_of_none upd_same hp), upd_same]
        · exact s9.fr _ (t5.fr _ hR')
        · have hR9 : H9 R' = Option.none := t5.fr _ hR'
          refine ((al9.drop _).append (al9.take _)).mono fun b o e n => ?_
          by_cases q : b ∈ [a, d, R]
          · rw [hidL_in q] at e; cases e
          · rw [hidL_out q] at e
            have q2 : b ∉ [N, R'] := fun m => by
              simp only [List.mem_cons, List.not_mem_nil, or_false] at m
              rcases m with m | m
              · rw [m, hN9] at e; cases e
              · rw [m, hR9] at e; cases e
            rw [hidL_out q2]
            exact t7.kp b o e n
end
end SG

set_option Elab.async false
set_option linter.all false
set_option maxRecDepth 100000
set_option maxHeartbeats 8000000
set_option autoImplicit false
/-! The law's own: weights. -/
namespace SG
open PySem PySem.Spec PyProof.Rows L2 LamX C8
abbrev sWeigh : Stmt := top 54
/-- what is asked of the rules that are weighed -/
structure WRules (names : List Str) (rules : List Rul) (u : Str → Nat) : Prop where
  nms : Nms (gmOf names rules) u
  le : ∀ X ∈ names, u X ≤ 12
  left : ∀ r ∈ rules, r.a ∈ names
  row : ∀ r ∈ rules, ∀ x ∈ r.c, x ∈ names
  short : ∀ r ∈ rules, r.c.length ≤ 3
  len : rules.length ≤ 1000
abbrev Wts := List (Str × Nat)
/-- weights for all the names, none below the norm -/
structure WOk2 (names : List Str) (u : Str → Nat) (b : Wts) : Prop where
  all : ∀ X ∈ names, (dlk b X).isSome = true
  low : ∀ X n, dlk b X = some n → u X ≤ n
def spWeigh (T : List (Addr × Str)) : Sp := fun vs H Q _ => ∃ (vn vr : V) (names : List Str) (rules : List Rul) (u : Str → Nat), vs = [vn, vr] ∧ At H vr rules ∧ WRules names rules u ∧ ∀ b : Wts, WOk2 names u b → Ret T H Q (Dct.mk b)
theorem kv_anyN {H H' : Hp} : ∀ {ps : List (Key × V)} {f : Wts}, AllKv H ps f → AllKv H' ps f
  | [], [], _ => True.intro
  | [], _ :: _, h => h.elim
  | _ :: _, [], h => h.elim
  | _ :: _, _ :: _, h => ⟨h.1, h.2.1, kv_anyN h.2.2⟩
/-- the weights within a turn -/
structure WIn (names : List Str) (u : Str → Nat) (b : Wts) (t : Nat) (done : List Rul) : Prop where
  dom : ∀ X n, dlk b X = some n → X ∈ names ∧ u X ≤ n
  old : ∀ X ∈ names, u X ≤ t → (dlk b X).isSome = true
  new : ∀ r ∈ done, (∀ x ∈ r.c, u x ≤ t) → (dlk b r.a).isSome = true
theorem WIn.put {names : List Str} {rules : List Rul} {u : Str → Nat} {b : Wts} {t : Nat} {done : List Rul} {r : Rul} {n : Nat} (W : WRules names rules u) (I : WIn names u b t done) (hr : r ∈ rules) (hn : u r.a ≤ n) : WIn names u (dput b r.a n) t (done ++ [r]) := by
  refine ⟨fun X m h => ?_, fun X hX h => ?_, fun q hq h => ?_⟩
  · rw [dlk_dput] at h
    by_cases e : X = r.a
    · rw [if_pos e] at h
      cases h
      rw [e]
      exact ⟨W.left r hr, hn⟩
    · rw [if_neg e] at h
      exact I.dom X m h
  · rw [dlk_dput]
    by_cases e : X = r.a
    · rw [if_pos e]; rfl
    · rw [if_neg e]; exact I.old X hX h
  · rw [dlk_dput]
    by_cases e : q.a = r.a
    · rw [if_pos e]; rfl
    · rw [if_neg e]
      rcases List.mem_append.mp hq with z | z
      · exact I.new q z h
      · rw [List.mem_singleton.mp z] at e
        exact absurd rfl e
theorem WIn.skip {names : List Str} {rules : List Rul} {u : Str → Nat} {b : Wts} {t : Nat} {done : List Rul} {r : Rul} (W : WRules names rules u) (I : WIn names u b t done) (hr : r ∈ rules) (h : ¬ ∀ x ∈ r.c, (dlk b x).isSome = true) : WIn names u b t (done ++ [r]) := by
  refine ⟨I.dom, I.old, fun q hq k => ?_⟩
  rcases List.mem_append.mp hq with z | z
  · exact I.new q z k
  · rw [List.mem_singleton.mp z] at k
    exact absurd (fun x hx => I.old x (W.row r hr x hx) (k x hx)) h
theorem WIn.next {names : List Str} {rules : List Rul} {u : Str → Nat} {b : Wts} {t : Nat} (W : WRules names rules u) (I : WIn names u b t rules) : WIn names u b (t + 1) [] := by
  refine ⟨I.dom, fun X hX h => ?_, fun r hr => nomatch hr⟩
  by_cases e : u X ≤ t
  · exact I.old X hX e
  · obtain ⟨p, hp, e2⟩ := W.nms.n1 X hX
    exact I.new ⟨X, p.1, p.2⟩ (mem_rulesOf.mp hp) fun x hx => by
      have := wt_le_of_mem u (show x ∈ p.2 from hx)
      omega
theorem nat_opt {H G : Hp} {d : Addr} {kvs : List (Key × V)} {b : Wts} (hd : H d = some (.dK kvs)) (h : AllKv G kvs b) (X : Str) : DGet H d (.str X) ((dlk b X).map fun n : Nat => V.int (n : Int)) := by
  have := DGet.k (k := (Sum.inr X : Key)) hd
  cases e : dlk b X with
  | none =>
    rw [h.none e] at this
    exact this
  | some n =>
    obtain ⟨v, h1, h2⟩ := h.some e
    have h2 : v = V.int (n : Int) := h2
    rw [h1, h2] at this
    exact this
section
variable {P : Program} {w : World} {K : PySem.W.Frag} {mg : Str → Option Value} {base : Heap} {T : List (Addr × Str)}
theorem scWeigh : FnScope ["_law_names", "_law_rules", "_law_weights", "_law_turn", "_law_name", "_law_letter", "_law_row", "_law_one"] ["_law_names", "_law_rules"] (fnScope sWeigh) := fnScope_by (by decide +kernel)
theorem cal_weigh (X : Gs mg) (F : DefB K mg "_law_weighed" sWeigh ["_law_names", "_law_rules"]) : Cal P w K mg base 1 "_law_weighed" (spWeigh T) [] := by
  refine cal_of F scWeigh (fun vs H Q E h => ?_) (fun f cdv A outer s H vs Q E hr h => ?_)
  · obtain ⟨vn, vr, names, rules, u, rfl, _⟩ := h
    rfl
  · obtain ⟨vn, vr, names, rules, u, rfl, ⟨ar, rv, rfl, har, hrv⟩, W, k⟩ := h
    have hu := hu_of hr
    have hu64 := hr.units
    refine ⟨_, pss_cons (ps_set (i := 2) scWeigh.nd rfl (Or.inr rfl) pe_dnewK)
      (pss_cons (ps_for PassesOwn.never rfl (pi_range1 (by rfl) X.range (pa_cons pe_int pa_nil)) (pg_name (i := 3) scWeigh.nd rfl (Or.inl rfl))
        (pss_one (ps_for PassesOwn.never rfl (pi_list (pv 1)) (pg_tup3K K rfl rfl scWeigh.nd (i := 4) (j := 5) (l := 6) rfl rfl rfl (.inl rfl) (.inl rfl) (.inl rfl) (.inr rfl) (.inr rfl) (.inr rfl))
          (pss_one (ps_if (pt_cmpR (op_eqT (List Str) hu64) (pe_lc (own := [("_law_one", 7)]) rfl scWeigh.nd (pi_list (pv 6)) (blkOk_by (N := ["_law_names", "_law_rules", "_law_weights", "_law_turn", "_law_name", "_law_letter", "_law_row", "_law_one"]) (sc := fnScope sWeigh) (by decide +kernel))
              (fun _ _ _ _ _ => pg_name (i := 7) scWeigh.nd rfl (Or.inl rfl) (.inr rfl)) (fun _ _ _ _ _ => pts_one (pt_cmp (pc_dnotin hu (pv 7) (pv 2)))) (fun _ _ _ _ _ => pv 7)) (pe_lst pa_nil) (nomark _))
            (pss_one (ps_dput hu (pv 2) (pv 4) (pe_callB (call_min2 rfl) (by rfl) X.min boot_min_ (pa_cons (pe_dget2 hu (pv 2) (pv 4) (pe_op op_pow pe_int pe_int) (m := ⟨rfl, rfl, rfl, rfl⟩)) (pa_cons (pe_op op_add pe_int (pe_callB (cr_sum rfl) (by rfl) X.sum boot_sum_ (pa_cons (pe_lc (own := [("_law_one", 7)]) rfl scWeigh.nd (pi_list (pv 6)) (blkOk_by (N := ["_law_names", "_law_rules", "_law_weights", "_law_turn", "_law_name", "_law_letter", "_law_row", "_law_one"]) (sc := fnScope sWeigh) (by decide +kernel))
              (fun _ _ _ _ _ => pg_name (i := 7) scWeigh.nd rfl (Or.inl rfl) (.inr rfl)) (fun _ _ _ _ _ => pts_nil) (fun _ _ _ _ _ => pe_dget hu (pv 2) (pv 7) (fun _ _ => rfl))) pa_nil))) pa_nil))) rfl)) pss_nil)))))
      (pss_one (ps_ret (pv 2)))), ?_⟩
    intro d hd
    refine ⟨80, rfl, by decide, by decide, ?_⟩
    refine for_range (lo := 0) (n := 80) (fun t σ H' => ∃ (b : Wts) (kvs : List (Key × V)) (z3 z4 z5 z6 z7 : Option V), σ = [some vn, some (.ref ar), some (.ref d), z3, z4, z5, z6, z7] ∧ Sm T H H' ∧ H' d = some (.dK kvs) ∧ AllKv H kvs b ∧ b.length ≤ 1000 * t ∧ WIn names u b t [])
      ⟨[], [], _, _, _, _, _, rfl, Sm.new hd, upd_same, True.intro, Nat.zero_le _, ⟨fun X n h => (nomatch h), fun X hX h => ?_, fun r h => (nomatch h)⟩⟩ ?_ ?_
    · have := W.nms.pos hX
      omega
    · rintro t σ H1 ht ⟨b, kvs, z3, z4, z5, z6, z7, rfl, s1, d1, kv1, bl1, I⟩
      have har1 := s1.lst har
      refine ⟨_, rfl, ar, rfl, ⟨_, SqL.of har1⟩, for_list (K := K) (a := ar) (xs := rv) (fun i σ H' => ∃ (b : Wts) (kvs : List (Key × V)) (z3 z4 z5 z6 z7 : Option V), σ = [some vn, some (.ref ar), some (.ref d), z3, z4, z5, z6, z7] ∧ Sm T H H' ∧ H' d = some (.dK kvs) ∧ AllKv H kvs b ∧ b.length ≤ 1000 * t + i ∧ WIn names u b t (rules.take i))
        ⟨b, kvs, _, _, _, _, _, rfl, s1, d1, kv1, bl1, by rw [List.take_zero]; exact I⟩ (fun i σ H' _ h => by obtain ⟨_, _, _, _, _, _, _, _, h, _⟩ := h; exact SqL.of (h.lst har)) ?_ ?_⟩
      · rintro i v σ H2 hi ⟨b, kvs, y3, y4, y5, y6, y7, rfl, s2, d2, kv2, bl2, I2⟩
        obtain ⟨r, hr1, hat⟩ := hrv.getV hi
        obtain ⟨a1, u1, u2, u3, rfl, ha1, g1, g2, g3⟩ := hat
        have g1 : u1 = V.str r.a := g1
        have g2 : u2 = V.str r.b := g2
        subst g1
        subst g2
        obtain ⟨c, rfl, hc⟩ := (show At H u3 r.c from g3).strs
        have hrm : r ∈ rules := List.mem_of_getElem? hr1
        have hsh := W.short r hrm
        have et : rules.take (i + 1) = rules.take i ++ [r] := by
          rw [List.take_add_one, hr1]
          rfl
        have c2 := s2.lst hc
        refine ⟨a1, _, rfl, SqT.of (s2.tup ha1), rfl, _, _, rfl, _, _, rfl, _, _, rfl, rfl, ?_⟩
        refine ⟨_, rfl, c, rfl, ⟨_, SqL.of c2⟩, fun E hE => ?_⟩
        refine lc_rep (S := H2) (xs := r.c) T H2 (fun x => if (dlk b x).isSome = true then Option.none else some x) hE (fun b z => z) c2 (strs_at.mpr rfl) (by omega) (fun j v y H3 hj hat q3 hEn Ky Kn ky kn => ?_) (fun H3 ys q3 h3 hA => ?_)
        · have hat : v = V.str y := hat
          subst hat
          refine ⟨rfl, _, rfl, _, rfl, d, _, rfl, nat_opt (q3.dK d2) kv2 y, _, rfl, ?_⟩
          rw [Option.isSome_map]
          cases e : (dlk b y).isSome with
          | true => exact iteF (kn _ (by rw [if_pos e]) (Sm.refl T H3))
          | false => exact iteT ⟨_, rfl, ky _ y _ (by rw [if_neg (by rw [e]; exact Bool.false_ne_true)]) (Sm.refl T H3) rfl⟩
        rw [strs_at] at hA
        subst hA
        have s3 := s2.trans q3
        have d3 := q3.dK d2
        have c3 := q3.lst c2
        refine ⟨Nat.zero_le _, fun t0 ht0 => ⟨_, [], ⟨E, _, rfl, by rw [upd_ne (ne_of_none h3 ht0)]; exact h3, strs_at.mpr rfl⟩, ⟨t0, [], rfl, upd_same, True.intro⟩, _, rfl, ?_⟩⟩
        have sT : Sm T H3 (upd H3 t0 (.lst [])) := Sm.new ht0
        have s4 := s3.trans sT
        have d4 := sT.dK d3
        have c4 := sT.lst c3
        by_cases hall : ∀ x ∈ r.c, (dlk b x).isSome = true
        · have e1 : r.c.filterMap (fun x => if (dlk b x).isSome = true then Option.none else some x) = [] := by
            rw [List.filterMap_eq_nil_iff]
            intro x hx
            rw [if_pos (hall x hx)]
          rw [e1, decide_eq_true rfl]
          refine iteT ?_
          have e2 : r.c.filterMap (fun x => some (((dlk b x).getD 0 : Nat) : Int)) = r.c.map fun x => (((dlk b x).getD 0 : Nat) : Int) := by
            rw [← List.filterMap_eq_map]
            rfl
          refine ⟨_, rfl, d, rfl, .inl ⟨_, .inl d4⟩, _, rfl, _, _, rfl, rfl, ⟨by decide, by decide, by decide⟩, _, nat_opt d4 kv2 r.a, ?_⟩
          refine ⟨_, rfl, c, rfl, ⟨_, SqL.of c4⟩, fun E2 hE2 => ?_⟩
          refine lc_rep (S := H) (xs := r.c) T (upd H3 t0 (.lst [])) (fun x => some (((dlk b x).getD 0 : Nat) : Int)) hE2 (fun b z => z) c4 (strs_at.mpr rfl) (by omega) (fun j v y H5 hj hat q5 hEn Ky Kn ky kn => ?_) (fun H5 ys q5 h5 hA => ?_)
          · have hat : v = V.str y := hat
            subst hat
            obtain ⟨n, hn⟩ := Option.isSome_iff_exists.mp (hall y (List.mem_of_getElem? hj))
            refine ⟨rfl, yes_if ⟨_, rfl, _, rfl, d, _, rfl, nat_get (q5.dK d4) kv2 hn, ky _ (((dlk b y).getD 0 : Nat) : Int) _ rfl (Sm.refl T H5) ?_⟩⟩
            rw [hn]
            rfl
          rw [e2, ints_at] at hA
          subst hA
          refine ⟨E2, _, rfl, SqL.of h5, ?_⟩
          rw [sum_wt]
          have d5 := q5.dK d4
          have s5 := s4.trans q5
          have hkl : kvs.length < sizeLine := by
            rw [kv2.length]
            have hi3 : i < rules.length := (List.getElem?_eq_some_iff.mp hr1).1
            have := W.len
            exact Nat.lt_of_le_of_lt (show b.length ≤ 90000 by omega) (by decide)
          refine ⟨_, _, rfl, rfl, (((dlk b r.a).getD 1000000000 : Nat) : Int), 1 + ((wt (fun x => (dlk b x).getD 0) r.c : Nat) : Int), by cases dlk b r.a <;> rfl, _, rfl, _, rfl, d, _, rfl, DPut.k (k := Sum.inr r.a) d5 hkl, ?_⟩
          have hg : u r.a ≤ (dlk b r.a).getD 1000000000 := by
            cases e : dlk b r.a with
            | some n => exact (I2.dom r.a n e).2
            | none =>
              have := W.le r.a (W.left r hrm)
              exact Nat.le_trans this (by decide)
          have hg2 : u r.a ≤ 1 + wt (fun x => (dlk b x).getD 0) r.c := by
            have h1 := W.nms.n2 r.a (W.left r hrm) (r.b, r.c) (mem_rulesOf.mpr hrm)
            have h2 : wt u r.c ≤ wt (fun x => (dlk b x).getD 0) r.c := wt_mono fun x hx => by
              obtain ⟨n, hn⟩ := Option.isSome_iff_exists.mp (hall x hx)
              rw [hn]
              exact (I2.dom x n hn).2
            have h1 : u r.a ≤ 1 + wt u r.c := h1
            omega
          generalize hG : (dlk b r.a).getD 1000000000 = G at hg ⊢
          generalize hS : wt (fun x => (dlk b x).getD 0) r.c = S at hg2 ⊢
          have ev : (if 1 + ((S : Nat) : Int) < ((G : Nat) : Int) then 1 + ((S : Nat) : Int) else ((G : Nat) : Int)) = (((if 1 + S < G then 1 + S else G : Nat) : Nat) : Int) := by
            by_cases q : 1 + S < G
            · rw [if_pos q, if_pos (by omega)]; omega
            · rw [if_neg q, if_neg (by omega)]
          rw [ev]
          have hgg : u r.a ≤ (if 1 + S < G then 1 + S else G) := by
            split <;> omega
          refine ⟨dput b r.a (if 1 + S < G then 1 + S else G), _, _, _, _, _, _, rfl, s5.mut hd d5 True.intro, upd_same, AllKv.put kv2 rfl, ?_, by rw [et]; exact I2.put W hrm hgg⟩
          have : (dput b r.a (if 1 + S < G then 1 + S else G)).length ≤ b.length + 1 := by
            unfold dput
            split
            · rw [List.length_map]; omega
            · rw [List.length_append]; exact Nat.le_refl _
          omega
        · have e1 : r.c.filterMap (fun x => if (dlk b x).isSome = true then Option.none else some x) ≠ [] := fun z => by
            rw [List.filterMap_eq_nil_iff] at z
            refine hall fun x hx => ?_
            have := z x hx
            by_cases q : (dlk b x).isSome = true
            · exact q
            · rw [if_neg q] at this
              cases this
          rw [decide_eq_false e1]
          exact iteF ⟨b, kvs, _, _, _, _, _, rfl, s4, d4, kv2, by omega, by rw [et]; exact I2.skip W hrm hall⟩
      · rintro σ H2 ⟨b, kvs, y3, y4, y5, y6, y7, rfl, s2, d2, kv2, bl2, I2⟩
        have hl := hrv.length
        rw [hl, List.take_length] at I2
        have := W.len
        exact ⟨b, kvs, _, _, _, _, _, rfl, s2, d2, kv2, by omega, I2.next W⟩
    · rintro σ H1 ⟨b, kvs, z3, z4, z5, z6, z7, rfl, s1, d1, kv1, bl1, I⟩
      exact ⟨_, rfl, k b ⟨fun X hX => I.old X hX (Nat.le_trans (W.le X hX) (by decide)), fun X n h => (I.dom X n h).2⟩ _ _ s1 ⟨d, kvs, rfl, .inl (by rw [dif_new hd]; exact d1), kv_anyN kv1⟩⟩
end
end SG

set_option Elab.async false
set_option linter.all false
set_option maxRecDepth 100000
set_option maxHeartbeats 8000000
set_option autoImplicit false
/-! The law's own: steps by the first name, what is put in. -/
namespace SG
open PySem PySem.Spec PyProof.Rows L2 LamX C8
abbrev sByFirst : Stmt := top 55
abbrev sPutIn : Stmt := top 57
abbrev sGoes : Stmt := top 58
/-- S are the row's steps -/
def StepsOf (rules : List Rul) (row : List Str) (S : List RP) : Prop := S.Nodup ∧ ∀ p : RP, p ∈ S ↔ ∃ m1 rest q, row = m1 :: rest ∧ q ∈ rulesOf rules m1 ∧ p = (q.1, q.2 ++ rest)
def spByFirst (T : List (Addr × Str)) : Sp := fun vs H Q _ => ∃ (vr v : V) (rules : List Rul) (row : List Str), vs = [vr, v] ∧ At H vr rules ∧ At H v row ∧ rules.length ≤ 1000 ∧ row.length ≤ 1000 ∧ (∀ r ∈ rules, r.c.length ≤ 3) ∧ ∀ S : List RP, StepsOf rules row S → S.length ≤ rules.length → Ret T H Q S
def spGoes (T : List (Addr × Str)) : Sp := fun vs H Q _ => ∃ (vr v : V) (rules : List Rul) (row : List Str), vs = [vr, .str "row", v] ∧ At H vr rules ∧ At H v row ∧ rules.length ≤ 1000 ∧ row.length ≤ 1000 ∧ (∀ r ∈ rules, r.c.length ≤ 3) ∧ ∀ S : List RP, StepsOf rules row S → S.length ≤ rules.length → Ret T H Q S
def spPutIn (T : List (Addr × Str)) : Sp := fun vs H Q _ => ∃ (vb v : V) (b : Bs) (row : List Str), vs = [.str "row", vb, v] ∧ At H vb (Dct.mk b) ∧ At H v row ∧ (out (dlk b) row).length ≤ 100000 ∧ Ret T H Q (out (dlk b) row)
/-- within the loop -/
theorem steps_snoc {rules : List Rul} {row : List Str} {S : List RP} (h : StepsOf rules row S) (r : Rul) : (∀ m1 rest, row = m1 :: rest → r.a = m1 → (r.b, r.c ++ rest) ∉ S → StepsOf (rules ++ [r]) row (S ++ [(r.b, r.c ++ rest)])) ∧
    ((∀ m1 rest, row = m1 :: rest → r.a = m1 → (r.b, r.c ++ rest) ∈ S) → StepsOf (rules ++ [r]) row S) := by
  constructor
  · intro m1 rest e1 e2 hn
    subst e1
    refine ⟨List.nodup_append.mpr ⟨h.1, List.nodup_cons.mpr ⟨List.not_mem_nil, List.nodup_nil⟩, fun x hx y hy z => hn (by rw [← List.mem_singleton.mp hy, ← z]; exact hx)⟩, fun p => ?_⟩
    rw [List.mem_append, h.2 p, List.mem_singleton]
    constructor
    · rintro (⟨m, rs, q, e, hq, e3⟩ | e3)
      · refine ⟨m, rs, q, e, ?_, e3⟩
        rw [rulesOf_app]
        exact List.mem_append_left _ hq
      · exact ⟨m1, rest, (r.b, r.c), rfl, by rw [rulesOf_snoc, if_pos e2]; exact List.mem_append_right _ (List.mem_singleton.mpr rfl), e3⟩
    · rintro ⟨m, rs, q, e, hq, e3⟩
      cases e
      rw [rulesOf_snoc, if_pos e2] at hq
      rcases List.mem_append.mp hq with z | z
      · exact .inl ⟨m1, rest, q, rfl, z, e3⟩
      · rw [List.mem_singleton.mp z] at e3
        exact .inr e3
  · intro k
    refine ⟨h.1, fun p => ?_⟩
    rw [h.2 p]
    constructor
    · rintro ⟨m, rs, q, e, hq, e3⟩
      refine ⟨m, rs, q, e, ?_, e3⟩
      rw [rulesOf_app]
      exact List.mem_append_left _ hq
    · rintro ⟨m, rs, q, e, hq, e3⟩
      rw [rulesOf_snoc] at hq
      by_cases e2 : r.a = m
      · rw [if_pos e2] at hq
        rcases List.mem_append.mp hq with z | z
        · exact ⟨m, rs, q, e, z, e3⟩
        · rw [List.mem_singleton.mp z] at e3
          have := k m rs e e2
          rw [e3]
          exact (h.2 _).mp this
      · rw [if_neg e2] at hq
        exact ⟨m, rs, q, e, hq, e3⟩
section
variable {P : Program} {w : World} {K : PySem.W.Frag} {mg : Str → Option Value} {base : Heap} {T : List (Addr × Str)}
theorem scByFirst : FnScope ["_law_rules", "_law_row", "_law_found", "_law_name", "_law_letter", "_law_more"] ["_law_rules", "_law_row"] (fnScope sByFirst) := fnScope_by (by decide +kernel)
theorem cal_by_first (X : Gs mg) (F : DefB K mg "_law_by_first" sByFirst ["_law_rules", "_law_row"]) : Cal P w K mg base 1 "_law_by_first" (spByFirst T) [] := by
  refine cal_of F scByFirst (fun vs H Q E h => ?_) (fun f cdv A outer s H vs Q E hr h => ?_)
  · obtain ⟨vr, v, rules, row, rfl, _⟩ := h
    rfl
  · obtain ⟨vr, v, rules, row, rfl, ⟨ar, rv, rfl, har, hrv⟩, hrow, hl, hrl, hsh, k⟩ := h
    have hun := hr.un
    have hu64 := hr.units
    obtain ⟨c, rfl, hc⟩ := hrow.strs
    refine ⟨_, pss_cons (ps_set (i := 2) scByFirst.nd rfl (Or.inl rfl) (pe_lst pa_nil))
      (pss_cons (ps_for PassesOwn.never rfl (pi_list (pv 0)) (pg_tup3K K rfl rfl scByFirst.nd (i := 3) (j := 4) (l := 5) rfl rfl rfl (.inl rfl) (.inl rfl) (.inl rfl) (.inl rfl) (.inl rfl) (.inl rfl))
        (pss_one (ps_if (PW.pt (pw_and (pt_cmpR (op_neT (List Str) hu64) (pv 1) (pe_lst pa_nil) (nomark _)) (pw_and (pt_cmpR op_eq (pv 3) (pe_ix ix_list (pv 1) pe_int (fun _ _ => rfl)) (nomark _))
            (pw_and1 (pt_cmpR (op_notInT RP (by show (A.deeper _).units + 65 < cLine; omega)) (pe_tup (pa_cons (pv 4) (pa_cons (pe_op op_cat (pv 5) (pe_slice sl_list (pv 1) (po_some pe_int) po_none)) pa_nil))) (pv 2) (by rfl))))))
          (pss_one (ps_expr (pe_bm PySem.F.plainAttrs_list PySem.F.slot_list_append PySem.F.type_list_append mt_append (pv 2) (pa_cons (pe_tup (pa_cons (pv 4) (pa_cons (pe_op op_cat (pv 5) (pe_slice sl_list (pv 1) (po_some pe_int) po_none)) pa_nil))) pa_nil)))) pss_nil)))
      (pss_one (ps_ret (pe_callB (cr_sortT RP alike_steps sortable_steps hu64) (by rfl) X.sorted boot_sorted_ (pa_cons (pv 2) pa_nil))))), ?_⟩
    refine ⟨Nat.zero_le _, fun D hD => ?_⟩
    have s0 : Sm T H (upd H D (.lst [])) := Sm.new hD
    refine ⟨_, rfl, ar, rfl, ⟨_, SqL.of (s0.lst har)⟩, for_list (K := K) (a := ar) (xs := rv) (fun i σ H' => ∃ (S : List RP) (ys : List V) (z3 z4 z5 : Option V), σ = [some (.ref ar), some (.ref c), some (.ref D), z3, z4, z5] ∧ Sm T H H' ∧ H' D = some (.lst ys) ∧ AllAt (hid (dif H' H) D) ys S ∧ S.length ≤ i ∧ StepsOf (rules.take i) row S)
      ⟨[], [], _, _, _, rfl, s0, upd_same, True.intro, Nat.zero_le _, List.nodup_nil, fun p => ⟨fun h => (nomatch h), fun ⟨m, rs, q, e, hq, _⟩ => by rw [List.take_zero] at hq; exact nomatch hq⟩⟩ (fun i σ H' _ h => by obtain ⟨_, _, _, _, _, _, h, _⟩ := h; exact SqL.of (h.lst har)) ?_ ?_⟩
    · rintro i v σ H1 hi ⟨S, ys, z3, z4, z5, rfl, s1, h1, hA, hSl, hS⟩
      obtain ⟨r, hr1, hat⟩ := hrv.getV hi
      obtain ⟨a1, u1, u2, u3, rfl, ha1, g1, g2, g3⟩ := hat
      have g1 : u1 = V.str r.a := g1
      have g2 : u2 = V.str r.b := g2
      subst g1
      subst g2
      obtain ⟨cr, rfl, hcr⟩ := (show At H u3 r.c from g3).strs
      have hrm : r ∈ rules := List.mem_of_getElem? hr1
      have hsr := hsh r hrm
      have et : rules.take (i + 1) = rules.take i ++ [r] := by
        rw [List.take_add_one, hr1]
        rfl
      obtain ⟨n1, n2⟩ := steps_snoc hS r
      rw [← et] at n1 n2
      have hyl : ys.length = S.length := hA.length
      have hir : i < rules.length := (List.getElem?_eq_some_iff.mp hr1).1
      refine ⟨a1, _, rfl, SqT.of (s1.tup ha1), rfl, _, _, rfl, _, _, rfl, _, _, rfl, rfl, ?_⟩
      refine ⟨_, rfl, Nat.zero_le _, fun q hq => ?_⟩
      have sq : Sm T H1 (upd H1 q (.lst [])) := Sm.new hq
      have s2 := s1.trans sq
      have kz : Kp (hid (dif H1 H) D) (hid (dif (upd H1 q (.lst [])) H) D) := hid_mono (dif_mono (fun _ z => z) sq.kp)
      refine ⟨row, [], ⟨c, _, rfl, s2.lst hc, strs_at.mpr rfl⟩, ⟨q, [], rfl, upd_same, True.intro⟩, _, rfl, ?_⟩
      cases row with
      | nil =>
        have e1 : ∀ i : Decidable (([] : List Str) = []), (!@decide _ i) = false := fun i => by rw [@decide_eq_true _ i rfl]; rfl
        rw [e1]
        exact iteF (iteF ⟨S, ys, _, _, _, rfl, s2, sq.lst h1, hA.mono kz, by omega, n2 fun m1 rest e => nomatch e⟩)
      | cons m1 rest =>
        have e1 : ∀ i : Decidable ((m1 :: rest) = []), (!@decide _ i) = true := fun i => by rw [@decide_eq_false _ i (List.cons_ne_nil _ _)]; rfl
        rw [e1]
        refine iteT ⟨_, rfl, _, rfl, c, _, 0, .str m1, rfl, rfl, SqL.of (s2.lst hc), atI_nat (j := 0) rfl, rfl, _, rfl, ?_⟩
        by_cases e2 : r.a = m1
        · have e3 : decide (V.str r.a = V.str m1) = true := decide_eq_true (by rw [e2])
          rw [e3]
          have ecut : cutV ((m1 :: rest).map V.str) (some 1) Option.none = rest.map V.str := cutV_from (k := 1) (xs := (m1 :: rest).map V.str) (by simp)
          refine iteT ⟨_, rfl, _, rfl, _, rfl, 1, rfl, c, _, rfl, SqL.of (s2.lst hc), fun q2 hq2 => ?_⟩
          rw [ecut]
          have t1 : Sm T (upd H1 q (.lst [])) (upd (upd H1 q (.lst [])) q2 (.lst (rest.map V.str))) := Sm.new hq2
          refine ⟨cr, q2, _, _, rfl, rfl, t1.lst (s2.lst hcr), upd_same, ?_, fun q3 hq3 => ⟨by show 2 ≤ sizeLine; decide, fun t ht => ?_⟩⟩
          · rw [List.length_map, List.length_map]
            have : rest.length + 1 ≤ 1000 := hrl
            exact Nat.le_trans (show r.c.length + rest.length ≤ 5000 by omega) (by decide)
          rw [← List.map_append] at ht ⊢
          have t2 := t1.trans (Sm.new (o := .lst ((r.c ++ rest).map V.str)) hq3)
          have t3 := t2.trans (Sm.new (o := .tup [.str r.b, .ref q3]) ht)
          have s5 := s2.trans t3
          have hq3t : q3 ≠ t := ne_of_none upd_same ht
          have kz2 : Kp (hid (dif (upd H1 q (.lst [])) H) D) (hid (dif _ H) D) := hid_mono (dif_mono (fun _ z => z) t3.kp)
          have hD5 := t3.lst (sq.lst h1)
          refine ⟨_, rfl, (r.b, r.c ++ rest), S, ⟨t, _, _, rfl, upd_same, rfl, q3, _, rfl, by rw [upd_ne hq3t, upd_same], strs_at.mpr rfl⟩, ⟨D, ys, rfl, hD5, hA.mono ((kz.trans kz2).trans (hid_kp.trans dif_kp))⟩, _, rfl, ?_⟩
          by_cases hm : (r.b, r.c ++ rest) ∈ S
          · have e4 : ∀ q : Decidable ((r.b, r.c ++ rest) ∈ S), (!@decide _ q) = false := fun q => by rw [@decide_eq_true _ q hm]; rfl
            rw [e4]
            exact iteF ⟨S, ys, _, _, _, rfl, s5, hD5, hA.mono (kz.trans kz2), by omega, n2 fun m r2 e5 _ => by cases e5; exact hm⟩
          · have e4 : ∀ q : Decidable ((r.b, r.c ++ rest) ∈ S), (!@decide _ q) = true := fun q => by rw [@decide_eq_false _ q hm]; rfl
            rw [e4]
            refine iteT ⟨_, rfl, .inl ⟨rfl, _, SqL.of hD5⟩, _, rfl, _, rfl, _, rfl, 1, rfl, c, _, rfl, SqL.of (s5.lst hc), fun p2 hp2 => ?_⟩
            rw [ecut]
            have w1 : Sm T _ _ := Sm.new (T := T) (o := .lst (rest.map V.str)) hp2
            refine ⟨cr, p2, _, _, rfl, rfl, w1.lst (s5.lst hcr), upd_same, ?_, fun p3 hp3 => ⟨by show 2 ≤ sizeLine; decide, fun t2 ht2 => ?_⟩⟩
            · rw [List.length_map, List.length_map]
              have : rest.length + 1 ≤ 1000 := hrl
              exact Nat.le_trans (show r.c.length + rest.length ≤ 5000 by omega) (by decide)
            rw [← List.map_append] at ht2 ⊢
            have w2 := w1.trans (Sm.new (o := .lst ((r.c ++ rest).map V.str)) hp3)
            have w3 := w2.trans (Sm.new (o := .tup [.str r.b, .ref p3]) ht2)
            have s6 := s5.trans w3
            have hp3t : p3 ≠ t2 := ne_of_none upd_same ht2
            have hD6 := w3.lst hD5
            have hp3D : p3 ≠ D := fun e => by
              rw [e] at hp3
              rw [w1.lst hD5] at hp3
              cases hp3
            have ht2D : t2 ≠ D := fun e => by
              rw [e] at ht2
              rw [w2.lst hD5] at ht2
              cases ht2
            have kz3 : Kp (hid (dif _ H) D) (hid (dif _ H) D) := hid_mono (dif_mono (fun _ z => z) w3.kp)
            refine ⟨D, ys, _, rfl, rfl, hD6, by rw [hyl]; exact Nat.lt_of_le_of_lt (show S.length ≤ 5000 by omega) (by decide), ?_⟩
            have t20 : H t2 = Option.none := (s5.trans w2).fr _ ht2
            have p30 : H p3 = Option.none := (s5.trans w1).fr _ hp3
            refine ⟨S ++ [(r.b, r.c ++ rest)], _, _, _, _, rfl, s6.mut hD hD6 True.intro, upd_same, ?_, by rw [List.length_append]; exact Nat.succ_le_succ hSl, n1 m1 rest rfl e2 hm⟩
            refine ((hA.mono ((kz.trans kz2).trans kz3)).snoc ⟨t2, _, _, rfl, by rw [hid_ne ht2D, dif_new t20, upd_same], rfl, p3, _, rfl, by rw [hid_ne hp3D, dif_new p30, upd_ne hp3t, upd_same], strs_at.mpr rfl⟩).mono hid_upd
        · have e3 : decide (V.str r.a = V.str m1) = false := decide_eq_false fun z => e2 (by injection z)
          rw [e3]
          exact iteF (iteF ⟨S, ys, _, _, _, rfl, s2, sq.lst h1, hA.mono kz, by omega, n2 fun m r2 e5 e6 => by cases e5; exact absurd e6 e2⟩)
    · rintro σ H1 ⟨S, ys, z3, z4, z5, rfl, s1, h1, hA, hSl, hS⟩
      have hlr := hrv.length
      rw [hlr, List.take_length] at hS
      refine ⟨_, rfl, hid (dif H1 H) D, D, ys, S, rfl, h1, hA, hid_kp.trans dif_kp, by omega, fun p us hp hus => ?_⟩
      have hS2 : StepsOf rules row (srt RP S) := ⟨(srt_perm S).nodup_iff.mpr hS.1, fun q => by rw [(srt_perm S).mem_iff]; exact hS.2 q⟩
      refine k (srt RP S) hS2 (by rw [(srt_perm S).length_eq]; omega) _ _ (s1.trans (Sm.new hp)) ⟨p, us, rfl, by rw [dif_new (s1.fr _ hp), upd_same], hus.mono (hid_kp.trans (dif_mono (fun _ z => z) (Sm.new (T := T) hp).kp))⟩
end
end SG

set_option Elab.async false
set_option linter.all false
set_option maxRecDepth 100000
set_option maxHeartbeats 8000000
set_option autoImplicit false
/-! The law's own: what is put in; steps met. -/
namespace SG
open PySem PySem.Spec PyProof.Rows L2 LamX C8
abbrev sMet : Stmt := top 59
def spMet (T : List (Addr × Str)) : Sp := fun vs H Q _ => ∃ (vr vb v1 v2 : V) (rules : List Rul) (b : Bs) (one other : List Str), vs = [vr, .str "row", vb, v1, v2] ∧ At H vr rules ∧ At H vb (Dct.mk b) ∧ At H v1 one ∧ At H v2 other ∧ rules.length ≤ 1000 ∧ one.length ≤ 1000 ∧ other.length ≤ 1000 ∧ (∀ r ∈ rules, r.c.length ≤ 3) ∧ BL b ∧
  (∀ S1 S2, StepsOf rules one S1 → StepsOf rules other S2 → ∀ p ∈ S1, ∃ q ∈ S2, p.1 = q.1 ∧ out (dlk b) p.2 = out (dlk b) q.2) ∧ ∀ H', Sm T H H' → Q (.bl true) H'
theorem StepsOf.short {rules : List Rul} {row : List Str} {S : List RP} (h : StepsOf rules row S) (hs : ∀ r ∈ rules, r.c.length ≤ 3) (hl : row.length ≤ 1000) : ∀ p ∈ S, p.2.length ≤ 1003 := fun p hp => by
  obtain ⟨m, rest, q, e, hq, rfl⟩ := (h.2 p).mp hp
  have := hs _ (mem_rulesOf.mp hq)
  subst e
  have : rest.length + 1 ≤ 1000 := hl
  have h3 : q.2.length ≤ 3 := hs _ (mem_rulesOf.mp hq)
  show (q.2 ++ rest).length ≤ 1003
  rw [List.length_append]
  omega
section
variable {P : Program} {w : World} {K : PySem.W.Frag} {mg : Str → Option Value} {base : Heap} {T : List (Addr × Str)}
theorem scPutIn : FnScope ["_law_kind", "_law_base", "_law_one", "_law_found", "_law_name"] ["_law_kind", "_law_base", "_law_one"] (fnScope sPutIn) := fnScope_by (by decide +kernel)
theorem cal_put_in (X : Gs mg) (F : DefB K mg "_law_put_in" sPutIn ["_law_kind", "_law_base", "_law_one"]) : Cal P w K mg base 1 "_law_put_in" (spPutIn T) [] := by
  refine cal_of F scPutIn (fun vs H Q E h => ?_) (fun f cdv A outer s H vs Q E hr h => ?_)
  · obtain ⟨v, u, b, row, rfl, _⟩ := h
    rfl
  · obtain ⟨v, u, b, row, rfl, hd, hrow, hlen, k⟩ := h
    have hu := hu_of hr
    obtain ⟨a, rfl, ha⟩ := hrow.strs
    refine ⟨_, pss_cons (ps_set (i := 3) scPutIn.nd rfl (Or.inl rfl) (pe_lst pa_nil))
      (pss_cons (ps_for PassesOwn.never rfl (pi_list (pv 2)) (pg_name (i := 4) scPutIn.nd rfl (Or.inl rfl))
        (pss_one (ps_set (i := 3) scPutIn.nd rfl (Or.inl rfl) (pe_op op_cat (pv 3) (pe_listK K rfl (by rfl) X.list (pa_cons (pe_dget2 hu (pv 1) (pv 4) (pe_lst (pa_cons (pv 4) pa_nil)) (m := ⟨rfl, rfl, rfl, rfl⟩)) pa_nil))))))
      (pss_cons (ps_if (pt_cmpR op_eq (pv 0) pe_str (nomark _)) (pss_one ps_never) pss_nil)
      (pss_one (ps_ret (pv 3))))), ?_⟩
    refine ⟨Nat.zero_le _, fun D hD => ?_⟩
    have s0 : Sm T H (upd H D (.lst [])) := Sm.new hD
    refine ⟨_, rfl, a, rfl, ⟨_, SqL.of (s0.lst ha)⟩, for_list (K := K) (a := a) (xs := row.map V.str) (fun i σ H' => Sm T H H' ∧ ∃ (F : Addr) (z : Option V), σ = [some (.str "row"), some v, some (.ref a), some (.ref F), z] ∧ H F = Option.none ∧ H' F = some (.lst ((out (dlk b) (row.take i)).map V.str)))
      ⟨s0, D, _, rfl, hD, upd_same⟩ (fun i σ H' _ h => SqL.of (h.1.lst ha)) ?_ ?_⟩
    · rintro i y σ H' hi ⟨sm, F, z, rfl, hF, hF'⟩
      rw [List.getElem?_map] at hi
      obtain ⟨x, hx, rfl⟩ := Option.map_eq_some_iff.mp hi
      have et : row.take (i + 1) = row.take i ++ [x] := by
        rw [List.take_add_one, hx]
        rfl
      obtain ⟨d, e, isd, hg⟩ := (hd.mono sm.kp).dlk x
      subst e
      refine ⟨_, rfl, _, rfl, d, rfl, isd, _, rfl, _, rfl, by show 1 ≤ sizeLine; decide, fun p hp => ?_⟩
      have sp : Sm T H' (upd H' p (.lst [.str x])) := Sm.new hp
      obtain ⟨d2, e, isd2, hg2⟩ := (hd.mono (sm.trans sp).kp).dlk x
      cases e
      have l2 := out_take b row (i + 1)
      rw [et, out_append, List.length_append] at l2
      have fin : ∀ (q : Addr) (zs : List Str), (upd H' p (.lst [.str x])) q = some (.lst (zs.map V.str)) → zs = out (dlk b) [x] →
          rListK K [.ref q] (upd H' p (.lst [.str x])) fun u H3 => rCat (.ref F) u H3 fun v' H4 => Sm T H H4 ∧ ∃ (F' : Addr) (z : Option V), [some (V.str "row"), some (.ref d), some (.ref a), some (.ref F), some (.str x)].set 3 (some v') = [some (V.str "row"), some (.ref d), some (.ref a), some (.ref F'), z] ∧ H F' = Option.none ∧ H4 F' = some (.lst ((out (dlk b) (row.take (i + 1))).map V.str)) := fun q zs hq e => by
        refine ⟨q, _, rfl, .inl (SqL.of hq), fun l hl => ?_⟩
        have s3 := sp.trans (Sm.new (T := T) (o := .lst (zs.map V.str)) hl)
        refine ⟨F, l, _, _, rfl, rfl, s3.lst hF', upd_same, ?_, fun q2 hq2 => ?_⟩
        · rw [List.length_map, List.length_map, e]
          exact Nat.le_trans (Nat.le_trans l2 hlen) (by decide)
        · have s4 := (sm.trans s3).trans (Sm.new (T := T) (o := .lst ((out (dlk b) (row.take i)).map V.str ++ zs.map V.str)) hq2)
          refine ⟨s4, q2, _, rfl, (sm.trans s3).fr _ hq2, ?_⟩
          rw [upd_same, et, out_append, List.map_append, e]
      cases e : dlk b x with
      | none =>
        rw [e] at hg2
        exact ⟨_, hg2, fin p [x] upd_same (by rw [out_one, e]; rfl)⟩
      | some m =>
        rw [e] at hg2
        obtain ⟨u, hg2, hm⟩ := hg2
        obtain ⟨q, rfl, hq⟩ := hm.strs
        exact ⟨_, hg2, fin q m hq (by rw [out_one, e]; rfl)⟩
    · rintro σ H' ⟨sm, F, z, rfl, hF, hF'⟩
      rw [List.length_map, List.take_length] at hF'
      refine ⟨_, rfl, rfl, _, rfl, ?_⟩
      rw [decide_eq_false (by decide +kernel)]
      refine iteF ⟨_, rfl, k _ _ sm ⟨F, _, rfl, by rw [dif_new hF]; exact hF', strs_at.mpr rfl⟩⟩
theorem scGoes : FnScope ["_law_rules", "_law_kind", "_law_one"] ["_law_rules", "_law_kind", "_law_one"] (fnScope sGoes) := fnScope_by (by decide +kernel)
theorem cal_goes (X : Gs mg) (cBF : Cal P w K mg base 1 "_law_by_first" (spByFirst T) []) (F : DefB K mg "_law_goes" sGoes ["_law_rules", "_law_kind", "_law_one"]) : Cal P w K mg base 2 "_law_goes" (spGoes T) [] := by
  refine cal_of F scGoes (fun vs H Q E h => ?_) (fun f cdv A outer s H vs Q E hr h => ?_)
  · obtain ⟨vr, v, rules, row, rfl, _⟩ := h
    rfl
  · obtain ⟨vr, v, rules, row, rfl, h1, h2, h3, h4, h5, k⟩ := h
    refine ⟨_, pss_cons (ps_if (pt_cmpR op_eq (pv 1) pe_str (nomark _)) (pss_one (ps_ret (pe_c cBF hr (by decide) rfl (pa_cons (pv 0) (pa_cons (pv 2) pa_nil))))) pss_nil) pss_never, ?_⟩
    refine ⟨_, rfl, rfl, _, rfl, ?_⟩
    rw [decide_eq_true rfl]
    exact iteT ⟨_, rfl, _, rfl, vr, v, rules, row, rfl, h1, h2, h3, h4, h5, k⟩
abbrev metN : List Str := ["_law_rules", "_law_kind", "_law_base", "_law_one", "_law_other", "_law_letter", "_law_more", "_law_some"]
theorem scMet : FnScope metN ["_law_rules", "_law_kind", "_law_base", "_law_one", "_law_other"] (fnScope sMet) := fnScope_by (by decide +kernel)
theorem cal_met (X : Gs mg) (cG : Cal P w K mg base 2 "_law_goes" (spGoes T) []) (cP : Cal P w K mg base 1 "_law_put_in" (spPutIn T) []) (F : DefB K mg "_law_met" sMet ["_law_rules", "_law_kind", "_law_base", "_law_one", "_law_other"]) : Cal P w K mg base 3 "_law_met" (spMet T) [] := by
  refine cal_of F scMet (fun vs H Q E h => ?_) (fun f cdv A outer s H vs Q E hr h => ?_)
  · obtain ⟨vr, vb, v1, v2, rules, b, one, other, rfl, _⟩ := h
    rfl
  · obtain ⟨vr, vb, v1, v2, rules, b, one, other, rfl, hr1, hb1, h1, h2, hl, hl1, hl2, hsh, hB, hmet, k⟩ := h
    have hun := hr.un
    refine ⟨_, pss_cons (ps_setLc (i := 7) (own := [("_law_letter", 5), ("_law_more", 6)]) rfl scMet.nd rfl rfl (sw_true rfl rfl rfl (by decide +kernel)) (pi_list (pe_c cG hr (by decide) rfl (pa_cons (pv 0) (pa_cons (pv 1) (pa_cons (pv 4) pa_nil)))))
        (blkOk_by (N := metN) (sc := fnScope sMet) (by decide +kernel))
        (fun _ _ _ _ _ => pg_tup2K K rfl rfl scMet.nd (i := 5) (j := 6) rfl rfl (.inl rfl) (.inl rfl) (.inr rfl) (.inr rfl))
        (fun _ _ _ _ _ => pts_nil) (fun _ _ _ _ _ => pe_tup (pa_cons (pv 5) (pa_cons (pe_c cP hr (by decide) rfl (pa_cons (pv 1) (pa_cons (pv 2) (pa_cons (pv 6) pa_nil)))) pa_nil))))
      (pss_cons (ps_for PassesOwn.never rfl (pi_list (pe_c cG hr (by decide) rfl (pa_cons (pv 0) (pa_cons (pv 1) (pa_cons (pv 3) pa_nil))))) (pg_tup2K K rfl rfl scMet.nd (i := 5) (j := 6) rfl rfl (.inl rfl) (.inl rfl) (.inr rfl) (.inr rfl))
        (pss_one (ps_if (pt_cmpR (op_notInT RP (by show (A.deeper _).units + 65 < cLine; omega)) (pe_tup (pa_cons (pv 5) (pa_cons (pe_c cP hr (by decide) rfl (pa_cons (pv 1) (pa_cons (pv 2) (pa_cons (pv 6) pa_nil)))) pa_nil))) (pv 7) (by rfl)) (pss_one (ps_ret pe_bl)) pss_nil)))
      (pss_one (ps_ret pe_bl))), ?_⟩
    -- some = [(letter, put_in(..)) ..]
    refine ⟨_, rfl, _, rfl, _, rfl, vr, v2, rules, other, rfl, hr1, h2, hl, hl2, hsh, fun S2 hS2 hS2l v3 H1 s1 h3 => ?_⟩
    obtain ⟨a, ws, rfl, ha, hws⟩ := h3
    have ha1 := (dif_some ha).2
    have ol : ∀ (row : List Str) (S : List RP), StepsOf rules row S → row.length ≤ 1000 → ∀ p ∈ S, (out (dlk b) p.2).length ≤ 100000 := fun row S hS hrl p hp => by
      have h1 := BL.out hB p.2
      have h2 := hS.short hsh hrl p hp
      omega
    refine ⟨a, rfl, ⟨_, SqL.of ha1⟩, fun D hD => ?_⟩
    refine lc_rep (β := RP) T H1 (fun p : RP => some (p.1, out (dlk b) p.2)) hD (fun _ z => z) ha1 hws (by omega) (fun i v y H3 hi hat q3 hDn Ky Kn' ky kn => ?_) (fun H3 ys q3 h3 hA => ?_)
    · obtain ⟨b2, u, z, rfl, hb2, hu', hz⟩ := (hat.mono dif_kp).mono q3.kp
      have hu' : u = V.str y.1 := hu'
      subst hu'
      refine ⟨b2, _, rfl, SqT.of hb2, rfl, _, _, rfl, _, _, rfl, rfl, rfl, yes_if ?_⟩
      refine ⟨_, rfl, _, rfl, _, rfl, _, rfl, vb, z, b, y.2, rfl, hb1.mono (s1.trans q3).kp, hz, ol other S2 hS2 hl2 y (List.mem_of_getElem? hi), fun v4 H4 s4 h4 => ⟨by show 2 ≤ sizeLine; decide, fun t ht => ?_⟩⟩
      have ht3 : H3 t = Option.none := s4.fr _ ht
      have s5 := s4.trans (Sm.new (T := T) (o := .tup [.str y.1, v4]) ht)
      refine ky _ (y.1, out (dlk b) y.2) _ rfl s5 (At.mono (H := dif (upd H4 t (.tup [.str y.1, v4])) H3) ⟨t, _, v4, rfl, by rw [dif_new ht3, upd_same], rfl, h4.mono (dif_mono (fun _ z => z) (Sm.new (T := T) ht).kp)⟩ (kp_new q3 hDn (Kp.refl _)))
    have e1 : S2.filterMap (fun p : RP => some (p.1, out (dlk b) p.2)) = S2.map fun p => (p.1, out (dlk b) p.2) := by
      rw [← List.filterMap_eq_map]
      rfl
    rw [e1] at hA
    have s3 := s1.trans q3
    have hsome : At H3 (.ref D) (S2.map fun p : RP => (p.1, out (dlk b) p.2)) := ⟨D, ys, rfl, h3, hA.mono (hid_kp.trans dif_kp)⟩
    -- for letter, more in goes(rules, kind, one)
    refine ⟨_, rfl, _, rfl, _, rfl, vr, v1, rules, one, rfl, hr1.mono s3.kp, h1.mono s3.kp, hl, hl1, hsh, fun S1 hS1 hS1l v5 H4 s4 h5 => ?_⟩
    obtain ⟨a4, ws4, rfl, ha4, hws4⟩ := h5
    have ha44 := (dif_some ha4).2
    have s34 := s3.trans s4
    refine ⟨a4, rfl, ⟨_, SqL.of ha44⟩, for_list (K := K) (a := a4) (xs := ws4) (fun i σ H' => Sm T H H' ∧ Sm T H4 H' ∧ ∃ (z5 z6 : Option V), σ = [some vr, some (.str "row"), some vb, some v1, some v2, z5, z6, some (.ref D)])
      ⟨s34, Sm.refl T H4, _, _, rfl⟩ (fun i σ H' _ h => SqL.of (h.2.1.lst ha44)) ?_ ?_⟩
    · rintro i v σ H5 hi ⟨t1, t2, z5, z6, rfl⟩
      obtain ⟨y, hy, hat⟩ := hws4.getV hi
      obtain ⟨b2, u, z, rfl, hb2, hu', hz⟩ := (hat.mono dif_kp).mono t2.kp
      have hu' : u = V.str y.1 := hu'
      subst hu'
      have hym := List.mem_of_getElem? hy
      refine ⟨b2, _, rfl, SqT.of hb2, rfl, _, _, rfl, _, _, rfl, rfl, ?_⟩
      refine ⟨_, rfl, _, rfl, _, rfl, _, rfl, vb, z, b, y.2, rfl, hb1.mono t1.kp, hz, ol one S1 hS1 hl1 y hym, fun v6 H6 s6 h6 => ⟨by show 2 ≤ sizeLine; decide, fun t ht => ?_⟩⟩
      have s7 := s6.trans (Sm.new (T := T) (o := .tup [.str y.1, v6]) ht)
      refine ⟨_, rfl, (y.1, out (dlk b) y.2), _, ⟨t, _, v6, rfl, upd_same, rfl, (new_at h6).mono (Sm.new (T := T) ht).kp⟩, hsome.mono (s4.trans (t2.trans s7)).kp, _, rfl, ?_⟩
      obtain ⟨q, hq, e2, e3⟩ := hmet S1 S2 hS1 hS2 y hym
      have hm : (y.1, out (dlk b) y.2) ∈ S2.map fun p : RP => (p.1, out (dlk b) p.2) := List.mem_map.mpr ⟨q, hq, by rw [e2, e3]⟩
      have e4 : ∀ i : Decidable ((y.1, out (dlk b) y.2) ∈ S2.map fun p : RP => (p.1, out (dlk b) p.2)), (!@decide _ i) = false := fun i => by rw [@decide_eq_true _ i hm]; rfl
      rw [e4]
      exact iteF ⟨t1.trans s7, t2.trans s7, _, _, rfl⟩
    · rintro σ H5 ⟨t1, t2, z5, z6, rfl⟩
      exact k H5 t1
end
end SG

set_option Elab.async false
set_option linter.all false
set_option maxRecDepth 100000
set_option maxHeartbeats 8000000
set_option autoImplicit false
/-! The law's own: whether a base holds; whether an answer is right. -/
namespace SG
open PySem PySem.Spec PyProof.Rows L2 LamX C8
abbrev sHolds : Stmt := top 60
abbrev sRight : Stmt := top 63
/-! ### a loop over a dict, locked for it or locked already -/
def LkAt (H : Hp) (d : Addr) (u : HO) (o : Obj) (HL : Hp) (R : Hp → Hp) : Prop := (H d = some u ∧ HL = upd H d (.frz o u) ∧ R = fun H' => upd H' d u) ∨ (H d = some (.frz o u) ∧ HL = H ∧ R = id)
def tAny (t : TS) : TS := fun D σ H => ∃ d u, Rd H d u ∧ Mut (some u) ∧ ∀ (o : Obj) (HL : Hp) (R : Hp → Hp), LkAt H d u o HL R →
  t ⟨fun σ' H' => H' d = some (.frz o u) ∧ D.nx σ' (R H'), fun v H' => H' d = some (.frz o u) ∧ D.rt v (R H'), fun σ' H' => H' d = some (.frz o u) ∧ D.bk σ' (R H'), fun σ' H' => H' d = some (.frz o u) ∧ D.ct σ' (R H')⟩ σ HL
theorem ps_any {X : Cx} {st : Stmt} {t : TS} (h : PS X st t) : PS X st (tAny t) := by
  refine ⟨fun pins s σ H D I hw => ?_⟩
  obtain ⟨d, u, hd, mu, hw⟩ := hw
  rcases hd with hd | ⟨o, hd⟩
  · exact (ps_lock h).run pins s σ H D I ⟨d, u, hd, mu, fun od => hw od _ _ (.inl ⟨hd, rfl, rfl⟩)⟩
  · refine thn (h.run pins s σ H _ I (hw o H id (.inr ⟨hd, rfl, rfl⟩))) fun f s1 q => ?_
    cases f with
    | next => obtain ⟨σ', H', I2, e, q⟩ := q; exact ⟨σ', H', I2, q⟩
    | brk => obtain ⟨σ', H', I2, e, q⟩ := q; exact ⟨σ', H', I2, q⟩
    | cont => obtain ⟨σ', H', I2, e, q⟩ := q; exact ⟨σ', H', I2, q⟩
    | ret v => obtain ⟨x, σ', H', I2, r, e, q⟩ := q; exact ⟨x, σ', H', I2, r, q⟩
section
variable {T : List (Addr × Str)} {H H' HL : Hp} {d : Addr} {kvs : List (Key × V)} {o : Obj} {R : Hp → Hp}
theorem LkAt.at_ (l : LkAt H d (.dK kvs) o HL R) : HL d = some (.frz o (.dK kvs)) := by
  rcases l with ⟨_, rfl, _⟩ | ⟨h, rfl, _⟩
  · exact upd_same
  · exact h
theorem LkAt.look {α : Type} [Rep α] {v : V} {x : α} (l : LkAt H d (.dK kvs) o HL R) (h : At H v x) : At HL v x := by
  rcases l with ⟨e, rfl, _⟩ | ⟨_, rfl, _⟩
  · exact h.lock e
  · exact h
theorem LkAt.sm (l : LkAt H d (.dK kvs) o HL R) (e : Sm T HL H') : Sm T H (R H') := by
  rcases l with ⟨h, rfl, rfl⟩ | ⟨_, rfl, rfl⟩
  · refine ⟨fun b u q n => ?_, fun b q => ?_, fun t q hq => ?_⟩
    · by_cases z : b = d
      · rw [z, h] at q
        cases q
        show upd H' d (.dK kvs) b = _
        rw [z, upd_same]
      · show upd H' d (.dK kvs) b = _
        rw [upd_ne z]
        exact e.kp b u (by rw [upd_ne z]; exact q) n
    · have q : upd H' d (.dK kvs) b = Option.none := q
      by_cases z : b = d
      · rw [z, upd_same] at q; cases q
      · rw [upd_ne z] at q
        have := e.fr b q
        rw [upd_ne z] at this
        exact this
    · have tl : Tabs T (upd H d (.frz o (.dK kvs))) := fun q hq => by
        obtain ⟨ps, a, b, c⟩ := t q hq
        have n1 : q.1 ≠ d := fun z => by rw [z, h] at a; cases a
        refine ⟨ps, by rw [upd_ne n1]; exact a, b, fun pos cv hc => ?_⟩
        obtain ⟨c0, e1, e2⟩ := c pos cv hc
        have n2 : c0 ≠ d := fun z => by
          rw [z, h] at e2
          have := Option.some.inj e2
          unfold CodeO at this
          cases this
        exact ⟨c0, e1, by rw [upd_ne n2]; exact e2⟩
      obtain ⟨ps, a, b, c⟩ := e.tb tl q hq
      have n1 : q.1 ≠ d := fun z => by
        have := e.kp d _ (show upd H d (.frz o (.dK kvs)) d = some (.frz o (.dK kvs)) from upd_same) (fun _ z => nomatch z)
        rw [z, this] at a; cases a
      refine ⟨ps, by show upd H' d (.dK kvs) q.1 = _; rw [upd_ne n1]; exact a, b, fun pos cv hc => ?_⟩
      obtain ⟨c0, e1, e2⟩ := c pos cv hc
      have n2 : c0 ≠ d := fun z => by
        have := e.kp d _ (show upd H d (.frz o (.dK kvs)) d = some (.frz o (.dK kvs)) from upd_same) (fun _ z => nomatch z)
        rw [z, this] at e2
        have := Option.some.inj e2
        unfold CodeO at this
        cases this
      exact ⟨c0, e1, by show upd H' d (.dK kvs) c0 = _; rw [upd_ne n2]; exact e2⟩
  · exact e
theorem kv_at {α : Type} [Rep α] {H : Hp} : ∀ {ps : List (Key × V)} {xs : List (Str × α)} {i : Nat} {k : Key} {v : V}, AllKv H ps xs → ps[i]? = some (k, v) → ∃ X m, xs[i]? = some (X, m) ∧ k = Sum.inr X ∧ At H v m
  | [], _, i, _, _, _, e => by simp at e
  | _ :: _, [], _, _, _, h, _ => h.elim
  | p :: ps, x :: xs, 0, k, v, h, e => by
    have e : p = (k, v) := by simpa using e
    refine ⟨x.1, x.2, rfl, ?_, ?_⟩
    · have := h.1
      rw [e] at this
      exact this
    · have := h.2.1
      rw [e] at this
      exact this
  | _ :: ps, _ :: xs, i + 1, k, v, h, e => by
    obtain ⟨X, m, a, b, c⟩ := kv_at (i := i) (k := k) (v := v) h.2.2 (by simpa using e)
    exact ⟨X, m, by simpa using a, b, c⟩
end
/-- what a base must be to hold, in the law's words -/
structure BaseOk (names : List Str) (rules : List Rul) (b : Bs) : Prop where
  keys : (b.map (·.1)).Nodup
  mkd : Mkd (gmOf names rules) (dlk b)
  hlds : Hlds (gmOf names rules) (dlk b)
  bl : BL b
def spHolds (T : List (Addr × Str)) : Sp := fun vs H Q _ => ∃ (vn vr vb : V) (names : List Str) (rules : List Rul) (b : Bs), vs = [vn, vr, .str "row", vb] ∧ At H vn names ∧ At H vr rules ∧ At H vb (Dct.mk b) ∧ rules.length ≤ 1000 ∧ (∀ r ∈ rules, r.c.length ≤ 3) ∧ BaseOk names rules b ∧ ∀ H', Sm T H H' → Q (.bl true) H'
theorem stp_of {names : List Str} {rules : List Rul} {row : List Str} {S : List RP} (h : StepsOf rules row S) (p : RP) : p ∈ S ↔ Stp (gmOf names rules) row p.1 p.2 := by
  rw [h.2 p]
  constructor
  · rintro ⟨m, rest, q, rfl, hq, rfl⟩
    exact ⟨m, rest, q.2, rfl, hq, rfl⟩
  · rintro ⟨m, rest, more, rfl, hm, e⟩
    exact ⟨m, rest, (p.1, more), rfl, hm, Prod.ext rfl e⟩
theorem alk_met {names : List Str} {rules : List Rul} {B : Str → Option (List Str)} {x y : List Str} (k : Alk (gmOf names rules) B x y) : ∀ S1 S2, StepsOf rules x S1 → StepsOf rules y S2 → ∀ p ∈ S1, ∃ q ∈ S2, p.1 = q.1 ∧ out B p.2 = out B q.2 := fun S1 S2 h1 h2 p hp => by
  obtain ⟨y', s, e⟩ := k.1 p.1 p.2 ((stp_of h1 p).mp hp)
  exact ⟨(p.1, y'), (stp_of h2 (p.1, y')).mpr s, rfl, e⟩
theorem Alk.swap {g : Gm Str Str} {B : Str → Option (List Str)} {x y : List Str} (k : Alk g B x y) : Alk g B y x :=
  ⟨fun l y' s => by obtain ⟨x', s', e⟩ := k.2 l y' s; exact ⟨x', s', e.symm⟩, fun l x' s => by obtain ⟨y', s', e⟩ := k.1 l x' s; exact ⟨y', s', e.symm⟩⟩
abbrev holdsN : List Str := ["_law_names", "_law_rules", "_law_kind", "_law_base", "_law_name", "_law_making", "_law_odd", "_law_one"]
section
variable {P : Program} {w : World} {K : PySem.W.Frag} {mg : Str → Option Value} {base : Heap} {T : List (Addr × Str)}
theorem scHolds : FnScope holdsN ["_law_names", "_law_rules", "_law_kind", "_law_base"] (fnScope sHolds) := fnScope_by (by decide +kernel)
theorem cal_holds (X : Gs mg) (cM : Cal P w K mg base 3 "_law_met" (spMet T) []) (F : DefB K mg "_law_holds" sHolds ["_law_names", "_law_rules", "_law_kind", "_law_base"]) : Cal P w K mg base 4 "_law_holds" (spHolds T) [] := by
  refine cal_of F scHolds (fun vs H Q E h => ?_) (fun f cdv A outer s H vs Q E hr h => ?_)
  · obtain ⟨vn, vr, vb, names, rules, b, rfl, _⟩ := h
    rfl
  · obtain ⟨vn, vr, vb, names, rules, b, rfl, hn, hr1, ⟨d, ps, rfl, hd, hps⟩, hl, hsh, ok, k⟩ := h
    have hu := hu_of hr
    have hu64 := hr.units
    have hun := hr.un
    refine ⟨_, pss_cons (ps_any (ps_for PassesOwn.never rfl (pi_keys (pv 3)) (pg_name (i := 4) scHolds.nd rfl (Or.inl rfl))
        (pss_cons (ps_set (i := 5) scHolds.nd rfl (Or.inl rfl) (pe_dget hu (pv 3) (pv 4) (fun _ _ => rfl)))
        (pss_cons (ps_setLc (i := 6) (own := [("_law_one", 7)]) rfl scHolds.nd rfl rfl (sw_true rfl rfl rfl (by decide +kernel)) (pi_list (pv 5)) (blkOk_by (N := holdsN) (sc := fnScope sHolds) (by decide +kernel))
            (fun _ _ _ _ _ => pg_name (i := 7) scHolds.nd rfl (Or.inl rfl) (.inr rfl))
            (fun _ _ _ _ _ => pts_one (PW.pt (pw_or (pt_cmpR (op_notInT Str (by show (A.deeper _).units + 65 < cLine; omega)) (pv 7) (pv 0) (by rfl)) (pw_or1 (pt_cmp (pc_din hu (pv 7) (pv 3)))))))
            (fun _ _ _ _ _ => pv 7))
        (pss_one (ps_if (PW.pt (pw_or (pt_cmpR (op_notInT Str (by show (A.deeper _).units + 65 < cLine; omega)) (pv 4) (pv 0) (by rfl)) (pw_or (pt_cmpR (op_eqT (List Str) hu64) (pv 5) (pe_lst pa_nil) (nomark _)) (pw_or1 (pt_cmpR (op_neT (List Str) hu64) (pv 6) (pe_lst pa_nil) (nomark _)))))) (pss_one (ps_ret pe_bl)) pss_nil)))))
      )
      (pss_cons (ps_any (ps_for PassesOwn.never rfl (pi_keys (pv 3)) (pg_name (i := 4) scHolds.nd rfl (Or.inl rfl))
        (pss_cons (ps_set (i := 5) scHolds.nd rfl (Or.inl rfl) (pe_dget hu (pv 3) (pv 4) (fun _ _ => rfl)))
        (pss_cons (ps_if (pt_not (pt_val (pe_c cM hr (by decide) rfl (pa_cons (pv 1) (pa_cons (pv 2) (pa_cons (pv 3) (pa_cons (pe_lst (pa_cons (pv 4) pa_nil)) (pa_cons (pv 5) pa_nil)))))))) (pss_one (ps_ret pe_bl)) pss_nil)
        (pss_one (ps_if (pt_not (pt_val (pe_c cM hr (by decide) rfl (pa_cons (pv 1) (pa_cons (pv 2) (pa_cons (pv 3) (pa_cons (pv 5) (pa_cons (pe_lst (pa_cons (pv 4) pa_nil)) pa_nil)))))))) (pss_one (ps_ret pe_bl)) pss_nil))))))
      (pss_one (ps_ret pe_bl))), ?_⟩
    have lkm : ∀ X m, (X, m) ∈ b → dlk b X = some m := fun X m h => dlk_of_mem ok.keys h
    -- a key's making
    have keyAt : ∀ {i : Nat} {kk : Key} {v : V}, ps[i]? = some (kk, v) → ∃ X m, dlk b X = some m ∧ kV kk = V.str X := fun {i kk v} h => by
      obtain ⟨X, m, e1, e2, e3⟩ := kv_at hps h
      exact ⟨X, m, lkm X m (List.mem_of_getElem? e1), by rw [e2]; rfl⟩
    have hbat : At H (.ref d) (Dct.mk b) := ⟨d, ps, rfl, hd, hps⟩
    refine ⟨d, .dK ps, hd, True.intro, fun o HL R l => ?_⟩
    have hd1 := l.at_
    refine ⟨_, rfl, d, o, rfl, .inl ⟨ps, hd1, for_it walk_keys (fun i σ H' => Sm T HL H' ∧ ∃ (z4 z5 z6 : Option V), σ = [some vn, some vr, some (.str "row"), some (.ref d), z4, z5, z6, Option.none]) ⟨Sm.refl T HL, _, _, _, rfl⟩ (fun i σ H' _ h => h.1.kp d _ hd1 (fun _ z => nomatch z)) ?_ ?_⟩⟩
    · rintro i x σ H1 H2 hi ⟨s1, z4, z5, z6, rfl⟩ ⟨rfl, kk, v, hkv, rfl⟩
      obtain ⟨Y, m, hm, eY⟩ := keyAt hkv
      rw [eY]
      obtain ⟨d2, e, isd, hg⟩ := ((l.look hbat).mono s1.kp).dlk Y
      cases e
      rw [hm] at hg
      obtain ⟨u, hg, hu2⟩ := hg
      obtain ⟨c, rfl, hc⟩ := hu2.strs
      refine ⟨_, rfl, _, rfl, d, _, rfl, hg, ?_⟩
      have hml := ok.bl Y m hm
      have hfree := ok.mkd.free Y m hm
      have hover := ok.mkd.over Y m hm
      refine ⟨_, rfl, c, rfl, ⟨_, SqL.of hc⟩, fun E hE => ?_⟩
      refine lc_rep (S := H2) (xs := m) T H2 (fun _ => (Option.none : Option Str)) hE (fun b z => z) hc (strs_at.mpr rfl) (by omega) (fun j v y H3 hj hat q3 hEn Ky Kn ky kn => ?_) (fun H3 ys q3 h3 hA => ?_)
      · have hat : v = V.str y := hat
        subst hat
        have hym := List.mem_of_getElem? hj
        have s3 := s1.trans q3
        refine ⟨rfl, _, rfl, _, rfl, y, names, rfl, (l.look hn).mono s3.kp, _, rfl, ?_⟩
        have e1 : ∀ q : Decidable (y ∈ names), (!@decide _ q) = false := fun q => by rw [@decide_eq_true _ q (hover y hym)]; rfl
        rw [e1]
        obtain ⟨d3, e, isd3, hg3⟩ := ((l.look hbat).mono s3.kp).dlk y
        cases e
        rw [hfree y hym] at hg3
        exact iteF ⟨_, rfl, _, rfl, d, _, rfl, hg3, _, rfl, iteF (kn _ rfl (Sm.refl T H3))⟩
      have e0 : m.filterMap (fun _ => (Option.none : Option Str)) = [] := by
        rw [List.filterMap_eq_nil_iff]
        exact fun _ _ => rfl
      rw [e0] at hA
      have hys : ys = [] := List.length_eq_zero_iff.mp hA.length
      subst hys
      have s3 := s1.trans q3
      refine ⟨_, rfl, _, rfl, Y, names, rfl, (l.look hn).mono s3.kp, _, rfl, ?_⟩
      have e1 : ∀ q : Decidable (Y ∈ names), (!@decide _ q) = false := fun q => by rw [@decide_eq_true _ q (ok.mkd.dom Y m hm)]; rfl
      rw [e1]
      refine iteF ⟨_, rfl, Nat.zero_le _, fun t1 ht1 => ?_⟩
      have sT := Sm.new (T := T) (o := .lst []) ht1
      refine ⟨m, [], ⟨c, _, rfl, sT.lst (q3.lst hc), strs_at.mpr rfl⟩, ⟨t1, [], rfl, upd_same, True.intro⟩, _, rfl, ?_⟩
      rw [decide_eq_false (ok.mkd.ne Y m hm)]
      refine iteF ⟨_, rfl, Nat.zero_le _, fun t2 ht2 => ?_⟩
      have sT2 := sT.trans (Sm.new (T := T) (o := .lst []) ht2)
      refine ⟨([] : List Str), [], ⟨E, [], rfl, sT2.lst h3, True.intro⟩, ⟨t2, [], rfl, upd_same, True.intro⟩, _, rfl, ?_⟩
      have e2 : ∀ q : Decidable (([] : List Str) = []), (!@decide _ q) = false := fun q => by rw [@decide_eq_true _ q rfl]; rfl
      rw [e2]
      exact iteF ⟨s3.trans sT2, _, _, _, rfl⟩
    · rintro σ H1 ⟨s1, z4, z5, z6, rfl⟩
      refine ⟨s1.kp d _ hd1 (fun _ z => nomatch z), ?_⟩
      have sA := l.sm s1
      have hbA := hbat.mono sA.kp
      obtain ⟨d3, ps3, e, hd3, hps3⟩ := id hbA
      cases e
      have keyAt3 : ∀ {i : Nat} {kk : Key} {v : V}, ps3[i]? = some (kk, v) → ∃ X m, dlk b X = some m ∧ kV kk = V.str X := fun {i kk v} h => by
        obtain ⟨X, m, e1, e2, e3⟩ := kv_at hps3 h
        exact ⟨X, m, lkm X m (List.mem_of_getElem? e1), by rw [e2]; rfl⟩
      refine ⟨d, .dK ps3, hd3, True.intro, fun o2 HL2 R2 l2 => ?_⟩
      have hd2 := l2.at_
      refine ⟨_, rfl, d, o2, rfl, .inl ⟨ps3, hd2, for_it walk_keys (fun i σ H' => Sm T HL2 H' ∧ ∃ (z4 z5 z6 : Option V), σ = [some vn, some vr, some (.str "row"), some (.ref d), z4, z5, z6, Option.none]) ⟨Sm.refl T HL2, _, _, _, rfl⟩ (fun i σ H' _ h => h.1.kp d _ hd2 (fun _ z => nomatch z)) ?_ ?_⟩⟩
      · rintro i x σ H3 H4 hi ⟨s2, y4, y5, y6, rfl⟩ ⟨rfl, kk, v, hkv, rfl⟩
        obtain ⟨Y, m, hm, eY⟩ := keyAt3 hkv
        rw [eY]
        have hb3 := (l2.look hbA).mono s2.kp
        obtain ⟨d4, e, isd, hg⟩ := hb3.dlk Y
        cases e
        rw [hm] at hg
        obtain ⟨u, hg, hu2⟩ := hg
        have hml := ok.bl Y m hm
        have hlk := ok.hlds Y m hm
        have hr3 := (l2.look (hr1.mono sA.kp)).mono s2.kp
        refine ⟨_, rfl, _, rfl, d, _, rfl, hg, ?_⟩
        refine ⟨_, rfl, _, rfl, _, rfl, _, rfl, by show 1 ≤ sizeLine; decide, fun t1 ht1 => ?_⟩
        have sT := Sm.new (T := T) (o := .lst [V.str Y]) ht1
        refine ⟨_, rfl, vr, .ref d, .ref t1, u, rules, b, [Y], m, rfl, hr3.mono sT.kp, hb3.mono sT.kp, ⟨t1, _, rfl, upd_same, rfl, True.intro⟩, hu2.mono sT.kp, hl, (by show 1 ≤ 1000; decide), by omega, hsh, ok.bl, alk_met hlk, fun H5 s5 => ⟨true, rfl, iteF ?_⟩⟩
        have s35 := sT.trans s5
        refine ⟨_, rfl, _, rfl, _, rfl, _, rfl, _, rfl, by show 1 ≤ sizeLine; decide, fun t2 ht2 => ?_⟩
        have sT2 := Sm.new (T := T) (o := .lst [V.str Y]) ht2
        have s36 := s35.trans sT2
        refine ⟨vr, .ref d, u, .ref t2, rules, b, m, [Y], rfl, hr3.mono s36.kp, hb3.mono s36.kp, hu2.mono s36.kp, ⟨t2, _, rfl, upd_same, rfl, True.intro⟩, hl, by omega, (by show 1 ≤ 1000; decide), hsh, ok.bl, alk_met hlk.swap, fun H6 s6 => ⟨true, rfl, iteF ⟨s2.trans (s36.trans s6), _, _, _, rfl⟩⟩⟩
      · rintro σ H3 ⟨s2, y4, y5, y6, rfl⟩
        exact ⟨s2.kp d _ hd2 (fun _ z => nomatch z), k _ (sA.trans (l2.sm s2))⟩
end
end SG

set_option Elab.async false
set_option linter.all false
set_option maxRecDepth 100000
set_option maxHeartbeats 8000000
set_option autoImplicit false
/-! The law's own: whether an answer is right; steps fit for a name. -/
namespace SG
open PySem PySem.Spec PyProof.Rows L2 LamX C8
abbrev sFit : Stmt := top 64
def spRight (T : List (Addr × Str)) : Sp := fun vs H Q _ => ∃ (vn vr vw v1 v2 vb : V) (p : Addr) (names : List Str) (rules : List Rul) (b : Bs) (x y : List Str), vs = [vn, vr, .str "row", vw, v1, v2, .ref p] ∧ H p = some (.tup [.str "base", vb]) ∧ At H vn names ∧ At H vr rules ∧ At H vb (Dct.mk b) ∧ At H v1 x ∧ At H v2 y ∧
  rules.length ≤ 1000 ∧ (∀ r ∈ rules, r.c.length ≤ 3) ∧ BaseOk names rules b ∧ x.length ≤ 1000 ∧ out (dlk b) x = out (dlk b) y ∧ ∀ H', Sm T H H' → Q (.bl true) H'
def spFit (T : List (Addr × Str)) : Sp := fun vs H Q _ => ∃ (vn vr vw v1 : V) (rules : List Rul) (b : Wts) (one : List Str), vs = [vn, vr, vw, .str "row", v1] ∧ At H vr rules ∧ At H vw (Dct.mk b) ∧ At H v1 one ∧ rules.length ≤ 1000 ∧ one.length ≤ 1000 ∧ (∀ r ∈ rules, r.c.length ≤ 3) ∧ (∀ x ∈ one, (dlk b x).isSome = true) ∧
  (∀ H', Sm T H H' → Q .non H') ∧ ∀ S : List RP, StepsOf rules one S → S.length ≤ 4 → (∀ p ∈ S, p.2.length ≤ 3) → wt (fun x => (dlk b x).getD 0) one ≤ 12 → Ret T H Q S
theorem pe_bty {X : Cx} {x : Str} {n : String} {pos : Pos} (hg : Gl X x) (hm : X.mg x = Option.none) (hv : bootBuiltins x = some (.type n)) (hn : x ≠ "__name__" := by decide) (hd : (x == ("__debug__" : Str)) = false := by decide) : PE X (.Name x pos) (tC (.ty n)) :=
  ⟨fun pins s σ H Q I h => ld_blt I hg hm (u := .type n) hv ⟨.ty n, H, I, rfl, h⟩ hn hd⟩
section
variable {P : Program} {w : World} {K : PySem.W.Frag} {mg : Str → Option Value} {base : Heap} {T : List (Addr × Str)}
theorem kit_self (K : PySem.W.Frag) (t : Value) : PySem.W.kitOne K t t = some true := if_pos (beq_self_eq_true _)
theorem scRight : FnScope ["_law_names", "_law_rules", "_law_kind", "_law_weights", "_law_one", "_law_other", "_law_found"] ["_law_names", "_law_rules", "_law_kind", "_law_weights", "_law_one", "_law_other", "_law_found"] (fnScope sRight) := fnScope_by (by decide +kernel)
theorem cal_right (X : Gs mg) (cH : Cal P w K mg base 4 "_law_holds" (spHolds T) []) (cP : Cal P w K mg base 1 "_law_put_in" (spPutIn T) []) (F : DefB K mg "_law_right" sRight ["_law_names", "_law_rules", "_law_kind", "_law_weights", "_law_one", "_law_other", "_law_found"]) :
    Cal P w K mg base 5 "_law_right" (spRight T) [] := by
  refine cal_of F scRight (fun vs H Q E h => ?_) (fun f cdv A outer s H vs Q E hr h => ?_)
  · obtain ⟨vn, vr, vw, v1, v2, vb, p, names, rules, b, x, y, rfl, _⟩ := h
    rfl
  · obtain ⟨vn, vr, vw, v1, v2, vb, p, names, rules, b, x, y, rfl, hp, hn, hr1, hb, h1, h2, hl, hsh, ok, hxl, heq, k⟩ := h
    have hu64 := hr.units
    refine ⟨_, pss_cons (ps_if (PW.pt (pw_or (pt_not (pt_val (pe_callB call_isi (by rfl) X.isinstance boot_isinstance_ (pa_cons (pv 6) (pa_cons (pe_bty (n := "tuple") (by rfl) X.tuple boot_tuple_) pa_nil))))) (pw_or1 (pt_cmpR op_ne (pe_lenK K rfl (by rfl) X.len (pa_cons (pv 6) pa_nil)) pe_int (nomark _))))) (pss_one (ps_ret pe_bl)) pss_nil)
      (pss_cons (ps_if (pt_cmpR op_eq (pe_ix ix_tup (pv 6) pe_int (fun _ _ => rfl)) pe_str (nomark _))
        (pss_cons (ps_if (PW.pt (pw_or (pt_not (pt_val (pe_callB call_isi (by rfl) X.isinstance boot_isinstance_ (pa_cons (pe_ix ix_tup (pv 6) pe_int (fun _ _ => rfl)) (pa_cons (pe_bty (n := "dict") (by rfl) X.dict boot_dict_) pa_nil))))) (pw_or1 (pt_not (pt_val (pe_c cH hr (by decide) rfl (pa_cons (pv 0) (pa_cons (pv 1) (pa_cons (pv 2) (pa_cons (pe_ix ix_tup (pv 6) pe_int (fun _ _ => rfl)) pa_nil))))))))))
            (pss_one (ps_ret pe_bl)) pss_nil)
        (pss_one (ps_ret (pe_cmpR (op_eqT (List Str) hu64) (pe_c cP hr (by decide) rfl (pa_cons (pv 2) (pa_cons (pe_ix ix_tup (pv 6) pe_int (fun _ _ => rfl)) (pa_cons (pv 4) pa_nil)))) (pe_c cP hr (by decide) rfl (pa_cons (pv 2) (pa_cons (pe_ix ix_tup (pv 6) pe_int (fun _ _ => rfl)) (pa_cons (pv 5) pa_nil)))) (nomark _))))) pss_nil)
      pss_never), ?_⟩
    have hout : (out (dlk b) x).length ≤ 100000 := by
      have := BL.out ok.bl x
      omega
    refine ⟨_, rfl, _, _, _, _, true, rfl, .ty "tuple", .base (.tup hp), kit_self _ _, true, rfl, iteF ?_⟩
    refine ⟨_, rfl, p, _, rfl, .inr (SqT.of hp), rfl, _, rfl, iteF ?_⟩
    refine ⟨_, rfl, p, _, 0, _, rfl, rfl, SqT.of hp, atI_nat (j := 0) rfl, rfl, _, rfl, ?_⟩
    rw [decide_eq_true rfl]
    refine iteT ?_
    have hdt : ∃ d, vb = .ref d ∧ TyX K H (.ref d) (.type "dict") := by
      obtain ⟨d, ps, rfl, hd, _⟩ := id hb
      rcases hd with hd | ⟨o, hd⟩
      · exact ⟨d, rfl, .base (.dK hd)⟩
      · exact ⟨d, rfl, .fDict hd⟩
    obtain ⟨d, rfl, hty⟩ := hdt
    refine ⟨_, rfl, p, _, 1, _, rfl, rfl, SqT.of hp, atI_nat (j := 1) rfl, _, _, _, _, true, rfl, .ty "dict", hty, kit_self _ _, true, rfl, iteF ?_⟩
    refine ⟨_, rfl, _, rfl, _, rfl, _, rfl, p, _, 1, _, rfl, rfl, SqT.of hp, atI_nat (j := 1) rfl, vn, vr, .ref d, names, rules, b, rfl, hn, hr1, hb, hl, hsh, ok, fun H1 s1 => ⟨true, rfl, iteF ?_⟩⟩
    have hp1 := s1.tup hp
    refine ⟨_, rfl, _, rfl, p, _, 1, _, rfl, rfl, SqT.of hp1, atI_nat (j := 1) rfl, _, rfl, .ref d, v1, b, x, rfl, hb.mono s1.kp, h1.mono s1.kp, hout, fun v3 H2 s2 h3 => ?_⟩
    have s12 := s1.trans s2
    refine ⟨_, rfl, _, rfl, p, _, 1, _, rfl, rfl, SqT.of (s2.tup hp1), atI_nat (j := 1) rfl, _, rfl, .ref d, v2, b, y, rfl, hb.mono s12.kp, h2.mono s12.kp, by rw [← heq]; exact hout, fun v4 H3 s3 h4 => ?_⟩
    refine ⟨_, _, (new_at h3).mono s3.kp, new_at h4, ?_⟩
    rw [decide_eq_true heq]
    exact k H3 (s12.trans s3)
abbrev fitN : List Str := ["_law_names", "_law_rules", "_law_weights", "_law_kind", "_law_one", "_law_steps", "_law_long", "_law_letter", "_law_more", "_law_name"]
theorem scFit : FnScope fitN ["_law_names", "_law_rules", "_law_weights", "_law_kind", "_law_one"] (fnScope sFit) := fnScope_by (by decide +kernel)
theorem cal_fit (X : Gs mg) (cG : Cal P w K mg base 2 "_law_goes" (spGoes T) []) (F : DefB K mg "_law_fit_for" sFit ["_law_names", "_law_rules", "_law_weights", "_law_kind", "_law_one"]) : Cal P w K mg base 3 "_law_fit_for" (spFit T) [] := by
  refine cal_of F scFit (fun vs H Q E h => ?_) (fun f cdv A outer s H vs Q E hr h => ?_)
  · obtain ⟨vn, vr, vw, v1, rules, b, one, rfl, _⟩ := h
    rfl
  · obtain ⟨vn, vr, vw, v1, rules, b, one, rfl, hr1, hw, h1, hl, hol, hsh, hall, kN, kS⟩ := h
    have hu := hu_of hr
    have hu64 := hr.units
    obtain ⟨c, rfl, hc⟩ := h1.strs
    refine ⟨_, pss_cons (ps_set (i := 5) scFit.nd rfl (Or.inl rfl) (pe_c cG hr (by decide) rfl (pa_cons (pv 1) (pa_cons (pv 3) (pa_cons (pv 4) pa_nil)))))
      (pss_cons (ps_setLc (i := 6) (own := [("_law_letter", 7), ("_law_more", 8)]) rfl scFit.nd rfl rfl (sw_true rfl rfl rfl (by decide +kernel)) (pi_list (pv 5)) (blkOk_by (N := fitN) (sc := fnScope sFit) (by decide +kernel))
          (fun _ _ _ _ _ => pg_tup2K K rfl rfl scFit.nd (i := 7) (j := 8) rfl rfl (.inl rfl) (.inl rfl) (.inr rfl) (.inr rfl))
          (fun _ _ _ _ _ => pts_one (pt_cmpR op_gt (pe_lenK K rfl (by rfl) X.len (pa_cons (pv 8) pa_nil)) pe_int (nomark _))) (fun _ _ _ _ _ => pv 8))
      (pss_cons (ps_if (PW.pt (pw_or (pt_cmpR op_gt (pe_lenK K rfl (by rfl) X.len (pa_cons (pv 5) pa_nil)) pe_int (nomark _)) (pw_or (pt_cmpR (op_neT (List (List Str)) hu64) (pv 6) (pe_lst pa_nil) (nomark _))
          (pw_or1 (pt_cmpR op_gt (pe_callB (cr_sum rfl) (by rfl) X.sum boot_sum_ (pa_cons (pe_lc (own := [("_law_name", 9)]) rfl scFit.nd (pi_list (pv 4)) (blkOk_by (N := fitN) (sc := fnScope sFit) (by decide +kernel))
            (fun _ _ _ _ _ => pg_name (i := 9) scFit.nd rfl (Or.inl rfl) (.inr rfl)) (fun _ _ _ _ _ => pts_nil) (fun _ _ _ _ _ => pe_dget hu (pv 2) (pv 9) (fun _ _ => rfl))) pa_nil)) pe_int (nomark _)))))) (pss_one (ps_ret pe_non)) pss_nil)
      (pss_one (ps_ret (pv 5))))), ?_⟩
    refine ⟨_, rfl, _, rfl, _, rfl, vr, .ref c, rules, one, rfl, hr1, h1, hl, hol, hsh, fun S hS hSl v3 H1 s1 h3 => ?_⟩
    obtain ⟨a, ws, rfl, ha, hws⟩ := id h3
    have ha1 := (dif_some ha).2
    refine ⟨_, rfl, a, rfl, ⟨_, SqL.of ha1⟩, fun D hD => ?_⟩
    refine lc_rep (β := List Str) T H (fun p : RP => if 3 < p.2.length then some p.2 else Option.none) hD (fun _ z => s1.fr _ z) ha1 hws (by omega) (fun i v y H3 hi hat q3 hDn Ky Kn' ky kn => ?_) (fun H3 ys q3 h4 hA => ?_)
    · have hat3 := hat.mono (show Kp (dif H1 H) (hid (dif H3 H) D) from (dif_mono (fun _ z => z) q3.kp).hid (by rw [dif_new (s1.fr _ hD)]; exact hD))
      obtain ⟨b2, u, z, rfl, hb2, hu', hz⟩ := (hat.mono dif_kp).mono q3.kp
      obtain ⟨b3, u3, z3, e3, hb3, _, hz3⟩ := hat3
      cases e3
      have ez : z3 = z := by
        have h1 := (hid_kp.trans dif_kp) b2 _ hb3 (fun _ z => nomatch z)
        rw [hb2] at h1
        cases h1
        rfl
      subst ez
      obtain ⟨c2, us, rfl, hc2, hus⟩ := id hz
      refine ⟨b2, _, rfl, SqT.of hb2, rfl, _, _, rfl, _, _, rfl, rfl, rfl, _, rfl, c2, us, rfl, .inl (SqL.of hc2), _, _, rfl, rfl, _, rfl, ?_⟩
      have hul := hus.length
      have hul : us.length = y.2.length := hul
      by_cases h5 : 3 < y.2.length
      · rw [decide_eq_true (by omega)]
        exact iteT ⟨_, rfl, ky _ y.2 _ (if_pos h5) (Sm.refl T H3) hz3⟩
      · rw [decide_eq_false (by omega)]
        exact iteF (kn _ (if_neg h5) (Sm.refl T H3))
    · have s3 := s1.trans q3
      have a3 := q3.lst ha1
      have hwl := hws.length
      refine ⟨_, rfl, a, _, rfl, .inl (SqL.of a3), _, _, rfl, rfl, _, rfl, ?_⟩
      by_cases h5 : (4 : Int) < ((ws.length : Nat) : Int)
      · rw [decide_eq_true h5]
        exact iteT (iteT (kN H3 s3))
      · rw [decide_eq_false h5]
        refine iteF ⟨_, rfl, Nat.zero_le _, fun t ht => ?_⟩
        have sT := Sm.new (T := T) (o := .lst []) ht
        refine ⟨_, [], ⟨D, ys, rfl, sT.lst h4, (hA.mono (hid_kp.trans dif_kp)).mono sT.kp⟩, ⟨t, [], rfl, upd_same, True.intro⟩, _, rfl, ?_⟩
        have s4 := s3.trans sT
        by_cases h6 : S.filterMap (fun p : RP => if 3 < p.2.length then some p.2 else Option.none) = []
        · have e1 : ∀ q : Decidable (S.filterMap (fun p : RP => if 3 < p.2.length then some p.2 else Option.none) = []), (!@decide _ q) = false := fun q => by rw [@decide_eq_true _ q h6]; rfl
          rw [e1]
          have c4 := s4.lst hc
          refine iteF ⟨_, rfl, c, rfl, ⟨_, SqL.of c4⟩, fun E2 hE2 => ?_⟩
          have e2 : one.filterMap (fun x => some (((dlk b x).getD 0 : Nat) : Int)) = one.map fun x => (((dlk b x).getD 0 : Nat) : Int) := by
            rw [← List.filterMap_eq_map]
            rfl
          refine lc_rep (S := H) (xs := one) T (upd H3 t (.lst [])) (fun x => some (((dlk b x).getD 0 : Nat) : Int)) hE2 (fun b z => z) c4 (strs_at.mpr rfl) (by omega) (fun j v y H5 hj hat q5 hEn Ky Kn ky kn => ?_) (fun H5 ys q5 h5 hA5 => ?_)
          · have hat : v = V.str y := hat
            subst hat
            obtain ⟨n, hn⟩ := Option.isSome_iff_exists.mp (hall y (List.mem_of_getElem? hj))
            obtain ⟨d, e, isd, hg⟩ := (hw.mono (s4.trans q5).kp).dlk y
            subst e
            rw [hn] at hg
            obtain ⟨u, hg, hu2⟩ := hg
            have hu2 : u = V.int (n : Int) := hu2
            subst hu2
            refine ⟨rfl, yes_if ⟨_, rfl, _, rfl, d, _, rfl, hg, ky _ (((dlk b y).getD 0 : Nat) : Int) _ rfl (Sm.refl T H5) ?_⟩⟩
            rw [hn]
            rfl
          rw [e2, ints_at] at hA5
          subst hA5
          refine ⟨E2, _, rfl, SqL.of h5, ?_⟩
          rw [sum_wt]
          refine ⟨_, _, rfl, rfl, _, rfl, ?_⟩
          have s5 := s4.trans q5
          by_cases h7 : (12 : Int) < ((wt (fun x => (dlk b x).getD 0) one : Nat) : Int)
          · rw [decide_eq_true h7]
            exact iteT (kN H5 s5)
          · rw [decide_eq_false h7]
            refine iteF ⟨_, rfl, kS S hS (by omega) (fun p hp => ?_) (by omega) _ H5 s5 (h3.mono (dif_mono (fun _ z => z) (q3.trans (sT.trans q5)).kp))⟩
            rw [List.filterMap_eq_nil_iff] at h6
            have := h6 p hp
            by_cases q : 3 < p.2.length
            · rw [if_pos q] at this; cases this
            · omega
        · have e1 : ∀ q : Decidable (S.filterMap (fun p : RP => if 3 < p.2.length then some p.2 else Option.none) = []), (!@decide _ q) = true := fun q => by rw [@decide_eq_false _ q h6]; rfl
          rw [e1]
          exact iteT (iteT (kN _ s4))
end
end SG

set_option Elab.async false
set_option linter.all false
set_option maxRecDepth 100000
set_option maxHeartbeats 8000000
set_option autoImplicit false
/-! The law's own: names exchanged. -/
namespace SG
open PySem PySem.Spec PyProof.Rows L2 LamX C8
abbrev sExch : Stmt := top 66
/-- what may stand in a name's place -/
def Opt (names : List Str) (mk : Mks) (x : Str) (o : List Str) : Prop := out (dlk mk) o = out (dlk mk) [x] ∧ (∀ y ∈ o, y ∈ names) ∧ o.length ≤ 2
def spExch (T : List (Addr × Str)) : Sp := fun vs H Q _ => ∃ (vm v1 vd : V) (names : List Str) (mk : Mks) (row : List Str) (ds : List Int), vs = [vm, v1, vd] ∧ At H vm (Dct.mk mk) ∧ At H v1 row ∧ At H vd ds ∧ row.length ≤ ds.length ∧ row.length ≤ 1000 ∧ mk.length ≤ 1000 ∧ (mk.map (·.1)).Nodup ∧ (∀ x ∈ row, x ∈ names) ∧
  (∀ Y m, dlk mk Y = some m → Y ∈ names ∧ m.length ≤ 2 ∧ ∀ y ∈ m, y ∈ names ∧ dlk mk y = Option.none) ∧
  ∀ o : List Str, out (dlk mk) o = out (dlk mk) row → (∀ y ∈ o, y ∈ names) → o.length ≤ 2 * row.length → Ret T H Q o
abbrev exchN : List Str := ["_law_makings", "_law_row", "_law_digits_here", "_law_found", "_law_k", "_law_some", "_law_name"]
theorem LkAt.out {H H' HL : Hp} {d b : Addr} {u : HO} {o : Obj} {R : Hp → Hp} (l : LkAt H d u o HL R) (h : b ≠ d) : R H' b = H' b := by
  rcases l with ⟨_, _, rfl⟩ | ⟨_, _, rfl⟩
  · exact upd_ne h
  · rfl
theorem opt_base {names : List Str} {mk : Mks} {x : Str} (h : x ∈ names) : Opt names mk x [x] := ⟨rfl, fun y hy => by rw [List.mem_singleton.mp hy]; exact h, (by show 1 ≤ 2; decide)⟩
section
variable {P : Program} {w : World} {K : PySem.W.Frag} {mg : Str → Option Value} {base : Heap} {T : List (Addr × Str)}
theorem scExch : FnScope exchN ["_law_makings", "_law_row", "_law_digits_here"] (fnScope sExch) := fnScope_by (by decide +kernel)
theorem cal_exch (X : Gs mg) (F : DefB K mg "_law_exchanged" sExch ["_law_makings", "_law_row", "_law_digits_here"]) : Cal P w K mg base 1 "_law_exchanged" (spExch T) [] := by
  refine cal_of F scExch (fun vs H Q E h => ?_) (fun f cdv A outer s H vs Q E hr h => ?_)
  · obtain ⟨vm, v1, vd, names, mk, row, ds, rfl, _⟩ := h
    rfl
  · obtain ⟨vm, v1, vd, names, mk, row, ds, rfl, hm, h1, hd, hdl, hrl, hml, hnd, hrow, hmk, k⟩ := h
    have hu := hu_of hr
    have hu64 := hr.units
    obtain ⟨cr, rfl, hcr⟩ := h1.strs
    obtain ⟨ad, us, rfl, had, hus⟩ := hd
    rw [ints_at] at hus
    subst hus
    obtain ⟨dm, ps, rfl, hdm, hps⟩ := id hm
    refine ⟨_, pss_cons (ps_set (i := 3) scExch.nd rfl (Or.inl rfl) (pe_lst pa_nil))
      (pss_cons (ps_for PassesOwn.never rfl (pi_range1 (by rfl) X.range (pa_cons (pe_lenK K rfl (by rfl) X.len (pa_cons (pv 1) pa_nil)) pa_nil)) (pg_name (i := 4) scExch.nd rfl (Or.inr rfl))
        (pss_cons (ps_any (ps_set (i := 5) scExch.nd rfl (Or.inl rfl) (pe_op op_cat (pe_lst (pa_cons (pe_lst (pa_cons (pe_ix ix_list (pv 1) (pv 4) (fun _ _ => rfl)) pa_nil)) pa_nil))
            (pe_lc (own := [("_law_name", 6)]) rfl scExch.nd (pi_keys (pv 0)) (blkOk_by (N := exchN) (sc := fnScope sExch) (by decide +kernel))
              (fun _ _ _ _ _ => pg_name (i := 6) scExch.nd rfl (Or.inl rfl) (.inr rfl))
              (fun _ _ _ _ _ => pts_one (pt_cmpR (op_eqT (List Str) hu64) (pe_dget hu (pv 0) (pv 6) (fun _ _ => rfl)) (pe_lst (pa_cons (pe_ix (ix_listK K rfl) (pv 1) (pv 4) (fun _ _ => rfl)) pa_nil)) (nomark _)))
              (fun _ _ _ _ _ => pe_lst (pa_cons (pv 6) pa_nil))))))
        (pss_cons (ps_if (pt_cmp (pc_din hu (pe_ix ix_list (pv 1) (pv 4) (fun _ _ => rfl)) (pv 0))) (pss_one (ps_expr (pe_bm PySem.F.plainAttrs_list PySem.F.slot_list_append PySem.F.type_list_append mt_append (pv 5) (pa_cons (pe_dget hu (pv 0) (pe_ix ix_list (pv 1) (pv 4) (fun _ _ => rfl)) (fun _ _ => rfl)) pa_nil)))) pss_nil)
        (pss_one (ps_set (i := 3) scExch.nd rfl (Or.inl rfl) (pe_op op_cat (pv 3) (pe_ix ix_list (pv 5) (pe_op op_mod (pe_ix ix_list (pv 2) (pv 4) (fun _ _ => rfl)) (pe_lenK K rfl (by rfl) X.len (pa_cons (pv 5) pa_nil))) (fun _ _ => rfl))))))))
      (pss_one (ps_ret (pv 3)))), ?_⟩
    refine ⟨Nat.zero_le _, fun F0 hF0 => ?_⟩
    have s0 : Sm T H (upd H F0 (.lst [])) := Sm.new hF0
    have hrow1000 : (row.map V.str).length = row.length := List.length_map ..
    refine ⟨_, rfl, cr, _, rfl, .inl (SqL.of (s0.lst hcr)), _, rfl, by omega, by omega, ?_⟩
    have e0 : ((((row.map V.str).length : Nat) : Int)).toNat = row.length := by rw [hrow1000]; rfl
    rw [e0]
    refine for_range (lo := 0) (n := row.length) (fun i σ H' => ∃ (vF : V) (o : List Str) (z4 z5 : Option V), σ = [some (.ref dm), some (.ref cr), some (.ref ad), some vF, z4, z5, Option.none] ∧ Sm T H H' ∧ At (dif H' H) vF o ∧ out (dlk mk) o = out (dlk mk) (row.take i) ∧ (∀ y ∈ o, y ∈ names) ∧ o.length ≤ 2 * i)
      ⟨.ref F0, [], _, _, rfl, s0, ⟨F0, [], rfl, by rw [dif_new hF0, upd_same], True.intro⟩, by rw [List.take_zero], fun y h => (nomatch h), Nat.le_refl _⟩ ?_ ?_
    · rintro i σ H1 hi ⟨vF, o, z4, z5, rfl, s1, hF, ho1, ho2, ho3⟩
      obtain ⟨x, hx⟩ : ∃ x, row[i]? = some x := ⟨row[i], List.getElem?_eq_getElem hi⟩
      have hxn : x ∈ names := hrow x (List.mem_of_getElem? hx)
      have et : row.take (i + 1) = row.take i ++ [x] := by
        rw [List.take_add_one, hx]
        rfl
      have atk : atI (row.map V.str) (0 + ((i : Nat) : Int)) = some (V.str x) := by
        rw [Int.zero_add]
        exact atI_nat (by rw [List.getElem?_map, hx]; rfl)
      obtain ⟨d0, ps1, e, hdm1, hps1⟩ := hm.mono s1.kp
      cases e
      have hpl : ps1.length = mk.length := hps1.length
      have lkm : ∀ X m, (X, m) ∈ mk → dlk mk X = some m := fun X m h => dlk_of_mem hnd h
      refine ⟨dm, .dK ps1, hdm1, True.intro, fun o1 HL R l => ?_⟩
      have hfz := l.at_
      have hcr1 := s1.lst hcr
      have hcrd : cr ≠ dm := fun e => by
        rcases hdm1 with h | ⟨o, h⟩ <;> · rw [← e, hcr1] at h; cases h
      have hcrL : HL cr = some (.lst (row.map V.str)) := by
        rcases l with ⟨_, rfl, _⟩ | ⟨_, rfl, _⟩
        · rw [upd_ne hcrd]; exact hcr1
        · exact hcr1
      refine ⟨_, rfl, _, rfl, cr, _, _, _, rfl, rfl, SqL.of hcrL, atk, by show 1 ≤ sizeLine; decide, fun l1 hl1 => ⟨by show 1 ≤ sizeLine; decide, fun l2 hl2 => ?_⟩⟩
      have t1 : Sm T HL (upd HL l1 (.lst [V.str x])) := Sm.new hl1
      have t2 : Sm T HL _ := t1.trans (Sm.new (o := .lst [V.ref l1]) hl2)
      have l12 : l1 ≠ l2 := ne_of_none upd_same hl2
      have hfz2 := t2.kp dm _ hfz (fun _ z => nomatch z)
      refine ⟨_, rfl, dm, o1, rfl, .inl ⟨ps1, hfz2, fun E hE => ?_⟩⟩
      refine lc_it walk_keys (fun j H' => Sm T HL H' ∧ Sm T (upd (upd HL l1 (.lst [V.str x])) l2 (.lst [V.ref l1])) H' ∧ ∃ (ys : List V) (opts : List (List Str)), H' E = some (.lst ys) ∧ AllAt (hidL H' [E, dm]) ys opts ∧ ys.length ≤ j ∧ ∀ o ∈ opts, Opt names mk x o)
        ⟨t2.trans (Sm.new hE), Sm.new hE, [], [], upd_same, True.intro, Nat.le_refl _, fun o h => (nomatch h)⟩ (fun j H' _ h => h.1.kp dm _ hfz (fun _ z => nomatch z)) ?_ ?_
      · rintro j xk H3 H4 hj ⟨s3, s3', ys, opts, h3, hA, hyl, hop⟩ ⟨rfl, kk, v, hkv, rfl⟩
        obtain ⟨Y, m, e1, e2, hv⟩ := kv_at hps1 hkv
        have hY := lkm Y m (List.mem_of_getElem? e1)
        have eY : kV kk = V.str Y := by rw [e2]; rfl
        rw [eY]
        obtain ⟨d4, e, isd, hg⟩ := ((l.look (show At H1 (.ref dm) (Dct.mk mk) from ⟨dm, ps1, rfl, hdm1, hps1⟩)).mono s3.kp).dlk Y
        cases e
        rw [hY] at hg
        obtain ⟨u, hg, hu2⟩ := hg
        obtain ⟨k1, k2, k3⟩ := hmk Y m hY
        have hcr4 := s3.lst hcrL
        refine ⟨rfl, _, rfl, _, rfl, dm, _, rfl, hg, _, rfl, _, rfl, cr, _, _, _, rfl, rfl, SqL.of hcr4, atk, by show 1 ≤ sizeLine; decide, fun t ht => ?_⟩
        have sT := Sm.new (T := T) (o := .lst [V.str x]) ht
        refine ⟨m, [x], hu2.mono sT.kp, ⟨t, _, rfl, upd_same, rfl, True.intro⟩, _, rfl, ?_⟩
        have hEt : E ≠ t := ne_of_none h3 ht
        have kz : Kp (hidL H4 [E, dm]) (hidL (upd H4 t (.lst [V.str x])) [E, dm]) := hidL_mono sT.kp
        by_cases em : m = [x]
        · rw [decide_eq_true em]
          refine iteT ⟨_, rfl, by show 1 ≤ sizeLine; decide, fun q hq => ?_⟩
          have sq := Sm.new (T := T) (o := .lst [V.str Y]) hq
          have hE5 := (sT.trans sq).lst h3
          have hEq : E ≠ q := ne_of_none (sT.lst h3) hq
          have hdq : dm ≠ q := ne_of_none ((s3.trans sT).kp dm _ hfz (fun _ z => nomatch z)) hq
          have qL : q ∉ [E, dm] := fun mm => by
            simp only [List.mem_cons, List.not_mem_nil, or_false] at mm
            rcases mm with e | e
            · exact hEq e.symm
            · exact hdq e.symm
          have EL : E ∈ [E, dm] := List.mem_cons_self
          refine ⟨ys, hE5, ?_, (s3.trans (sT.trans sq)).mut ?_ hE5 True.intro, (s3'.trans (sT.trans sq)).mut hE hE5 True.intro, ys ++ [.ref q], opts ++ [[Y]], upd_same, ?_, by rw [List.length_append]; exact Nat.succ_le_succ hyl, fun o ho => ?_⟩
          · have : j < ps1.length := hj
            rw [hpl] at this
            exact Nat.lt_of_le_of_lt (show ys.length ≤ 5000 by omega) (by decide)
          · exact t2.fr _ hE
          · rw [hidL_upd EL]
            exact (hA.mono (kz.trans (hidL_mono sq.kp))).snoc ⟨q, [V.str Y], rfl, by rw [hidL_out qL, upd_same], strs_at.mpr rfl⟩
          · rcases List.mem_append.mp ho with z | z
            · exact hop o z
            · rw [List.mem_singleton.mp z]
              refine ⟨?_, fun y hy => by rw [List.mem_singleton.mp hy]; exact k1, (by show 1 ≤ 2; decide)⟩
              rw [out_one, out_one, hY, (k3 x (by rw [em]; exact List.mem_cons_self)).2, em]
              rfl
        · rw [decide_eq_false em]
          exact iteF ⟨s3.trans sT, s3'.trans sT, ys, opts, sT.lst h3, hA.mono kz, Nat.le_succ_of_le hyl, hop⟩
      · rintro H4 ⟨s4, s4', ys, opts, h4, hA, hyl, hop⟩
        have hl24 := s4'.lst (upd_same (H := upd HL l1 (.lst [V.str x])) (a := l2) (o := .lst [V.ref l1]))
        have hl14 := s4'.lst (show upd (upd HL l1 (.lst [V.str x])) l2 (.lst [V.ref l1]) l1 = some (.lst [V.str x]) by rw [upd_ne l12, upd_same])
        have hys1 : ys.length ≤ 1000 := by
          rw [hpl] at hyl
          omega
        refine ⟨l2, E, _, _, rfl, rfl, hl24, h4, Nat.le_trans (show _ ≤ 5000 by show [V.ref l1].length + ys.length ≤ 5000; simp; omega) (by decide), fun q hq => ?_⟩
        have sq : Sm T H4 (upd H4 q (.lst ([V.ref l1] ++ ys))) := Sm.new hq
        refine ⟨(s4.trans sq).kp dm _ hfz (fun _ z => nomatch z), ?_⟩
        have hdq : dm ≠ q := ne_of_none (s4.kp dm _ hfz (fun _ z => nomatch z)) hq
        have s5 : Sm T H1 (R (upd H4 q (.lst ([V.ref l1] ++ ys)))) := l.sm (s4.trans sq)
        have hq5 : R (upd H4 q (.lst ([V.ref l1] ++ ys))) q = some (.lst ([V.ref l1] ++ ys)) := by rw [l.out hdq.symm, upd_same]
        have hq1 : H1 q = Option.none := by
          have h1 := s4.fr _ hq
          rcases l with ⟨_, rfl, _⟩ | ⟨_, rfl, _⟩
          · rw [upd_ne hdq.symm] at h1; exact h1
          · exact h1
        have hl1d : l1 ≠ dm := (ne_of_none hfz hl1).symm
        have hl1q : l1 ≠ q := ne_of_none hl14 hq
        have kz : Kp (hidL H4 [E, dm]) (hid (R (upd H4 q (.lst ([V.ref l1] ++ ys)))) q) := fun b u e n => by
          by_cases mm : b ∈ [E, dm]
          · rw [hidL_in mm] at e; cases e
          · rw [hidL_out mm] at e
            have b1 : b ≠ q := ne_of_none e hq
            have b2 : b ≠ dm := fun z => mm (by rw [z]; exact List.mem_cons_of_mem _ List.mem_cons_self)
            rw [hid_ne b1, l.out b2, upd_ne b1]
            exact e
        have hA5 : AllAt (hid (R (upd H4 q (.lst ([V.ref l1] ++ ys)))) q) ([V.ref l1] ++ ys) ([x] :: opts) := ⟨⟨l1, _, rfl, by rw [hid_ne hl1q, l.out hl1d, upd_ne hl1q]; exact hl14, strs_at.mpr rfl⟩, hA.mono kz⟩
        have hop5 : ∀ o ∈ [x] :: opts, Opt names mk x o := fun o ho => by
          rcases List.mem_cons.mp ho with z | z
          · rw [z]; exact opt_base hxn
          · exact hop o z
        generalize R (upd H4 q (.lst ([V.ref l1] ++ ys))) = H5 at s5 hq5 hA5 ⊢
        have s05 := s1.trans s5
        have hcr5 := s05.lst hcr
        have had5 := s05.lst had
        have hF5 : At (dif H5 H) vF o := hF.mono (dif_mono (fun _ z => z) s5.kp)
        have hm5 : At (hid H5 q) (.ref dm) (Dct.mk mk) := (show At H1 (.ref dm) (Dct.mk mk) from ⟨dm, ps1, rfl, hdm1, hps1⟩).mono (s5.kp.hid hq1)
        obtain ⟨d5, ps5, e, hd5, hps5⟩ := hm5
        cases e
        have hg5 : DGet H5 dm (.str x) (valV ps5 (Sum.inr x : Key)) := dget_rd (hid_kp.rd hd5)
        have hq0 : H q = Option.none := s1.fr _ hq1
        have hlen5 : ([V.ref l1] ++ ys).length ≤ 2000 := by simp; omega
        refine ⟨_, rfl, _, rfl, cr, _, _, _, rfl, rfl, SqL.of hcr5, atk, _, rfl, dm, _, rfl, hg5, _, rfl, ?_⟩
        have hdk := ds.length
        obtain ⟨dv, hdv⟩ : ∃ dv, ds[i]? = some dv := ⟨ds[i]'(by omega), List.getElem?_eq_getElem _⟩
        have atd : atI (ds.map V.int) (0 + ((i : Nat) : Int)) = some (V.int dv) := by
          rw [Int.zero_add]
          exact atI_nat (by rw [List.getElem?_map, hdv]; rfl)
        cases em : dlk mk x with
        | none =>
          rw [hps5.none em]
          refine iteF ?_
          have s6 : Sm T H1 H5 := s5
          have hq6 := hq5
          have hA6 := hA5
          have hop6 := hop5
          have hlen6 : ([V.ref l1] ++ ys).length ≤ 3000 := by omega
          have hF6 := hF5
          have ne6 : [x] :: opts ≠ [] := List.cons_ne_nil _ _
          have had6 := had5
          obtain ⟨Fd, rfl, hFd⟩ := hF6.strs
          obtain ⟨jj, u9, q1, q2⟩ := mod_at (xs := ([V.ref l1] ++ ys)) (fun z => ne6 (List.length_eq_zero_iff.mp (by rw [← hA6.length, z]; rfl))) dv
          obtain ⟨o9, g1, g2⟩ := hA6.getV q2
          obtain ⟨r9, rfl, hr9⟩ := g2.strs
          have hr9 := hid_kp r9 _ hr9 (fun _ z => nomatch z)
          have hFd6 := (dif_some hFd).2
          obtain ⟨w1, w2, w3⟩ := hop6 o9 (List.mem_of_getElem? g1)
          have hpos : (0 : Int) < ((([V.ref l1] ++ ys).length : Nat) : Int) := by
            have : jj < ([V.ref l1] ++ ys).length := (List.getElem?_eq_some_iff.mp q2).1
            omega
          refine ⟨_, rfl, _, rfl, _, rfl, _, rfl, ad, _, _, _, rfl, rfl, SqL.of had6, atd, _, rfl, q, _, rfl, .inl (SqL.of hq6), _, _, rfl, rfl, hpos, q, _, _, _, rfl, rfl, SqL.of hq6, (by rw [q1]; exact atI_nat q2), Fd, r9, _, _, rfl, rfl, hFd6, hr9, ?_, fun q8 hq8 => ?_⟩
          · rw [List.length_map, List.length_map]
            exact Nat.le_trans (show o.length + o9.length ≤ 5000 by omega) (by decide)
          · rw [← List.map_append]
            have sZ := s6.trans (Sm.new (T := T) (o := .lst ((o ++ o9).map V.str)) hq8)
            refine ⟨.ref q8, o ++ o9, _, _, rfl, s1.trans sZ, ⟨q8, _, rfl, by rw [dif_new ((s1.trans s6).fr _ hq8), upd_same], strs_at.mpr rfl⟩, ?_, fun y hy => ?_, by rw [List.length_append]; omega⟩
            · rw [et, out_append, out_append, ho1, w1]
            · rcases List.mem_append.mp hy with z | z
              · exact ho2 y z
              · exact w2 y z
        | some m =>
          obtain ⟨u, hu1, hu2⟩ := hps5.some em
          rw [hu1]
          obtain ⟨k1, k2, k3⟩ := hmk x m em
          rw [hu1] at hg5
          refine iteT ⟨_, rfl, .inl ⟨rfl, _, SqL.of hq5⟩, _, rfl, _, rfl, _, rfl, cr, _, _, _, rfl, rfl, SqL.of hcr5, atk, dm, _, rfl, hg5, q, _, _, rfl, rfl, hq5, Nat.lt_of_le_of_lt hlen5 (by decide), ?_⟩
          have s6 := s5.mut (o := .lst ([V.ref l1] ++ ys ++ [u])) hq1 hq5 True.intro
          have hq6 : upd H5 q (.lst ([V.ref l1] ++ ys ++ [u])) q = some _ := upd_same
          have eh : hid (upd H5 q (.lst ([V.ref l1] ++ ys ++ [u]))) q = hid H5 q := by
            funext b
            by_cases z : b = q
            · rw [z, hid_at, hid_at]
            · rw [hid_ne z, hid_ne z, upd_ne z]
          have hA6 : AllAt (hid (upd H5 q (.lst ([V.ref l1] ++ ys ++ [u]))) q) ([V.ref l1] ++ ys ++ [u]) (([x] :: opts) ++ [m]) := by
            rw [eh]
            exact hA5.snoc hu2
          have hop6 : ∀ o ∈ ([x] :: opts) ++ [m], Opt names mk x o := fun o ho => by
            rcases List.mem_append.mp ho with z | z
            · exact hop5 o z
            · rw [List.mem_singleton.mp z]
              refine ⟨?_, fun y hy => (k3 y hy).1, k2⟩
              rw [out_self fun y hy => (k3 y hy).2, out_one, em]
              rfl
          have hlen6 : ([V.ref l1] ++ ys ++ [u]).length ≤ 3000 := by rw [List.length_append]; show _ + 1 ≤ _; omega
          have hF6 : At (dif (upd H5 q (.lst ([V.ref l1] ++ ys ++ [u]))) H) vF o := hF.mono (dif_mono (fun _ z => z) s6.kp)
          have ne6 : ([x] :: opts) ++ [m] ≠ [] := fun z => by simp at z
          have had6 := (s1.trans s6).lst had
          obtain ⟨Fd, rfl, hFd⟩ := hF6.strs
          obtain ⟨jj, u9, q1, q2⟩ := mod_at (xs := ([V.ref l1] ++ ys ++ [u])) (fun z => ne6 (List.length_eq_zero_iff.mp (by rw [← hA6.length, z]; rfl))) dv
          obtain ⟨o9, g1, g2⟩ := hA6.getV q2
          obtain ⟨r9, rfl, hr9⟩ := g2.strs
          have hr9 := hid_kp r9 _ hr9 (fun _ z => nomatch z)
          have hFd6 := (dif_some hFd).2
          obtain ⟨w1, w2, w3⟩ := hop6 o9 (List.mem_of_getElem? g1)
          have hpos : (0 : Int) < ((([V.ref l1] ++ ys ++ [u]).length : Nat) : Int) := by
            have : jj < ([V.ref l1] ++ ys ++ [u]).length := (List.getElem?_eq_some_iff.mp q2).1
            omega
          refine ⟨_, rfl, _, rfl, _, rfl, _, rfl, ad, _, _, _, rfl, rfl, SqL.of had6, atd, _, rfl, q, _, rfl, .inl (SqL.of hq6), _, _, rfl, rfl, hpos, q, _, _, _, rfl, rfl, SqL.of hq6, (by rw [q1]; exact atI_nat q2), Fd, r9, _, _, rfl, rfl, hFd6, hr9, ?_, fun q8 hq8 => ?_⟩
          · rw [List.length_map, List.length_map]
            exact Nat.le_trans (show o.length + o9.length ≤ 5000 by omega) (by decide)
          · rw [← List.map_append]
            have sZ := s6.trans (Sm.new (T := T) (o := .lst ((o ++ o9).map V.str)) hq8)
            refine ⟨.ref q8, o ++ o9, _, _, rfl, s1.trans sZ, ⟨q8, _, rfl, by rw [dif_new ((s1.trans s6).fr _ hq8), upd_same], strs_at.mpr rfl⟩, ?_, fun y hy => ?_, by rw [List.length_append]; omega⟩
            · rw [et, out_append, out_append, ho1, w1]
            · rcases List.mem_append.mp hy with z | z
              · exact ho2 y z
              · exact w2 y z
    · rintro σ H1 ⟨vF, o, z4, z5, rfl, s1, hF, ho1, ho2, ho3⟩
      rw [List.take_length] at ho1
      exact ⟨_, rfl, k o ho1 ho2 ho3 _ _ s1 hF⟩
end
end SG

set_option Elab.async false
set_option linter.all false
set_option maxRecDepth 100000
set_option maxHeartbeats 4000000
set_option autoImplicit false
/-! names exchanged for planted ones -/
namespace SG
open PySem PySem.Spec PyProof.Rows L2 LamX C8
theorem dlk_dmerge {β : Type} : ∀ (more b : List (Str × β)) {X : Str} {y : β}, dlk (dmerge b more) X = some y → dlk b X = some y ∨ (X, y) ∈ more
  | [], b, X, y, h => .inl h
  | p :: more, b, X, y, h => by
    rcases dlk_dmerge more (dput b p.1 p.2) h with q | q
    · rw [dlk_dput] at q
      by_cases e : X = p.1
      · rw [if_pos e] at q
        cases q
        exact .inr (by rw [e]; exact List.mem_cons_self)
      · rw [if_neg e] at q
        exact .inl q
    · exact .inr (List.mem_cons_of_mem _ q)
def swp (sw : List (Str × Str)) (x : Str) : Str := (dlk sw x).getD x
def SwOk (mk : Mks) (sw : List (Str × Str)) : Prop := ∀ a b, dlk sw a = some b → dlk mk b = some [a]
section
variable {names : List Str} {rules : List Rul} {mk : Mks} {u : Str → Nat} {sw : List (Str × Str)}
theorem swp_out (I : PInv names rules mk u) (hs : SwOk mk sw) : ∀ c : List Str, out (dlk mk) (c.map (swp sw)) = out (dlk mk) c
  | [] => rfl
  | x :: c => by
    rw [List.map_cons, show swp sw x :: c.map (swp sw) = [swp sw x] ++ c.map (swp sw) from rfl, show x :: c = [x] ++ c from rfl, out_append, out_append, swp_out I hs c]
    congr 1
    unfold swp
    cases e : dlk sw x with
    | none => rfl
    | some b =>
      have hb := hs x b e
      have := ((I.dom b _ hb).2.2.2 x List.mem_cons_self).2
      show out (dlk mk) [b] = _
      rw [out_one, out_one, hb, this]
      rfl
theorem swp_wt (I : PInv names rules mk u) (hs : SwOk mk sw) : ∀ c : List Str, wt u (c.map (swp sw)) = wt u c
  | [] => rfl
  | x :: c => by
    rw [List.map_cons, wt_cons, wt_cons, swp_wt I hs c]
    congr 1
    unfold swp
    cases e : dlk sw x with
    | none => rfl
    | some b =>
      have hb := hs x b e
      exact I.wtk b _ hb
theorem SwapR.again (I : PInv names rules mk u) (hs : SwOk mk sw) {r' r : Rul} (h : SwapR names mk u r' r) : SwapR names mk u ⟨r'.a, r'.b, r'.c.map (swp sw)⟩ r := by
  refine ⟨h.a, h.b, by rw [List.length_map]; exact h.len, by rw [swp_out I hs]; exact h.out, by rw [swp_wt I hs]; exact h.wt, fun y hy => ?_⟩
  obtain ⟨x, hx, rfl⟩ := List.mem_map.mp hy
  unfold swp
  cases e : dlk sw x with
  | none => exact h.over x hx
  | some b => exact (I.dom b _ (hs x b e)).1
theorem SwapR.self (I : PInv names rules mk u) {r : Rul} (h : r ∈ rules) : SwapR names mk u r r := ⟨rfl, rfl, rfl, out_self fun x hx => (I.base r h x hx).2, rfl, fun x hx => (I.base r h x hx).1⟩
theorem set_nodup {α : Type} : ∀ {l : List α} {k : Nat} {a : α}, l.Nodup → a ∉ l → (l.set k a).Nodup
  | [], _, _, h, _ => h
  | x :: l, 0, a, h, n => List.nodup_cons.mpr ⟨fun m => n (List.mem_cons_of_mem _ m), (List.nodup_cons.mp h).2⟩
  | x :: l, k + 1, a, h, n => List.nodup_cons.mpr ⟨fun m => by
      rcases List.mem_or_eq_of_mem_set m with q | q
      · exact (List.nodup_cons.mp h).1 q
      · exact n (by rw [← q]; exact List.mem_cons_self), set_nodup (List.nodup_cons.mp h).2 fun m => n (List.mem_cons_of_mem _ m)⟩
end
end SG

set_option Elab.async false
set_option linter.all false
set_option maxRecDepth 100000
set_option maxHeartbeats 16000000
set_option autoImplicit false
set_option pp.maxSteps 600
/-! The law's own: a grammar planted. -/
namespace SG
open PySem PySem.Spec PyProof.Rows L2 LamX C8
abbrev sPlanted : Stmt := top 65
abbrev plantN : List Str := ["_law_cell_here", "_law_kind", "_law_row", "_law_names", "_law_rules", "_law_makings", "_law_k", "_law_weights", "_law_part", "_law_one", "_law_name", "_law_steps", "_law_swap", "_law_put", "_law_rule", "_law_letter", "_law_more"]
def spPlanted (T : List (Addr × Str)) : Sp := fun vs H Q _ => ∃ c : Int, vs = [.int c, .str "row"] ∧
  ∀ (names : List Str) (rules : List Rul) (mk : Mks) (u : Str → Nat) (p : Addr) (vn vr vm : V) (H' : Hp), PFin names rules mk u → mk.length ≤ 1000 → Sm T H H' → H' p = some (.tup [vn, vr, vm]) → At H' vn names → At H' vr rules → At H' vm (Dct.mk mk) → Q (.ref p) H'
theorem sl_tupK {X : Cx} (K : PySem.W.Frag) (hK : X.K = K) : SlR X (rSlT K) := by
  subst hK
  exact sl_tup
/-- a planted name -/
def twName (k : Nat) : Str := ("tw" : Str) ++ (⟨#[117 + k]⟩ : Str)
theorem uvwxyz_at : ∀ i : Nat, i < 6 → ("uvwxyz" : Str).cps.toList[i]? = some (117 + i) := by decide +kernel
theorem tw_tl : ("tw" : Str).cps.toList = [116, 119] := by decide +kernel
theorem twName_inj {j k : Nat} (h : twName j = twName k) : j = k := by
  have := congrArg (fun s : Str => s.cps.toList) h
  have : (twName j).cps.toList = (twName k).cps.toList := this
  unfold twName at this
  rw [tl_snoc, tl_snoc] at this
  have h2 := (List.append_inj' this rfl).2
  have : 117 + j = 117 + k := by simpa using h2
  omega
theorem twName_base {j k : Nat} (h : baseName j (twName k)) : False := by
  obtain ⟨l, e⟩ := h.last
  unfold twName at e
  rw [tl_snoc] at e
  have h2 := (List.append_inj' e rfl).2
  have : 117 + k = 97 + j := by simpa using h2
  have := h.1
  omega
theorem twName_name {k : Nat} (h : k < 6) : nameT (twName k) := by
  have e : (twName k).length = 3 := by unfold twName; rw [str_len, tl_snoc, List.length_append, tw_tl]; rfl
  refine ⟨by omega, by omega, smallT_snoc (fun c hc => ?_) (abc_mem (by omega) (by omega)), fun z => ?_⟩
  · rw [tw_tl] at hc
    simp only [List.mem_cons, List.not_mem_nil, or_false] at hc
    rcases hc with q | q
    · rw [q]; exact abc_mem (by omega) (by omega)
    · rw [q]; exact abc_mem (by omega) (by omega)
  · have e2 : (twName k).length = ("names" : Str).length := by rw [z]
    rw [e] at e2
    exact absurd e2 (by decide +kernel)
/-- the names of a grammar in the making -/
structure PNames (names : List Str) (mk : Mks) (n0 k : Nat) : Prop where
  len : names.length = n0 + k
  form : ∀ x ∈ names, (∃ j, baseName j x) ∨ ∃ j, j < k ∧ x = twName j
  key : ∀ Y m, dlk mk Y = some m → ∃ j, j < k ∧ Y = twName j
  base : ∃ x ∈ names, ∃ j, baseName j x
theorem PNames.new {names : List Str} {mk : Mks} {n0 k : Nat} (h : PNames names mk n0 k) : twName k ∉ names := fun m => by
  rcases h.form _ m with ⟨j, hj⟩ | ⟨j, hj, e⟩
  · exact twName_base hj
  · have := twName_inj e
    omega
theorem PNames.nokey {names : List Str} {mk : Mks} {n0 k j : Nat} {x : Str} (h : PNames names mk n0 k) (b : baseName j x) : dlk mk x = none := by
  cases e : dlk mk x with
  | none => rfl
  | some m =>
    obtain ⟨i, _, rfl⟩ := h.key x m e
    exact (twName_base b).elim
theorem PNames.next {names names' : List Str} {mk : Mks} {n0 k : Nat} {m : List Str} (h : PNames names mk n0 k) (p : names'.Perm (twName k :: names)) : PNames names' (mk ++ [(twName k, m)]) n0 (k + 1) := by
  refine ⟨by rw [p.length_eq, List.length_cons, h.len]; omega, fun x hx => ?_, fun Y m' e => ?_, ?_⟩
  · rcases List.mem_cons.mp (p.mem_iff.mp hx) with z | z
    · exact .inr ⟨k, by omega, z⟩
    · rcases h.form x z with q | ⟨j, q, e⟩
      · exact .inl q
      · exact .inr ⟨j, by omega, e⟩
  · rw [dlk_append] at e
    cases q : dlk mk Y with
    | some z =>
      obtain ⟨j, q2, e2⟩ := h.key Y z q
      exact ⟨j, by omega, e2⟩
    | none =>
      rw [q] at e
      have e : dlk [(twName k, m)] Y = some m' := e
      rw [dlk_cons] at e
      by_cases z : twName k = Y
      · exact ⟨k, by omega, z.symm⟩
      · rw [if_neg z] at e
        cases e
  · obtain ⟨x, hx, q⟩ := h.base
    exact ⟨x, p.mem_iff.mpr (List.mem_cons_of_mem _ hx), q⟩
theorem PInv.wrules {names : List Str} {rules : List Rul} {mk : Mks} {u : Str → Nat} (I : PInv names rules mk u) (h : rules.length ≤ 1000) : WRules names rules u := ⟨I.nms, I.le, I.left, fun r hr x hx => (I.base r hr x hx).1, I.short, h⟩
/-- a row that a name may stand for, or a place from which one is sought -/
def OneW (names : List Str) (mk : Mks) (one : List Str) (m : Nat) : Prop := (∀ x ∈ one, dlk mk x = none) ∨ ∃ (j jb : Nat) (x xb : Str), one = [x] ∧ names[j]? = some x ∧ j ≤ jb ∧ names[jb]? = some xb ∧ dlk mk xb = none ∧ m = jb - j
/-- a statement, by what holds behind it -/
def tJoin (t : TS) : TS := fun D σ H => ∃ N : L2.St → Hp → Prop, t { D with nx := N } σ H ∧ ∀ σ' H', N σ' H' → D.nx σ' H'
theorem ps_join {X : Cx} {st : Stmt} {t : TS} (h : PS X st t) : PS X st (tJoin t) := by
  refine ⟨fun pins s σ H D I hw => ?_⟩
  obtain ⟨N, hw, hN⟩ := hw
  refine thn (h.run pins s σ H _ I hw) fun f s1 q => ?_
  cases f with
  | next => obtain ⟨σ', H', I2, q⟩ := q; exact ⟨σ', H', I2, hN _ _ q⟩
  | brk => exact q
  | cont => exact q
  | ret v => exact q
structure OneAt (T : List (Addr × Str)) (H4 H' : Hp) (N Pt OX : Addr) (names : List Str) (mk : Mks) (part : List Int) (one : List Str) (m : Nat) : Prop where
  sm : Sm T H4 H'
  o : H' OX = some (.lst (one.map V.str))
  n : H' N = some (.lst (names.map V.str))
  pt : H' Pt = some (.lst (part.map V.int))
  fr : H4 OX = Option.none
  ne : one ≠ []
  len : one.length ≤ 2
  sub : ∀ x ∈ one, x ∈ names
  w : OneW names mk one m
def markL (L : List Addr) : Hp := fun b => if b ∈ L then some (.lst []) else Option.none
theorem dif_mark {H : Hp} {L : List Addr} : dif H (markL L) = hidL H L := by
  funext b
  by_cases h : b ∈ L
  · rw [hidL_in h, dif_old (show markL L b = some (.lst []) from if_pos h)]
  · rw [hidL_out h, dif_new (show markL L b = Option.none from if_neg h)]
theorem mark_none {L : List Addr} {b : Addr} (h : b ∉ L) : markL L b = Option.none := if_neg h
theorem rulesOf_fm (rules : List Rul) (m1 : Str) : rules.filterMap (fun r => if r.a = m1 then some ((r.b, r.c) : RP) else Option.none) = rulesOf rules m1 := by
  unfold rulesOf
  induction rules with
  | nil => rfl
  | cons r rs ih =>
    by_cases h : r.a = m1
    · rw [List.filterMap_cons_some (b := (r.b, r.c)) (by rw [if_pos h]), List.filter_cons_of_pos (by rw [decide_eq_true h]), List.map_cons, ih]
    · rw [List.filterMap_cons_none (by rw [if_neg h]), List.filter_cons_of_neg (by rw [decide_eq_false h]; exact Bool.false_ne_true), ih]
theorem Along.at2 {α β : Type} {R : α → β → Prop} : ∀ {as : List α} {bs : List β} {k : Nat} {a : α} {b : β}, Along R as bs → as[k]? = some a → bs[k]? = some b → R a b
  | [], _, _, _, _, _, h, _ => by simp at h
  | _ :: _, [], _, _, _, h, _, _ => h.elim
  | x :: as, y :: bs, 0, a, b, h, h1, h2 => by
    have e1 : x = a := by simpa using h1
    have e2 : y = b := by simpa using h2
    rw [← e1, ← e2]
    exact h.1
  | _ :: _, _ :: _, k + 1, a, b, h, h1, h2 => Along.at2 h.2 (by simpa using h1) (by simpa using h2)
theorem ixN_at {n j : Nat} (hj : j < n) : ixN n (j : Int) = some j := by
  unfold ixN
  split
  · split
    · rfl
    · omega
  · omega
theorem rulesOf_nodup {rules : List Rul} (h : rules.Nodup) (X : Str) : (rulesOf rules X).Nodup := by
  unfold rulesOf
  refine List.pairwise_map.mpr ((List.Pairwise.filter _ h).imp_of_mem fun {a b} ha hb hne e => hne ?_)
  have ha := of_decide_eq_true (List.mem_filter.mp ha).2
  have hb := of_decide_eq_true (List.mem_filter.mp hb).2
  obtain ⟨e1, e2⟩ := Prod.mk.inj e
  cases a
  cases b
  simp only at ha hb e1 e2
  subst ha hb e1 e2
  rfl
structure StepAt (T : List (Addr × Str)) (H4 H' : Hp) (N M R Pt OX SX : Addr) (names : List Str) (rules : List Rul) (mk : Mks) (u : Str → Nat) (part : List Int) (m1 : Str) (rest : List Str) (S : List RP) : Prop where
  sm : Sm T H4 H'
  o : H' OX = some (.lst ((m1 :: rest).map V.str))
  n : H' N = some (.lst (names.map V.str))
  pt : H' Pt = some (.lst (part.map V.int))
  fr : H4 OX = Option.none
  sx : SX ∉ [N, M, R]
  st : ∃ cs, H' SX = some (.lst cs) ∧ AllAt (hidL H' [N, M, R]) cs S
  hm : ∀ x ∈ m1 :: rest, x ∈ names ∧ dlk mk x = Option.none
  hr : rest.length ≤ 1
  hS : ∀ p, p ∈ S ↔ ∃ q ∈ rulesOf rules m1, p = (q.1, q.2 ++ rest)
  nd : S.Nodup
  few : S.length ≤ 4
  short : ∀ p ∈ S, p.2.length ≤ 3
  hw : wt u (m1 :: rest) ≤ 12
section
variable {P : Program} {w : World} {K : PySem.W.Frag} {mg : Str → Option Value} {base : Heap} {T : List (Addr × Str)}
theorem scPlanted : FnScope plantN ["_law_cell_here", "_law_kind"] (fnScope sPlanted) := fnScope_by (by decide +kernel)
theorem cal_planted (X : Gs mg) (cDig : Cal P w K mg base 1 "_law_digits" (spDigits T) []) (cBu : Cal P w K mg base 3 "_law_built" (spBuilt T) []) (cWe : Cal P w K mg base 1 "_law_weighed" (spWeigh T) []) (cFi : Cal P w K mg base 3 "_law_fit_for" (spFit T) [])
    (F : DefB K mg "_law_planted" sPlanted ["_law_cell_here", "_law_kind"]) : Cal P w K mg base 4 "_law_planted" (spPlanted T) [] := by
  refine cal_of F scPlanted (fun vs H Q E h => ?_) (fun f cdv A outer s H vs Q E hr h => ?_)
  · obtain ⟨c, rfl, _⟩ := h
    rfl
  · obtain ⟨c, rfl, k⟩ := h
    have hu := hu_of hr
    have hu64 := hr.units
    have hun := hr.un
    refine ⟨_, pss_cons (ps_set (i := 2) scPlanted.nd rfl (Or.inl rfl) (pe_c cDig hr (by decide) rfl (pa_cons (pv 0) (pa_cons pe_int pa_nil))))
      (pss_cons (ps_asg (pe_c cBu hr (by decide) rfl (pa_cons (pe_op op_fdiv (pv 0) pe_int) (pa_cons (pe_op op_add pe_int (pe_op op_mod (pe_ix ix_list (pv 2) pe_int (fun _ _ => rfl)) pe_int)) pa_nil))) (pg_tup2K K rfl rfl scPlanted.nd (i := 3) (j := 4) rfl rfl (.inl rfl) (.inl rfl) (.inr rfl) (.inr rfl)))
      (pss_cons (ps_set (i := 5) scPlanted.nd rfl (Or.inr rfl) pe_dnewK)
      (pss_cons (ps_for PassesOwn.never rfl (pi_range1 (by rfl) X.range (pa_cons (pe_op op_add pe_int (pe_op op_mod (pe_ix ix_list (pv 2) pe_int (fun _ _ => rfl)) (pe_op op_sub pe_int (pe_lenK K rfl (by rfl) X.len (pa_cons (pv 3) pa_nil))))) pa_nil)) (pg_name (i := 6) scPlanted.nd rfl (Or.inl rfl))
        (pss_cons (ps_set (i := 7) scPlanted.nd rfl (Or.inl rfl) (pe_c cWe hr (by decide) rfl (pa_cons (pv 3) (pa_cons (pv 4) pa_nil))))
        (pss_cons (ps_set (i := 8) scPlanted.nd rfl (Or.inl rfl) (pe_slice sl_list (pv 2) (po_some (pe_op op_add pe_int (pe_op op_mul pe_int (pv 6)))) (po_some (pe_op op_add pe_int (pe_op op_mul pe_int (pv 6))))))
        (pss_cons (ps_set (i := 9) scPlanted.nd rfl (Or.inr rfl) (pe_slice sl_list (pe_lst (pa_cons (pe_ix ix_list (pv 3) (pe_op op_mod (pe_ix ix_list (pv 8) pe_int (fun _ _ => rfl)) (pe_lenK K rfl (by rfl) X.len (pa_cons (pv 3) pa_nil))) (fun _ _ => rfl))
            (pa_cons (pe_ix ix_list (pv 3) (pe_op op_mod (pe_ix ix_list (pv 8) pe_int (fun _ _ => rfl)) (pe_lenK K rfl (by rfl) X.len (pa_cons (pv 3) pa_nil))) (fun _ _ => rfl)) pa_nil))) po_none (po_some (pe_op op_add pe_int (pe_op op_mod (pe_ix ix_list (pv 8) pe_int (fun _ _ => rfl)) pe_int)))))
        (pss_cons (ps_join (ps_if (pt_cmpR (op_neT (List Str) hu64) (pe_lc (own := [("_law_name", 10)]) rfl scPlanted.nd (pi_list (pv 9)) (blkOk_by (N := plantN) (sc := fnScope sPlanted) (by decide +kernel))
              (fun _ _ _ _ _ => pg_name (i := 10) scPlanted.nd rfl (Or.inl rfl) (.inr rfl)) (fun _ _ _ _ _ => pts_one (pt_cmp (pc_din hu (pv 10) (pv 5)))) (fun _ _ _ _ _ => pv 10)) (pe_lst pa_nil) (nomark _))
            (pss_one (ps_set (i := 9) scPlanted.nd rfl (Or.inr rfl) (pe_lst (pa_cons (pe_ix ix_list (pv 3) pe_int (fun _ _ => rfl)) pa_nil)))) pss_nil))
        (pss_cons (ps_join (ps_while PassesOwn.never (pt_cmp (pc_din hu (pe_ix ix_list (pv 9) pe_int (fun _ _ => rfl)) (pv 5)))
            (pss_one (ps_set (i := 9) scPlanted.nd rfl (Or.inr rfl) (pe_lst (pa_cons (pe_ix ix_list (pv 3) (pe_op op_add (pe_bm PySem.F.plainAttrs_list PySem.F.slot_list_index PySem.F.type_list_index mt_index (pv 3) (pa_cons (pe_ix ix_list (pv 9) pe_int (fun _ _ => rfl)) pa_nil)) pe_int) (fun _ _ => rfl)) pa_nil))))))
        (pss_cons (ps_join (ps_set (i := 11) scPlanted.nd rfl (Or.inl rfl) (pe_c cFi hr (by decide) rfl (pa_cons (pv 3) (pa_cons (pv 4) (pa_cons (pv 7) (pa_cons (pv 1) (pa_cons (pv 9) pa_nil))))))))
        (pss_cons (ps_join (ps_if (pt_cmp (pc_isN (pv 11))) (pss_cons (ps_set (i := 9) scPlanted.nd rfl (Or.inr rfl) (pe_slice sl_list (pv 9) po_none (po_some pe_int)))
            (pss_one (ps_setLc (i := 11) (own := [("_law_rule", 14)]) rfl scPlanted.nd rfl rfl (sw_true rfl rfl rfl (by decide +kernel)) (pi_list (pv 4)) (blkOk_by (N := plantN) (sc := fnScope sPlanted) (by decide +kernel))
              (fun _ _ _ _ _ => pg_name (i := 14) scPlanted.nd rfl (Or.inl rfl) (.inr rfl)) (fun _ _ _ _ _ => pts_one (pt_cmpR op_eq (pe_ix (ix_tupK K rfl) (pv 14) pe_int (fun _ _ => rfl)) (pe_ix (ix_listK K rfl) (pv 9) pe_int (fun _ _ => rfl)) (nomark _)))
              (fun _ _ _ _ _ => pe_slice (sl_tupK K rfl) (pv 14) (po_some pe_int) po_none)))) pss_nil))
        (pss_cons (ps_set (i := 10) scPlanted.nd rfl (Or.inr rfl) (pe_op op_add_str pe_str (pe_ix ix_str pe_str (pv 6) (fun _ _ => rfl))))
        (pss_cons (ps_expr (pe_bm PySem.F.plainAttrs_list PySem.F.slot_list_insert PySem.F.type_list_insert mt_insert (pv 3) (pa_cons (pe_op op_mod (pe_ix ix_list (pv 8) pe_int (fun _ _ => rfl)) pe_int) (pa_cons (pv 10) pa_nil))))
        (pss_cons (ps_set (i := 4) scPlanted.nd rfl (Or.inl rfl) (pe_op op_cat (pv 4) (pe_lc (own := [("_law_letter", 15), ("_law_more", 16)]) rfl scPlanted.nd (pi_list (pv 11)) (blkOk_by (N := plantN) (sc := fnScope sPlanted) (by decide +kernel))
              (fun _ _ _ _ _ => pg_tup2K K rfl rfl scPlanted.nd (i := 15) (j := 16) rfl rfl (.inl rfl) (.inl rfl) (.inr rfl) (.inr rfl)) (fun _ _ _ _ _ => pts_nil) (fun _ _ _ _ _ => pe_tup (pa_cons (pv 10) (pa_cons (pv 15) (pa_cons (pv 16) pa_nil)))))))
        (pss_one (ps_dput hu (pv 5) (pv 10) (pv 9) rfl)))))))))))))
      (pss_cons (ps_any (ps_set (i := 12) scPlanted.nd rfl (Or.inr rfl) (pe_callTy (cr_dictT (α := Str) rfl) (by rfl) X.dict boot_dict_ (pa_cons (pe_lc (own := [("_law_name", 10)]) rfl scPlanted.nd (pi_keys (pv 5)) (blkOk_by (N := plantN) (sc := fnScope sPlanted) (by decide +kernel))
            (fun _ _ _ _ _ => pg_name (i := 10) scPlanted.nd rfl (Or.inl rfl) (.inr rfl)) (fun _ _ _ _ _ => pts_one (pt_cmpR op_eq (pe_lenK K rfl (by rfl) X.len (pa_cons (pe_dget hu (pv 5) (pv 10) (fun _ _ => rfl)) pa_nil)) pe_int (nomark _)))
            (fun _ _ _ _ _ => pe_tup (pa_cons (pe_ix (ix_listK K rfl) (pe_dget hu (pv 5) (pv 10) (fun _ _ => rfl)) pe_int (fun _ _ => rfl)) (pa_cons (pv 10) pa_nil)))) pa_nil))))
      (pss_cons (ps_for PassesOwn.never rfl (pi_range1 (by rfl) X.range (pa_cons (pe_lenK K rfl (by rfl) X.len (pa_cons (pv 4) pa_nil)) pa_nil)) (pg_name (i := 6) scPlanted.nd rfl (Or.inl rfl))
        (pss_cons (ps_set (i := 13) scPlanted.nd rfl (Or.inl rfl) (pe_tup (pa_cons (pe_ix ix_tup (pe_ix ix_list (pv 4) (pv 6) (fun _ _ => rfl)) pe_int (fun _ _ => rfl)) (pa_cons (pe_ix ix_tup (pe_ix ix_list (pv 4) (pv 6) (fun _ _ => rfl)) pe_int (fun _ _ => rfl))
            (pa_cons (pe_lc (own := [("_law_name", 10)]) rfl scPlanted.nd (pi_list (pe_ix ix_tup (pe_ix ix_list (pv 4) (pv 6) (fun _ _ => rfl)) pe_int (fun _ _ => rfl))) (blkOk_by (N := plantN) (sc := fnScope sPlanted) (by decide +kernel))
              (fun _ _ _ _ _ => pg_name (i := 10) scPlanted.nd rfl (Or.inl rfl) (.inr rfl)) (fun _ _ _ _ _ => pts_nil) (fun _ _ _ _ _ => pe_dget2 hu (pv 12) (pv 10) (pv 10) (m := ⟨rfl, rfl, rfl, rfl⟩))) pa_nil)))))
        (pss_one (ps_if (PW.pt (pw_and (pt_cmpR op_eq (pe_op op_mod (pe_ix ix_list (pv 2) (pe_op op_mod (pe_op op_add pe_int (pv 6)) pe_int) (fun _ _ => rfl)) pe_int) pe_int (nomark _)) (pw_and1 (pt_cmpR (op_notInT Rul (by show (A.deeper _).units + 65 < cLine; omega)) (pv 13) (pv 4) (by rfl)))))
            (pss_one (ps_asg (pv 13) (pg_sub (pv 4) (pv 6) set_list))) pss_nil))))
      (pss_one (ps_ret (pe_tup (pa_cons (pv 3) (pa_cons (pv 4) (pa_cons (pv 5) pa_nil))))))))))), ?_⟩
    -- digits, the base grammar
    refine ⟨_, rfl, c, 40, rfl, by decide, fun ds hdl hd0 v1 H1 s1 h1 => ?_⟩
    obtain ⟨Dg, us1, rfl, hDg, hus⟩ := h1
    rw [ints_at] at hus
    subst hus
    have hDg1 := (dif_some hDg).2
    have dat : ∀ i : Nat, i < 40 → ∃ d : Int, 0 ≤ d ∧ ds[i]? = some d ∧ atI (ds.map V.int) ((i : Nat) : Int) = some (V.int d) := fun i hi => by
      have h2 : i < ds.length := by omega
      exact ⟨ds[i], hd0 _ (List.getElem_mem h2), List.getElem?_eq_getElem h2, atI_nat (by rw [List.getElem?_map, List.getElem?_eq_getElem h2]; rfl)⟩
    obtain ⟨d0, hd0p, _, hd0a⟩ := dat 0 (by decide)
    obtain ⟨d1, hd1p, _, hd1a⟩ := dat 1 (by decide)
    obtain ⟨n0, hn0⟩ : ∃ n0 : Nat, 1 + d0 % 4 = ((n0 : Nat) : Int) := ⟨(1 + d0 % 4).toNat, by omega⟩
    refine ⟨_, rfl, _, _, rfl, rfl, ⟨by decide, by decide⟩, _, rfl, Dg, _, 0, _, rfl, rfl, SqL.of hDg1, hd0a, _, _, rfl, rfl, (by show (0 : Int) < _; decide), _, _, rfl, rfl, c / 4, n0, by show [V.int (c / 4), V.int (1 + d0 % 4)] = _; rw [hn0], by omega, by omega, ?_⟩
    intro names0 rules0 u0 p0 N R0 us0 H2 hnl0 hbase0 I0 s2 hp0 hN1 hN2 hR2 hRN hR1 hA0
    refine ⟨p0, _, rfl, SqT.of hp0, rfl, _, _, rfl, _, _, rfl, rfl, ?_⟩
    -- makings = {}
    intro M hM
    have s12 := s1.trans s2
    have s3 : Sm T H (upd H2 M (.dK [])) := s12.trans (Sm.new hM)
    have hN0 : H N = Option.none := s1.fr _ hN1
    have hM0 : H M = Option.none := s12.fr _ hM
    have hNM : N ≠ M := ne_of_none hN2 hM
    have hRM : R0 ≠ M := ne_of_none hR2 hM
    have hDg2 := s2.lst hDg1
    have hDM : Dg ≠ M := ne_of_none hDg2 hM
    have hDN : Dg ≠ N := ne_of_none hDg1 hN1
    have hn1 : 1 ≤ n0 ∧ n0 ≤ 4 := by omega
    have hnls : (names0.map V.str).length = n0 := by rw [List.length_map]; exact hnl0
    refine ⟨_, rfl, Dg, _, 1, _, rfl, rfl, SqL.of (by rw [upd_ne hDM]; exact hDg2), hd1a, _, rfl, N, _, rfl, .inl (SqL.of (by rw [upd_ne hNM]; exact hN2)), _, _, rfl, rfl, _, _, rfl, rfl, ?_, _, _, rfl, rfl, _, rfl, ?_, ?_, ?_⟩
    · show (0 : Int) < 6 - _
      rw [hnls]
      omega
    · rw [hnls]
      have := Int.emod_nonneg d1 (show (6 - (n0 : Int)) ≠ 0 by omega)
      omega
    · rw [hnls]
      have := Int.emod_lt_of_pos d1 (show (0 : Int) < 6 - (n0 : Int) by omega)
      omega
    rw [hnls]
    obtain ⟨nk, hnk⟩ : ∃ nk : Nat, 1 + d1 % (6 - ((n0 : Nat) : Int)) = ((nk : Nat) : Int) := ⟨(1 + d1 % (6 - ((n0 : Nat) : Int))).toNat, by
      have := Int.emod_nonneg d1 (show (6 - (n0 : Int)) ≠ 0 by omega)
      omega⟩
    have hnk2 : nk + n0 ≤ 6 := by
      have := Int.emod_lt_of_pos d1 (show (0 : Int) < 6 - (n0 : Int) by omega)
      omega
    rw [hnk]
    have e0 : (((nk : Nat) : Int)).toNat = nk := rfl
    rw [e0]
    refine for_range (lo := 0) (n := nk) (fun k σ H' => ∃ (names : List Str) (rules : List Rul) (mk : Mks) (u : Str → Nat) (R : Addr) (us : List V) (kvs : List (Key × V)) (z6 z7 z8 z9 z10 z11 : Option V),
        σ = [some (.int c), some (.str "row"), some (.ref Dg), some (.ref N), some (.ref R), some (.ref M), z6, z7, z8, z9, z10, z11, Option.none, Option.none, Option.none, Option.none, Option.none] ∧ Sm T H H' ∧ H' Dg = some (.lst (ds.map V.int)) ∧ H' N = some (.lst (names.map V.str)) ∧ H' R = some (.lst us) ∧ AllAt (hidL H' [N, M, R]) us rules ∧
        H' M = some (.dK kvs) ∧ AllKv (hidL H' [N, M, R]) kvs mk ∧ H R = Option.none ∧ R ≠ N ∧ R ≠ M ∧ PInv names rules mk u ∧ PNames names mk n0 k ∧ mk.length = k ∧ rules.length ≤ 1000)
      ⟨names0, rules0, [], u0, R0, us0, [], _, _, _, _, _, _, rfl, s3, ?_, ?_, ?_, ?_, upd_same, True.intro, s1.fr _ hR1, hRN, hRM, I0, ⟨hnl0, fun x hx => .inl (hbase0 x hx), fun Y m e => (nomatch e), ?_⟩, rfl, ?_⟩ ?_ ?_
    · rw [upd_ne hDM]; exact hDg2
    · rw [upd_ne hNM]; exact hN2
    · rw [upd_ne hRM]; exact hR2
    · refine hA0.mono fun b o e n => ?_
      by_cases q : b ∈ [N, R0]
      · rw [hidL_in q] at e; cases e
      · rw [hidL_out q] at e
        have bM : b ≠ M := ne_of_none e hM
        have q2 : b ∉ [N, M, R0] := fun m => by
          simp only [List.mem_cons, List.not_mem_nil, or_false] at m q
          rcases m with m | m | m
          · exact q (.inl m)
          · exact bM m
          · exact q (.inr m)
        rw [hidL_out q2, upd_ne bM]
        exact e
    · cases names0 with
      | nil => rw [List.length_nil] at hnl0; omega
      | cons x ns => exact ⟨x, List.mem_cons_self, hbase0 x List.mem_cons_self⟩
    · have := I0.rlen
      omega
    · rintro i σ H3 hi ⟨names, rules, mk, u, R, us, kvs, z6, z7, z8, z9, z10, z11, rfl, s3, dg3, n3, r3, al3, m3, kv3, hR0, hRN, hRM, I, PN, hml, hrl⟩
      have hnl := PN.len
      have hi5 : i < 6 := by omega
      have hus := al3.length
      have hrAt : At H3 (.ref R) rules := ⟨R, us, rfl, r3, al3.mono hidL_kp⟩
      -- weights
      refine ⟨_, rfl, _, rfl, .ref N, .ref R, names, rules, u, rfl, hrAt, I.wrules hrl, fun b hb vw H4 s4 hw => ?_⟩
      have s34 := s3.trans s4
      have dg4 := s4.lst dg3
      have n4 := s4.lst n3
      -- part
      have ecut : ∃ part : List Int, part.length = 4 ∧ (∀ d ∈ part, 0 ≤ d) ∧ cutV (ds.map V.int) (some (2 + 4 * (0 + ((i : Nat) : Int)))) (some (6 + 4 * (0 + ((i : Nat) : Int)))) = part.map V.int := by
        refine ⟨(ds.drop (2 + 4 * i)).take 4, ?_, fun d hd => hd0 d (List.mem_of_mem_drop (List.mem_of_mem_take hd)), ?_⟩
        · rw [List.length_take, List.length_drop]
          omega
        · have e1 : 2 + 4 * (0 + ((i : Nat) : Int)) = ((2 + 4 * i : Nat) : Int) := by omega
          have e2 : 6 + 4 * (0 + ((i : Nat) : Int)) = ((6 + 4 * i : Nat) : Int) := by omega
          unfold cutV
          rw [e1, e2, HT.sIx_nat, HT.sIx_nat, List.length_map, Nat.min_eq_left (by omega), Nat.min_eq_left (by omega), ← List.map_drop, ← List.map_take]
          congr 2
          omega
      obtain ⟨part, hp4, hp0, ecut⟩ := ecut
      refine ⟨_, rfl, _, rfl, _, _, rfl, rfl, .inl ⟨by decide, by decide⟩, _, _, rfl, rfl, _, rfl, _, rfl, _, _, rfl, rfl, .inl ⟨by decide, by decide⟩, _, _, rfl, rfl, _, rfl, Dg, _, rfl, SqL.of dg4, fun Pt hPt => ?_⟩
      rw [ecut]
      have s5 : Sm T H4 (upd H4 Pt (.lst (part.map V.int))) := Sm.new hPt
      have s35 := s34.trans s5
      have n5 := s5.lst n4
      have pt5 : upd H4 Pt (.lst (part.map V.int)) Pt = some (.lst (part.map V.int)) := upd_same
      have pat : ∀ j : Nat, j < 4 → ∃ d : Int, 0 ≤ d ∧ atI (part.map V.int) ((j : Nat) : Int) = some (V.int d) := fun j hj => by
        have h2 : j < part.length := by omega
        exact ⟨part[j], hp0 _ (List.getElem_mem h2), atI_nat (by rw [List.getElem?_map, List.getElem?_eq_getElem h2]; rfl)⟩
      obtain ⟨q0, hq0, aq0⟩ := pat 0 (by decide)
      obtain ⟨q1, hq1, aq1⟩ := pat 1 (by decide)
      obtain ⟨q2, hq2, aq2⟩ := pat 2 (by decide)
      obtain ⟨q3, hq3, aq3⟩ := pat 3 (by decide)
      generalize upd H4 Pt (.lst (part.map V.int)) = H5 at s5 s35 n5 pt5 ⊢
      have hnml : (names.map V.str).length = names.length := List.length_map ..
      have hnpos : (0 : Int) < (((names.map V.str).length : Nat) : Int) := by rw [hnml]; omega
      have nmod : ∀ d : Int, ∃ x ∈ names, atI (names.map V.str) (d % (((names.map V.str).length : Nat) : Int)) = some (V.str x) := fun d => by
        have ne : names ≠ [] := fun z => by rw [z] at hnl; simp at hnl; omega
        obtain ⟨j, x, e1, e2⟩ := mod_at ne d
        refine ⟨x, List.mem_of_getElem? e2, ?_⟩
        rw [hnml, e1]
        exact atI_nat (by rw [List.getElem?_map, e2]; rfl)
      obtain ⟨x0, hx0, ax0⟩ := nmod q0
      obtain ⟨x1, hx1, ax1⟩ := nmod q1
      -- one
      refine ⟨_, rfl, _, rfl, Pt, _, 0, _, rfl, rfl, SqL.of pt5, aq0, _, rfl, N, _, rfl, .inl (SqL.of n5), _, _, rfl, rfl, hnpos, N, _, _, _, rfl, rfl, SqL.of n5, ax0,
        _, rfl, _, rfl, Pt, _, 1, _, rfl, rfl, SqL.of pt5, aq1, _, rfl, N, _, rfl, .inl (SqL.of n5), _, _, rfl, rfl, hnpos, N, _, _, _, rfl, rfl, SqL.of n5, ax1, (by show 2 ≤ sizeLine; decide), fun Lq hLq => ?_⟩
      have s6 : Sm T H5 (upd H5 Lq (.lst [V.str x0, V.str x1])) := Sm.new hLq
      have pt6 := s6.lst pt5
      refine ⟨_, rfl, Pt, _, 2, _, rfl, rfl, SqL.of pt6, aq2, _, _, rfl, rfl, (by show (0 : Int) < _; decide), _, _, rfl, rfl, _, rfl, Lq, _, rfl, SqL.of upd_same, fun O hO => ?_⟩
      obtain ⟨one, eone, hone1, hone2, hone3⟩ : ∃ one : List Str, cutV [V.str x0, V.str x1] Option.none (some (1 + q2 % 2)) = one.map V.str ∧ one ≠ [] ∧ one.length ≤ 2 ∧ ∀ x ∈ one, x ∈ names := by
        have e1 : 1 + q2 % 2 = ((1 + q2.toNat % 2 : Nat) : Int) := by omega
        refine ⟨[x0, x1].take (1 + q2.toNat % 2), ?_, ?_, by rw [List.length_take]; exact Nat.min_le_right _ _, fun x hx => ?_⟩
        · rw [e1, cutV_to, List.map_take]
          rfl
        · rw [Nat.add_comm, List.take_succ_cons]
          exact List.cons_ne_nil _ _
        · have := List.mem_of_mem_take hx
          simp only [List.mem_cons, List.not_mem_nil, or_false] at this
          rcases this with q | q
          · rw [q]; exact hx0
          · rw [q]; exact hx1
      rw [eone]
      have s7 : Sm T H5 _ := s6.trans (Sm.new (o := .lst (one.map V.str)) hO)
      have s37 := s35.trans s7
      have n7 := s7.lst n5
      have pt7 := s7.lst pt5
      have o7 : upd (upd H5 Lq (.lst [V.str x0, V.str x1])) O (.lst (one.map V.str)) O = some (.lst (one.map V.str)) := upd_same
      have s47 := s5.trans s7
      have hO3 : H3 O = Option.none := (s4.trans (s5.trans s6)).fr _ hO
      generalize upd (upd H5 Lq (.lst [V.str x0, V.str x1])) O (.lst (one.map V.str)) = H7 at s7 s37 n7 pt7 o7 s47 ⊢
      -- if [name for name in one if name in makings] != []: one = [names[0]]
      have mget : ∀ {H' : Hp}, Sm T H3 H' → ∀ x : Str, DGet H' M (.str x) (valV kvs (Sum.inr x : Key)) := fun {H'} sm x => DGet.k (k := (Sum.inr x : Key)) (sm.dK m3)
      have msome : ∀ x : Str, (valV kvs (Sum.inr x : Key)).isSome = (dlk mk x).isSome := fun x => valV_isSome kv3 x
      have s3_7 : Sm T H3 H7 := s4.trans s47
      have hO4 : H4 O = Option.none := (s5.trans s6).fr _ hO
      refine ⟨fun σ' H' => ∃ (OX : Addr) (onex : List Str) (m : Nat), σ' = [some (.int c), some (.str "row"), some (.ref Dg), some (.ref N), some (.ref R), some (.ref M), some (.int (0 + ((i : Nat) : Int))), some vw, some (.ref Pt), some (.ref OX), z10, z11, Option.none, Option.none, Option.none, Option.none, Option.none] ∧ OneAt T H4 H' N Pt OX names mk part onex m, ?_, ?_⟩
      · refine ⟨_, rfl, O, rfl, ⟨_, SqL.of o7⟩, fun E hE => ?_⟩
        refine lc_rep (S := H7) (xs := one) T H7 (fun x => if (dlk mk x).isSome = true then some x else Option.none) hE (fun b z => z) o7 (strs_at.mpr rfl) (by omega) (fun j v y H8 hj hat q8 hEn Ky Kn ky kn => ?_) (fun H8 ys q8 h8 hA8 => ?_)
        · have hat : v = V.str y := hat
          subst hat
          refine ⟨rfl, _, rfl, _, rfl, M, _, rfl, mget (s3_7.trans q8) y, _, rfl, ?_⟩
          rw [msome]
          cases e : (dlk mk y).isSome with
          | true => exact iteT ⟨_, rfl, ky _ y _ (by rw [if_pos e]) (Sm.refl T H8) rfl⟩
          | false => exact iteF (kn _ (by rw [if_neg (by rw [e]; exact Bool.false_ne_true)]) (Sm.refl T H8))
        rw [strs_at] at hA8
        subst hA8
        refine ⟨Nat.zero_le _, fun t0 ht0 => ⟨_, [], ⟨E, _, rfl, by rw [upd_ne (ne_of_none h8 ht0)]; exact h8, strs_at.mpr rfl⟩, ⟨t0, [], rfl, upd_same, True.intro⟩, _, rfl, ?_⟩⟩
        have sT : Sm T H8 (upd H8 t0 (.lst [])) := Sm.new ht0
        have s9 := q8.trans sT
        have s3_9 := s3_7.trans s9
        have n9 := s9.lst n7
        have pt9 := s9.lst pt7
        have o9 := s9.lst o7
        generalize upd H8 t0 (.lst []) = H9 at s9 s3_9 n9 pt9 o9 ⊢
        have hn0x : ∃ y0, names[0]? = some y0 := ⟨names[0]'(by omega), List.getElem?_eq_getElem _⟩
        obtain ⟨y0, hy0⟩ := hn0x
        by_cases hkey : one.filterMap (fun x => if (dlk mk x).isSome = true then some x else Option.none) = []
        · have e1 : ∀ q : Decidable (one.filterMap (fun x => if (dlk mk x).isSome = true then some x else Option.none) = []), (!@decide _ q) = false := fun q => by rw [@decide_eq_true _ q hkey]; rfl
          rw [e1]
          refine iteF ?_
          refine ⟨O, one, 0, rfl, s47.trans s9, o9, n9, pt9, hO4, hone1, hone2, hone3, .inl fun x hx => ?_⟩
          rw [List.filterMap_eq_nil_iff] at hkey
          have := hkey x hx
          cases q : dlk mk x with
          | none => rfl
          | some z => rw [q] at this; cases this
        · have e1 : ∀ q : Decidable (one.filterMap (fun x => if (dlk mk x).isSome = true then some x else Option.none) = []), (!@decide _ q) = true := fun q => by rw [@decide_eq_false _ q hkey]; rfl
          rw [e1]
          refine iteT ⟨_, rfl, N, _, 0, .str y0, rfl, rfl, SqL.of n9, atI_nat (j := 0) (by rw [List.getElem?_map, hy0]; rfl), (by show 1 ≤ sizeLine; decide), fun O2 hO2 => ?_⟩
          obtain ⟨xb, hxb, jj, hjb⟩ := PN.base
          obtain ⟨jb, hjl, ejb⟩ := List.mem_iff_getElem.mp hxb
          have sO := Sm.new (T := T) (o := .lst [V.str y0]) hO2
          exact ⟨O2, [y0], _, rfl, (s47.trans s9).trans sO, upd_same, sO.lst n9, sO.lst pt9, (s47.trans s9).fr _ hO2, List.cons_ne_nil _ _, (by show 1 ≤ 2; decide), fun x hx => by rw [List.mem_singleton.mp hx]; exact List.mem_of_getElem? hy0,
            .inr ⟨0, jb, y0, xb, rfl, hy0, Nat.zero_le _, by rw [List.getElem?_eq_getElem hjl, ejb], PN.nokey hjb, rfl⟩⟩
      · rintro _ H10 ⟨O10, one10, m10, rfl, A10⟩
        -- while one[0] in makings: one = [names[names.index(one[0]) + 1]]
        refine ⟨fun σ' H' => ∃ (OX : Addr) (onex : List Str) (m : Nat), σ' = [some (.int c), some (.str "row"), some (.ref Dg), some (.ref N), some (.ref R), some (.ref M), some (.int (0 + ((i : Nat) : Int))), some vw, some (.ref Pt), some (.ref OX), z10, z11, Option.none, Option.none, Option.none, Option.none, Option.none] ∧ OneAt T H4 H' N Pt OX names mk part onex m ∧ ∀ x ∈ onex, dlk mk x = Option.none,
          ⟨fun m σ' H' => ∃ (OX : Addr) (onex : List Str), σ' = [some (.int c), some (.str "row"), some (.ref Dg), some (.ref N), some (.ref R), some (.ref M), some (.int (0 + ((i : Nat) : Int))), some vw, some (.ref Pt), some (.ref OX), z10, z11, Option.none, Option.none, Option.none, Option.none, Option.none] ∧ OneAt T H4 H' N Pt OX names mk part onex m, ⟨m10, O10, one10, rfl, A10⟩, ?_⟩, ?_⟩
        · rintro m _ H11 ⟨O11, one11, rfl, A11⟩
          obtain ⟨m1, rest, e11⟩ : ∃ m1 rest, one11 = m1 :: rest := by
            cases e : one11 with
            | nil => exact absurd e A11.ne
            | cons a r => exact ⟨a, r, rfl⟩
          subst e11
          refine ⟨_, rfl, O11, _, 0, .str m1, rfl, rfl, SqL.of A11.o, atI_nat (j := 0) rfl, _, rfl, M, _, rfl, mget (s4.trans A11.sm) m1, _, rfl, ?_⟩
          rw [msome]
          cases e : dlk mk m1 with
          | none =>
            refine iteF ⟨O11, _, m, rfl, A11, fun x hx => ?_⟩
            rcases A11.w with w | ⟨j, jb, y, yb, e1, _⟩
            · exact w x hx
            · cases e1
              rw [List.mem_singleton.mp hx]
              exact e
          | some z =>
            rcases A11.w with w | ⟨j, jb, y, yb, e1, hj, hle, hjb, hnb, hm⟩
            · rw [w m1 List.mem_cons_self] at e; cases e
            · cases e1
              have hjlt : j < names.length := (List.getElem?_eq_some_iff.mp hj).1
              have hblt : jb < names.length := (List.getElem?_eq_some_iff.mp hjb).1
              have hne : j ≠ jb := fun q => by
                subst q
                rw [hj] at hjb
                cases hjb
                rw [hnb] at e; cases e
              have hj1 : j + 1 < names.length := by omega
              have flatS : ∀ l : List Str, (l.map V.str).all flatV = true := fun l => List.all_eq_true.mpr fun x hx => by
                obtain ⟨y, _, rfl⟩ := List.mem_map.mp hx
                rfl
              refine iteT ⟨fun σ' H' => ∃ (OX : Addr) (onex : List Str), σ' = [some (.int c), some (.str "row"), some (.ref Dg), some (.ref N), some (.ref R), some (.ref M), some (.int (0 + ((i : Nat) : Int))), some vw, some (.ref Pt), some (.ref OX), z10, z11, Option.none, Option.none, Option.none, Option.none, Option.none] ∧ OneAt T H4 H' N Pt OX names mk part onex (jb - (j + 1)), fun σ' H' h => ⟨jb - (j + 1), by omega, h⟩, ?_⟩
              refine ⟨_, rfl, _, rfl, .inl ⟨rfl, _, SqL.of A11.n⟩, _, rfl, O11, _, 0, .str m1, rfl, rfl, SqL.of A11.o, atI_nat (j := 0) rfl, N, _, _, j, _, rfl, rfl, SqL.of A11.n, rfl, flatS names, (by rw [List.getElem?_map, hj]; rfl), (by show (m1 == m1) = true; exact beq_self_eq_true m1), fun q z' hq hz => ?_, ?_⟩
              · obtain ⟨y, hy, rfl⟩ : ∃ y, names[q]? = some y ∧ V.str y = z' := by
                  rw [List.getElem?_map] at hz
                  cases e3 : names[q]? with
                  | none => rw [e3] at hz; cases hz
                  | some y => rw [e3] at hz; exact ⟨y, rfl, by cases hz; rfl⟩
                have hyn : y ≠ m1 := fun e4 => by
                  obtain ⟨h1, h2⟩ := List.getElem?_eq_some_iff.mp hy
                  obtain ⟨h3, h4⟩ := List.getElem?_eq_some_iff.mp hj
                  exact (List.pairwise_iff_getElem.mp I.nd) q j h1 h3 hq (show names[q] = names[j] by rw [h2, h4, e4])
                exact beq_eq_false_iff_ne.mpr hyn
              · refine ⟨_, _, rfl, rfl, N, _, ((j + 1 : Nat) : Int), .str names[j + 1], rfl, rfl, SqL.of A11.n, atI_nat (by rw [List.getElem?_map, List.getElem?_eq_getElem hj1]; rfl), (by show 1 ≤ sizeLine; decide), fun O2 hO2 => ?_⟩
                have sO := Sm.new (T := T) (o := .lst [V.str names[j + 1]]) hO2
                exact ⟨O2, [names[j + 1]], rfl, A11.sm.trans sO, upd_same, sO.lst A11.n, sO.lst A11.pt, A11.sm.fr _ hO2, List.cons_ne_nil _ _, (by show 1 ≤ 2; decide), fun x hx => by rw [List.mem_singleton.mp hx]; exact List.getElem_mem hj1,
                  .inr ⟨j + 1, jb, names[j + 1], yb, rfl, List.getElem?_eq_getElem hj1, by omega, hjb, hnb, rfl⟩⟩
        · rintro _ H12 ⟨O12, one12, m12, rfl, A12, no12⟩
          -- steps = fit_for(...)
          have hNn : ∀ {H' : Hp}, Sm T H4 H' → ∀ b, H' b = Option.none → b ∉ [N, M, R] := fun {H'} sm b hb m => by
            have s3' := s4.trans sm
            simp only [List.mem_cons, List.not_mem_nil, or_false] at m
            rcases m with q | q | q
            · rw [q, s3'.lst n3] at hb; cases hb
            · rw [q, s3'.dK m3] at hb; cases hb
            · rw [q, s3'.lst r3] at hb; cases hb
          refine ⟨fun σ' H' => ∃ v : V, σ' = [some (.int c), some (.str "row"), some (.ref Dg), some (.ref N), some (.ref R), some (.ref M), some (.int (0 + ((i : Nat) : Int))), some vw, some (.ref Pt), some (.ref O12), z10, some v, Option.none, Option.none, Option.none, Option.none, Option.none] ∧ Sm T H12 H' ∧
              (v = .non ∨ ∃ S : List RP, At (dif H' H12) v S ∧ StepsOf rules one12 S ∧ S.length ≤ 4 ∧ (∀ p ∈ S, p.2.length ≤ 3) ∧ wt (fun x => (dlk b x).getD 0) one12 ≤ 12),
            ⟨_, rfl, _, rfl, _, rfl, _, rfl, _, rfl, .ref N, .ref R, vw, .ref O12, rules, b, one12, rfl, (s4.trans A12.sm).at_ hrAt, A12.sm.at_ (new_at hw), ⟨O12, _, rfl, A12.o, strs_at.mpr rfl⟩, hrl, (by have := A12.len; omega), I.short, fun x hx => hb.all x (A12.sub x hx), fun H' sm => ⟨_, rfl, sm, .inl rfl⟩, fun S hS hS4 hS3 hwt v H' sm hv => ⟨v, rfl, sm, .inr ⟨S, hv, hS, hS4, hS3, hwt⟩⟩⟩, ?_⟩
          rintro _ H13 ⟨v, rfl, s13, hv⟩
          have s413 := A12.sm.trans s13
          have s313 := s4.trans s413
          obtain ⟨m1, rest, e12⟩ : ∃ m1 rest, one12 = m1 :: rest := by
            cases e : one12 with
            | nil => exact absurd e A12.ne
            | cons a r => exact ⟨a, r, rfl⟩
          subst e12
          refine ⟨fun σ' H' => ∃ (OX SX : Addr) (m1 : Str) (rest : List Str) (S : List RP), σ' = [some (.int c), some (.str "row"), some (.ref Dg), some (.ref N), some (.ref R), some (.ref M), some (.int (0 + ((i : Nat) : Int))), some vw, some (.ref Pt), some (.ref OX), z10, some (.ref SX), Option.none, Option.none, Option.none, Option.none, Option.none] ∧
              StepAt T H4 H' N M R Pt OX SX names rules mk u part m1 rest S, ?_, ?_⟩
          · rcases hv with rfl | ⟨S, hA, hS, hS4, hS3, hwt⟩
            · refine ⟨_, rfl, _, rfl, iteT ?_⟩
              refine ⟨_, rfl, _, rfl, O12, _, rfl, SqL.of (s13.lst A12.o), fun O2 hO2 => ?_⟩
              have ecut1 : cutV ((m1 :: rest).map V.str) Option.none (some 1) = [V.str m1] := by
                have : ((1 : Nat) : Int) = 1 := rfl
                rw [← this, cutV_to]
                rfl
              rw [ecut1]
              have sO : Sm T H13 (upd H13 O2 (.lst [V.str m1])) := Sm.new hO2
              have o14 : upd H13 O2 (.lst [V.str m1]) O2 = some (.lst [V.str m1]) := upd_same
              have s414 := s413.trans sO
              have s14 := s13.trans sO
              have fr2 := s413.fr _ hO2
              generalize upd H13 O2 (.lst [V.str m1]) = H14 at sO o14 s414 s14 ⊢
              have r14 := (s4.trans s414).lst r3
              have al14 : AllAt (hidL H14 [N, M, R]) us rules := al3.mono (hidL_mono (s4.trans s414).kp)
              have L14 := hNn s414
              have hm1 : m1 ∈ names ∧ dlk mk m1 = Option.none := ⟨A12.sub m1 List.mem_cons_self, no12 m1 List.mem_cons_self⟩
              refine ⟨_, rfl, R, rfl, ⟨_, SqL.of r14⟩, fun E hE => ?_⟩
              refine lc_rep (S := hidL H14 [N, M, R]) (xs := rules) T (markL [N, M, R]) (fun r => if r.a = m1 then some ((r.b, r.c) : RP) else Option.none) hE (fun b z => mark_none (L14 b z)) r14 al14 (by omega) (fun j v r H15 hj hat q15 hEn Ky Kn ky kn => ?_) (fun H15 ys q15 h15 hA15 => ?_)
              · obtain ⟨a1, u1, u2, u3, rfl, ha1, g1, g2, g3⟩ := hat
                have g1 : u1 = V.str r.a := g1
                have g2 : u2 = V.str r.b := g2
                subst g1
                subst g2
                obtain ⟨cr, rfl, hcr⟩ := (show At (hidL H14 [N, M, R]) u3 r.c from g3).strs
                have ha15 := q15.tup (hidL_kp a1 _ ha1 (fun _ z => nomatch z))
                refine ⟨rfl, _, rfl, a1, _, 0, .str r.a, rfl, rfl, SqT.of ha15, atI_nat (j := 0) rfl, _, rfl, O2, _, 0, .str m1, rfl, rfl, SqL.of (q15.lst o14), atI_nat (j := 0) rfl, rfl, _, rfl, ?_⟩
                by_cases e2 : r.a = m1
                · have e3 : decide (V.str r.a = V.str m1) = true := by rw [e2]; exact decide_eq_true rfl
                  rw [e3]
                  refine iteT ⟨_, rfl, _, rfl, a1, _, rfl, SqT.of ha15, (fun z => ?_), fun p hp => ?_⟩
                  · exact absurd z.1 (by show ¬ ((1 : Nat) = 0); omega)
                  · have hpD : p ≠ E := fun z => hEn (by rw [← z]; exact hp)
                    have sp : Sm T H15 (upd H15 p (.tup [.str r.b, .ref cr])) := Sm.new hp
                    refine ky _ ((r.b, r.c) : RP) _ (if_pos e2) sp ⟨p, .str r.b, .ref cr, rfl, ?_, rfl, cr, _, rfl, ?_, strs_at.mpr rfl⟩
                    · rw [dif_mark, hid_ne hpD, hidL_out (hNn (s414.trans q15) p hp)]
                      exact upd_same
                    · have hc14 := hidL_kp cr _ hcr (fun _ z => nomatch z)
                      have hcn : cr ∉ [N, M, R] := fun m => by rw [hidL_in m] at hcr; cases hcr
                      have hcE : cr ≠ E := ne_of_none hc14 hE
                      rw [dif_mark, hid_ne hcE, hidL_out hcn]
                      exact sp.lst (q15.lst hc14)
                · have e3 : decide (V.str r.a = V.str m1) = false := decide_eq_false fun z => e2 (by injection z)
                  rw [e3]
                  exact iteF (kn _ (if_neg e2) (Sm.refl T H15))
              · rw [rulesOf_fm, dif_mark] at hA15
                refine ⟨O2, E, m1, [], rulesOf rules m1, rfl, s414.trans q15, q15.lst o14, (s14.trans q15).lst A12.n, (s14.trans q15).lst A12.pt, fr2, L14 E hE, ⟨ys, h15, hA15.mono hid_kp⟩, fun x hx => by rw [List.mem_singleton.mp hx]; exact hm1, Nat.zero_le _, fun p => ?_, rulesOf_nodup I.rnd m1, I.few m1, fun p hp => I.short _ (mem_rulesOf.mp hp), ?_⟩
                · constructor
                  · intro hp
                    exact ⟨p, hp, by rw [List.append_nil]⟩
                  · rintro ⟨q, hq, rfl⟩
                    rw [List.append_nil]
                    exact hq
                · show u m1 + 0 ≤ 12
                  exact I.le m1 hm1.1
            · obtain ⟨SX, cs, rfl, hSX, hcs⟩ := hA
              refine ⟨_, rfl, _, rfl, iteF ⟨O12, SX, m1, rest, S, rfl, s413, s13.lst A12.o, s13.lst A12.n, s13.lst A12.pt, A12.fr, hNn A12.sm _ (dif_some hSX).1, ⟨cs, (dif_some hSX).2, hcs.mono fun b o e n => ?_⟩, fun x hx => ⟨A12.sub x hx, no12 x hx⟩, ?_, fun p => ?_, hS.1, hS4, hS3, ?_⟩⟩
              · obtain ⟨h1, h2⟩ := dif_some e
                rw [hidL_out (hNn A12.sm b h1)]
                exact h2
              · have := A12.len
                rw [List.length_cons] at this
                omega
              · rw [hS.2 p]
                constructor
                · rintro ⟨m, rs, q, e, hq, rfl⟩
                  cases e
                  exact ⟨q, hq, rfl⟩
                · rintro ⟨q, hq, rfl⟩
                  exact ⟨m1, rest, q, rfl, hq, rfl⟩
              · refine Nat.le_trans (wt_mono fun x hx => ?_) hwt
                obtain ⟨n, hn⟩ := Option.isSome_iff_exists.mp (hb.all x (A12.sub x hx))
                show u x ≤ (dlk b x).getD 0
                rw [hn]
                exact hb.low x n hn
          · rintro _ H14 ⟨O14, SX, m1, rest, S, rfl, A14⟩
            obtain ⟨qk, hq3p, hq3⟩ : ∃ q : Nat, q ≤ 1 ∧ q3 % 2 = ((q : Nat) : Int) := ⟨(q3 % 2).toNat, by omega, by omega⟩
            refine ⟨_, rfl, ("uvwxyz" : Str), _, 117 + i, rfl, rfl, by decide +kernel, by rw [Int.zero_add]; exact atI_nat (uvwxyz_at i hi5), ("tw" : Str), ⟨#[117 + i]⟩, rfl, rfl, ?_, ?_⟩
            · exact Nat.le_trans (show ("tw" : Str).length + 1 ≤ 100 by decide +kernel) (by decide)
            show _
            have eY : ("tw" : Str) ++ (⟨#[117 + i]⟩ : Str) = twName i := rfl
            rw [eY]
            have s3_14 := s4.trans A14.sm
            have sH14 := s3.trans s3_14
            have m14 := s3_14.dK m3
            have r14 := s3_14.lst r3
            have dg14 := s3_14.lst dg3
            refine ⟨_, rfl, .inl ⟨rfl, _, SqL.of A14.n⟩, _, rfl, Pt, _, 3, _, rfl, rfl, SqL.of A14.pt, aq3, _, _, rfl, rfl, (by show (0 : Int) < _; decide), _, rfl, N, _, _, _, rfl, rfl, A14.n, ?_, ?_, ?_, ?_⟩
            · rw [hnml]; exact Nat.lt_of_le_of_lt (show names.length ≤ 6 by omega) (by decide)
            · show (0 : Int) ≤ q3 % 2
              omega
            · show q3 % 2 < 2 ^ 63
              omega
            have enm : (names.map V.str).take (q3 % 2).toNat ++ [V.str (twName i)] ++ (names.map V.str).drop (q3 % 2).toNat = (names.take qk ++ [twName i] ++ names.drop qk).map V.str := by
              rw [hq3, List.map_append, List.map_append, List.map_take, List.map_drop]
              rfl
            rw [enm]
            have perm : (names.take qk ++ [twName i] ++ names.drop qk).Perm (twName i :: names) := by
              have h1 : (names.take qk ++ [twName i] ++ names.drop qk).Perm ([twName i] ++ names.take qk ++ names.drop qk) := List.Perm.append_right _ List.perm_append_comm
              have h2 : [twName i] ++ names.take qk ++ names.drop qk = twName i :: names := by rw [List.append_assoc, List.take_append_drop]; rfl
              rw [h2] at h1
              exact h1
            generalize names.take qk ++ [twName i] ++ names.drop qk = names' at perm ⊢
            have sH15 : Sm T H (upd H14 N (.lst (names'.map V.str))) := sH14.mut hN0 A14.n True.intro
            have hONM : ∀ x : Addr, x ∈ [N, M, R] → ∃ o, H4 x = some o := fun x m => by
              simp only [List.mem_cons, List.not_mem_nil, or_false] at m
              rcases m with q | q | q
              · rw [q]; exact ⟨_, s4.lst n3⟩
              · rw [q]; exact ⟨_, s4.dK m3⟩
              · rw [q]; exact ⟨_, s4.lst r3⟩
            have hOL : O14 ∉ [N, M, R] := fun m => by
              obtain ⟨o, ho⟩ := hONM O14 m
              rw [A14.fr] at ho; cases ho
            have n15 : upd H14 N (.lst (names'.map V.str)) N = some (.lst (names'.map V.str)) := upd_same
            have m15 : upd H14 N (.lst (names'.map V.str)) M = some (.dK kvs) := by rw [upd_ne hNM.symm]; exact m14
            have hRN3 : R ≠ N := ‹R ≠ N›
            have r15 : upd H14 N (.lst (names'.map V.str)) R = some (.lst us) := by rw [upd_ne hRN3]; exact r14
            have dg15 : upd H14 N (.lst (names'.map V.str)) Dg = some (.lst (ds.map V.int)) := by rw [upd_ne hDN]; exact dg14
            have o15 : upd H14 N (.lst (names'.map V.str)) O14 = some (.lst ((m1 :: rest).map V.str)) := by
              rw [upd_ne fun z => hOL (by rw [z]; exact List.mem_cons_self)]
              exact A14.o
            obtain ⟨cs, hSX, hcs⟩ := A14.st
            have hSN : SX ≠ N := fun z => A14.sx (by rw [z]; exact List.mem_cons_self)
            have s15X : upd H14 N (.lst (names'.map V.str)) SX = some (.lst cs) := by rw [upd_ne hSN]; exact hSX
            have al15 : AllAt (hidL (upd H14 N (.lst (names'.map V.str))) [N, M, R]) us rules := by
              rw [hidL_upd List.mem_cons_self]
              exact al3.mono (hidL_mono s3_14.kp)
            have kv15 : AllKv (hidL (upd H14 N (.lst (names'.map V.str))) [N, M, R]) kvs mk := by
              rw [hidL_upd List.mem_cons_self]
              exact kv3.mono (hidL_mono s3_14.kp)
            have st15 : AllAt (hidL (upd H14 N (.lst (names'.map V.str))) [N, M, R]) cs S := by
              rw [hidL_upd List.mem_cons_self]
              exact hcs
            generalize upd H14 N (.lst (names'.map V.str)) = H15 at sH15 n15 m15 r15 dg15 o15 s15X al15 kv15 st15 ⊢
            have L15 : ∀ {H' : Hp}, Sm T H15 H' → ∀ b, H' b = Option.none → b ∉ [N, M, R] := fun {H'} sm b hb m => by
              simp only [List.mem_cons, List.not_mem_nil, or_false] at m
              rcases m with q | q | q
              · rw [q, sm.lst n15] at hb; cases hb
              · rw [q, sm.dK m15] at hb; cases hb
              · rw [q, sm.lst r15] at hb; cases hb
            -- rules = rules + [...]
            refine ⟨_, rfl, _, rfl, SX, rfl, ⟨_, SqL.of s15X⟩, fun E hE => ?_⟩
            refine lc_rep (S := hidL H15 [N, M, R]) (xs := S) T (markL [N, M, R]) (fun p => some (⟨twName i, p.1, p.2⟩ : Rul)) hE (fun b z => mark_none (L15 (Sm.refl T H15) b z)) s15X st15 (by have := A14.few; omega) (fun j v r H16 hj hat q16 hEn Ky Kn ky kn => ?_) (fun H16 ys q16 h16 hA16 => ?_)
            · obtain ⟨a1, u1, u2, rfl, ha1, g1, g2⟩ := hat
              have g1 : u1 = V.str r.1 := g1
              subst g1
              obtain ⟨cr, rfl, hcr⟩ := (show At (hidL H15 [N, M, R]) u2 r.2 from g2).strs
              have ha16 := q16.tup (hidL_kp a1 _ ha1 (fun _ z => nomatch z))
              refine ⟨a1, _, rfl, SqT.of ha16, rfl, _, _, rfl, _, _, rfl, rfl, rfl, ?_⟩
              refine ⟨_, rfl, _, rfl, _, rfl, (by show 3 ≤ sizeLine; decide), fun p hp => ?_⟩
              have hpD : p ≠ E := fun z => hEn (by rw [← z]; exact hp)
              have sp : Sm T H16 (upd H16 p (.tup [.str (twName i), .str r.1, .ref cr])) := Sm.new hp
              refine ky _ (⟨twName i, r.1, r.2⟩ : Rul) _ rfl sp ⟨p, .str (twName i), .str r.1, .ref cr, rfl, ?_, rfl, rfl, cr, _, rfl, ?_, strs_at.mpr rfl⟩
              · rw [dif_mark, hid_ne hpD, hidL_out (L15 q16 p hp)]
                exact upd_same
              · have hc15 := hidL_kp cr _ hcr (fun _ z => nomatch z)
                have hcn : cr ∉ [N, M, R] := fun m => by rw [hidL_in m] at hcr; cases hcr
                have hcE : cr ≠ E := ne_of_none hc15 hE
                rw [dif_mark, hid_ne hcE, hidL_out hcn]
                exact sp.lst (q16.lst hc15)
            · have efm : S.filterMap (fun p => some (⟨twName i, p.1, p.2⟩ : Rul)) = plantR (twName i) S := by
                rw [List.filterMap_eq_map']
                rfl
              rw [efm, dif_mark] at hA16
              have hA16 := hA16.mono hid_kp
              have hysl : ys.length = S.length := by
                rw [hA16.length]
                unfold plantR
                rw [List.length_map]
              refine ⟨R, E, _, _, rfl, rfl, q16.lst r15, h16, ?_, fun R2 hR2 => ?_⟩
              · have := A14.few
                have : 1004 ≤ sizeLine := by decide
                omega
              have sR : Sm T H16 (upd H16 R2 (.lst (us ++ ys))) := Sm.new hR2
              have sH16 := sH15.trans q16
              have sH17 := sH16.trans sR
              have s17 := q16.trans sR
              have r17 : upd H16 R2 (.lst (us ++ ys)) R2 = some (.lst (us ++ ys)) := upd_same
              have hR2L := L15 q16 R2 hR2
              have hHR2 := sH16.fr _ hR2
              have hOR2 : O14 ≠ R2 := ne_of_none (q16.lst o15) hR2
              have k17 : Kp (hidL H16 [N, M, R]) (hidL (upd H16 R2 (.lst (us ++ ys))) [N, M, R2]) := fun b o e n => by
                by_cases m : b ∈ [N, M, R]
                · rw [hidL_in m] at e; cases e
                · rw [hidL_out m] at e
                  have h1 : b ≠ R2 := ne_of_none e hR2
                  have h2 : b ∉ [N, M, R2] := fun z => by
                    simp only [List.mem_cons, List.not_mem_nil, or_false] at z m
                    rcases z with z | z | z
                    · exact m (.inl z)
                    · exact m (.inr (.inl z))
                    · exact h1 z
                  rw [hidL_out h2, upd_ne h1]
                  exact e
              generalize upd H16 R2 (.lst (us ++ ys)) = H17 at sR sH17 s17 r17 k17 ⊢
              have m17 := s17.dK m15
              refine ⟨_, rfl, _, rfl, _, rfl, M, _, rfl, DPut.k (k := (Sum.inr (twName i) : Key)) m17 ?_, ?_⟩
              · rw [kv15.length, hml]
                exact Nat.lt_of_lt_of_le (show i < 6 from hi5) (by decide)
              have I' := I.plant (names' := names') (Y := twName i) (m1 := m1) (rest := rest) (S := S) perm PN.new (twName_name hi5) A14.hm A14.hr A14.hS A14.nd A14.few A14.short A14.hw
              have PN' := PN.next (m := m1 :: rest) perm
              have ekM : ∀ (o : HO) (b : Addr) (x : HO), b ≠ M → H17 b = some x → upd H17 M o b = some x := fun o b x n e => by rw [upd_ne n]; exact e
              have nR2 := PInv.rlen I'
              have hnl' := PN'.len
              have kmm : twName i ∉ mk.map (·.1) := fun z => by
                have := dlk_isSome.mpr z
                cases e : dlk mk (twName i) with
                | none => rw [e] at this; cases this
                | some m =>
                  obtain ⟨j, hj, e2⟩ := PN.key _ m e
                  have := twName_inj e2
                  omega
              have edp : dput mk (twName i) (m1 :: rest) = mk ++ [(twName i, m1 :: rest)] := dput_new (by
                cases e : dlk mk (twName i) with
                | none => rfl
                | some m => exact absurd (dlk_isSome.mp (by rw [e]; rfl)) kmm)
              have hR2M : R2 ≠ M := fun z => hR2L (by rw [z]; exact List.mem_cons_of_mem _ List.mem_cons_self)
              have hR2N : R2 ≠ N := fun z => hR2L (by rw [z]; exact List.mem_cons_self)
              have hOL2 : O14 ∉ [N, M, R2] := fun m => by
                simp only [List.mem_cons, List.not_mem_nil, or_false] at m hOL
                rcases m with z | z | z
                · exact hOL (.inl z)
                · exact hOL (.inr (.inl z))
                · exact hOR2 z
              have eh : hidL (upd H17 M (.dK (putK kvs (Sum.inr (twName i) : Key) (.ref O14)))) [N, M, R2] = hidL H17 [N, M, R2] := hidL_upd (List.mem_cons_of_mem _ List.mem_cons_self)
              refine ⟨names', rules ++ plantR (twName i) S, mk ++ [(twName i, m1 :: rest)], _, R2, us ++ ys, putK kvs (Sum.inr (twName i) : Key) (.ref O14), _, _, _, _, _, _, rfl, sH17.mut hM0 m17 True.intro, ?_, ?_, ?_, ?_, upd_same, ?_, hHR2, hR2N, hR2M, I', PN', ?_, ?_⟩
              · exact ekM _ _ _ hDM (s17.lst dg15)
              · exact ekM _ _ _ hNM (s17.lst n15)
              · exact ekM _ _ _ hR2M r17
              · rw [eh]
                exact AllAt.append (al15.mono ((hidL_mono q16.kp).trans k17)) (hA16.mono k17)
              · rw [eh, ← edp]
                refine AllKv.put (kv15.mono ((hidL_mono q16.kp).trans k17)) ⟨O14, _, rfl, ?_, strs_at.mpr rfl⟩
                rw [hidL_out hOL2]
                exact s17.lst o15
              · rw [List.length_append, hml]
                rfl
              · omega
    · rintro σ H3 ⟨names, rules, mk, u, R, us, kvs, z6, z7, z8, z9, z10, z11, rfl, s3, dg3, n3, r3, al3, m3, kv3, hR0, hRN, hRM, I, PN, hml, hrl⟩
      have hnl := PN.len
      have hmk3 : At H3 (.ref M) (Dct.mk mk) := ⟨M, kvs, rfl, .inl m3, kv3.mono hidL_kp⟩
      have lkm : ∀ X m, (X, m) ∈ mk → dlk mk X = some m := fun X m h => dlk_of_mem I.keys h
      -- swap = dict([...])
      refine ⟨M, .dK kvs, .inl m3, True.intro, fun o HL Rr l => ?_⟩
      have hfz := l.at_
      refine ⟨_, rfl, M, o, rfl, .inl ⟨kvs, hfz, fun E hE => ?_⟩⟩
      refine lc_it walk_keys (fun j H' => Sm T HL H' ∧ ∃ (ys : List V) (prs : List (Str × Str)), H' E = some (.lst ys) ∧ AllAt (hidL H' [E, M]) ys prs ∧ ys.length ≤ j ∧ ∀ q ∈ prs, dlk mk q.2 = some [q.1])
        ⟨Sm.new hE, [], [], upd_same, True.intro, Nat.le_refl _, fun o h => (nomatch h)⟩ (fun j H' _ h => h.1.kp M _ hfz (fun _ z => nomatch z)) ?_ ?_
      · rintro j xk H4 H5 hj ⟨s4, ys, prs, h4, hA, hyl, hop⟩ ⟨rfl, kk, v, hkv, rfl⟩
        obtain ⟨Y, m, e1, e2, hv⟩ := kv_at kv3 hkv
        have hY := lkm Y m (List.mem_of_getElem? e1)
        have eY : kV kk = V.str Y := by rw [e2]; rfl
        rw [eY]
        obtain ⟨d4, e, isd, hg⟩ := ((l.look hmk3).mono s4.kp).dlk Y
        cases e
        rw [hY] at hg
        obtain ⟨uu, hg, hu2⟩ := hg
        obtain ⟨cm, rfl, hcm⟩ := hu2.strs
        refine ⟨rfl, _, rfl, _, rfl, M, _, rfl, hg, cm, _, rfl, .inl (SqL.of hcm), rfl, _, rfl, ?_⟩
        by_cases em : m.length = 1
        · obtain ⟨x, rfl⟩ := List.length_eq_one_iff.mp em
          refine iteT ⟨_, rfl, _, rfl, M, _, rfl, hg, cm, _, 0, .str x, rfl, rfl, SqL.of hcm, atI_nat (j := 0) rfl, _, rfl, (by show 2 ≤ sizeLine; decide), fun q hq => ?_⟩
          have sq := Sm.new (T := T) (o := .tup [.str x, .str Y]) hq
          have hEq : E ≠ q := ne_of_none h4 hq
          have hdq : M ≠ q := ne_of_none (s4.kp M _ hfz (fun _ z => nomatch z)) hq
          have qL : q ∉ [E, M] := fun mm => by
            simp only [List.mem_cons, List.not_mem_nil, or_false] at mm
            rcases mm with e | e
            · exact hEq e.symm
            · exact hdq e.symm
          have EL : E ∈ [E, M] := List.mem_cons_self
          refine ⟨ys, sq.lst h4, ?_, (s4.trans sq).mut hE (sq.lst h4) True.intro, ys ++ [.ref q], prs ++ [(x, Y)], upd_same, ?_, by rw [List.length_append]; exact Nat.succ_le_succ hyl, fun o ho => ?_⟩
          · have : j < kvs.length := hj
            rw [kv3.length, hml] at this
            exact Nat.lt_of_le_of_lt (show ys.length ≤ 5000 by omega) (by decide)
          · rw [hidL_upd EL]
            exact (hA.mono (hidL_mono sq.kp)).snoc ⟨q, .str x, .str Y, rfl, by rw [hidL_out qL, upd_same], rfl, rfl⟩
          · rcases List.mem_append.mp ho with z | z
            · exact hop o z
            · rw [List.mem_singleton.mp z]
              exact hY
        · have e9 : decide (V.int (((m.map V.str).length : Nat) : Int) = V.int 1) = false := decide_eq_false fun z => em (by
            injection z with z
            rw [List.length_map] at z
            omega)
          rw [e9]
          exact iteF ⟨s4, ys, prs, h4, hA, Nat.le_succ_of_le hyl, hop⟩
      · rintro H4 ⟨s4, ys, prs, h4, hA, hyl, hop⟩
        refine ⟨hidL H4 [E, M], E, ys, prs, rfl, h4, hA, hidL_kp, fun p ps hp hps => ?_⟩
        have sq : Sm T H4 (upd H4 p (.dK ps)) := Sm.new hp
        have hdq : M ≠ p := ne_of_none (s4.kp M _ hfz (fun _ z => nomatch z)) hp
        refine ⟨(s4.trans sq).kp M _ hfz (fun _ z => nomatch z), ?_⟩
        have s5 : Sm T H3 (Rr (upd H4 p (.dK ps))) := l.sm (s4.trans sq)
        have hp5 : Rr (upd H4 p (.dK ps)) p = some (.dK ps) := by rw [l.out hdq.symm, upd_same]
        have hp3 : H3 p = Option.none := by
          have h1 := s4.fr _ hp
          rcases l with ⟨_, rfl, _⟩ | ⟨_, rfl, _⟩
          · rw [upd_ne hdq.symm] at h1; exact h1
          · exact h1
        have hsw : SwOk mk (dmerge [] prs) := fun a b h => by
          rcases dlk_dmerge prs [] h with q | q
          · cases q
          · exact hop _ q
        generalize Rr (upd H4 p (.dK ps)) = H5 at s5 hp5 ⊢
        generalize dmerge [] prs = sw at hsw hps
        have hus := al3.length
        have hrl2 := PInv.rlen I
        have hpL : p ∉ [N, M, R] := fun m => by
          simp only [List.mem_cons, List.not_mem_nil, or_false] at m
          rcases m with q | q | q
          · rw [q, n3] at hp3; cases hp3
          · rw [q, m3] at hp3; cases hp3
          · rw [q, r3] at hp3; cases hp3
        refine ⟨_, rfl, R, _, rfl, .inl (SqL.of (s5.lst r3)), _, rfl, by omega, by omega, ?_⟩
        have e0 : (((us.length : Nat) : Int)).toNat = rules.length := by rw [hus]; rfl
        rw [e0]
        refine for_range (lo := 0) (n := rules.length) (fun i σ H' => ∃ (rules' : List Rul) (us' : List V) (z6 z13 : Option V),
            σ = [some (.int c), some (.str "row"), some (.ref Dg), some (.ref N), some (.ref R), some (.ref M), z6, z7, z8, z9, z10, z11, some (.ref p), z13, Option.none, Option.none, Option.none] ∧ Sm T H H' ∧ H' Dg = some (.lst (ds.map V.int)) ∧ H' N = some (.lst (names.map V.str)) ∧ H' R = some (.lst us') ∧ AllAt (hidL H' [N, M, R]) us' rules' ∧
            H' M = some (.dK kvs) ∧ AllKv (hidL H' [N, M, R]) kvs mk ∧ H' p = some (.dK ps) ∧ Along (SwapR names mk u) rules' rules ∧ rules'.Nodup)
          ⟨rules, us, _, _, rfl, s3.trans s5, s5.lst dg3, s5.lst n3, s5.lst r3, al3.mono (hidL_mono s5.kp), s5.dK m3, kv3.mono (hidL_mono s5.kp), hp5, Along.self fun r hr => SwapR.self I hr, I.rnd⟩ ?_ ?_
        · rintro i σ H6 hi ⟨rules', us', z6', z13, rfl, s6, dg6, n6, r6, al6, m6, kv6, p6, F6, nd6⟩
          have hl6 := F6.len
          obtain ⟨r, hr6⟩ : ∃ r, rules'[i]? = some r := ⟨rules'[i]'(by omega), List.getElem?_eq_getElem _⟩
          obtain ⟨v, hv6, hat⟩ := al6.get hr6
          obtain ⟨a1, u1, u2, u3, rfl, ha1, g1, g2, g3⟩ := hat
          have g1 : u1 = V.str r.a := g1
          have g2 : u2 = V.str r.b := g2
          subst g1
          subst g2
          obtain ⟨cr, rfl, hcr⟩ := (show At (hidL H6 [N, M, R]) u3 r.c from g3).strs
          have ha6 := hidL_kp a1 _ ha1 (fun _ z => nomatch z)
          have hcr6 := hidL_kp cr _ hcr (fun _ z => nomatch z)
          have atk : atI us' (0 + ((i : Nat) : Int)) = some (V.ref a1) := by
            rw [Int.zero_add]
            exact atI_nat hv6
          have L6 : ∀ {H' : Hp}, Sm T H6 H' → ∀ b, H' b = Option.none → b ∉ [N, M, R] := fun {H'} sm b hb m => by
            simp only [List.mem_cons, List.not_mem_nil, or_false] at m
            rcases m with q | q | q
            · rw [q, sm.lst n6] at hb; cases hb
            · rw [q, sm.dK m6] at hb; cases hb
            · rw [q, sm.lst r6] at hb; cases hb
          refine ⟨_, rfl, _, rfl, R, _, _, _, rfl, rfl, SqL.of r6, atk, a1, _, 0, .str r.a, rfl, rfl, SqT.of ha6, atI_nat (j := 0) rfl, _, rfl, _, rfl, R, _, _, _, rfl, rfl, SqL.of r6, atk, a1, _, 1, .str r.b, rfl, rfl, SqT.of ha6, atI_nat (j := 1) rfl,
            _, rfl, _, rfl, R, _, _, _, rfl, rfl, SqL.of r6, atk, a1, _, 2, .ref cr, rfl, rfl, SqT.of ha6, atI_nat (j := 2) rfl, cr, rfl, ⟨_, SqL.of hcr6⟩, fun E hE => ?_⟩
          refine lc_rep (S := H6) (xs := r.c) T (markL [N, M, R]) (fun x => some (swp sw x)) hE (fun b z => mark_none (L6 (Sm.refl T H6) b z)) hcr6 (strs_at.mpr rfl) ?_ (fun j v y H7 hj hat q7 hEn Ky Kn ky kn => ?_) (fun H7 ys q7 h7 hA7 => ?_)
          · obtain ⟨r0, hr0, FR⟩ := F6.to (List.mem_of_getElem? hr6)
            have := I.short r0 hr0
            rw [FR.len]
            omega
          · have hat : v = V.str y := hat
            subst hat
            have p7 := q7.dK p6
            have hg : DGet H7 p (.str y) (valV ps (Sum.inr y : Key)) := DGet.k (k := (Sum.inr y : Key)) p7
            have esw : (valV ps (Sum.inr y : Key)).getD (V.str y) = V.str (swp sw y) := by
              unfold swp
              cases e : dlk sw y with
              | none => rw [hps.none e]; rfl
              | some m =>
                obtain ⟨uu, e1, e2⟩ := hps.some e
                rw [e1]
                exact e2
            refine ⟨rfl, _, rfl, p, rfl, .inl ⟨ps, .inl p7⟩, _, rfl, _, rfl, _, hg, ?_⟩
            rw [esw]
            exact ky _ (swp sw y) _ rfl (Sm.refl T H7) rfl
          · have efm : r.c.filterMap (fun x => some (swp sw x)) = r.c.map (swp sw) := by rw [List.filterMap_eq_map']
            rw [efm, strs_at] at hA7
            subst hA7
            refine ⟨(by show 3 ≤ sizeLine; decide), fun q hq => ?_⟩
            have sq : Sm T H7 (upd H7 q (.tup [.str r.a, .str r.b, .ref E])) := Sm.new hq
            have s8 := q7.trans sq
            have hEL : E ∉ [N, M, R] := L6 (Sm.refl T H6) E hE
            have hEq : E ≠ q := ne_of_none h7 hq
            have hqL : q ∉ [N, M, R] := L6 q7 q hq
            have hput : At (hidL (upd H7 q (.tup [.str r.a, .str r.b, .ref E])) [N, M, R]) (.ref q) (⟨r.a, r.b, r.c.map (swp sw)⟩ : Rul) := ⟨q, _, _, _, rfl, by rw [hidL_out hqL]; exact upd_same, rfl, rfl, E, _, rfl, by rw [hidL_out hEL]; exact sq.lst h7, strs_at.mpr rfl⟩
            generalize upd H7 q (.tup [.str r.a, .str r.b, .ref E]) = H8 at sq s8 hput ⊢
            have dg8 := s8.lst dg6
            have r8 := s8.lst r6
            have al8 := al6.mono (hidL_mono (L := [N, M, R]) s8.kp)
            obtain ⟨dd, _, _, hdd⟩ := dat ((22 + i) % 40) (Nat.mod_lt _ (by decide))
            have hix : atI (ds.map V.int) ((22 + (0 + ((i : Nat) : Int))) % 40) = some (V.int dd) := by
              rw [← hdd]
              congr 1
              omega
            have keep : ∃ (rules' : List Rul) (us' : List V) (z6 z13 : Option V),
              [some (.int c), some (.str "row"), some (.ref Dg), some (.ref N), some (.ref R), some (.ref M), some (.int (0 + ((i : Nat) : Int))), z7, z8, z9, z10, z11, some (.ref p), some (.ref q), Option.none, Option.none, Option.none] = [some (.int c), some (.str "row"), some (.ref Dg), some (.ref N), some (.ref R), some (.ref M), z6, z7, z8, z9, z10, z11, some (.ref p), z13, Option.none, Option.none, Option.none] ∧ Sm T H H8 ∧ H8 Dg = some (.lst (ds.map V.int)) ∧ H8 N = some (.lst (names.map V.str)) ∧ H8 R = some (.lst us') ∧ AllAt (hidL H8 [N, M, R]) us' rules' ∧
              H8 M = some (.dK kvs) ∧ AllKv (hidL H8 [N, M, R]) kvs mk ∧ H8 p = some (.dK ps) ∧ Along (SwapR names mk u) rules' rules ∧ rules'.Nodup :=
              ⟨rules', us', _, _, rfl, s6.trans s8, dg8, s8.lst n6, r8, al8, s8.dK m6, kv6.mono (hidL_mono s8.kp), s8.dK p6, F6, nd6⟩
            refine ⟨_, rfl, _, rfl, _, _, rfl, rfl, _, _, rfl, rfl, (by show (0 : Int) < _; decide), Dg, _, _, .int dd, rfl, rfl, SqL.of dg8, hix, _, _, rfl, rfl, (by show (0 : Int) < _; decide), rfl, _, rfl, ?_⟩
            by_cases hd3 : V.int (dd % 3) = V.int 0
            · rw [decide_eq_true hd3]
              refine iteT ⟨_, rfl, _, rfl, _, rules', hput.mono hidL_kp, ⟨R, us', rfl, r8, al8.mono hidL_kp⟩, _, rfl, ?_⟩
              by_cases hmem : (⟨r.a, r.b, r.c.map (swp sw)⟩ : Rul) ∈ rules'
              · have e1 : ∀ q : Decidable ((⟨r.a, r.b, r.c.map (swp sw)⟩ : Rul) ∈ rules'), (!@decide _ q) = false := fun q => by rw [@decide_eq_true _ q hmem]; rfl
                rw [e1]
                exact iteF keep
              · have e1 : ∀ q : Decidable ((⟨r.a, r.b, r.c.map (swp sw)⟩ : Rul) ∈ rules'), (!@decide _ q) = true := fun q => by rw [@decide_eq_false _ q hmem]; rfl
                rw [e1]
                have hi8 : i < us'.length := (List.getElem?_eq_some_iff.mp hv6).1
                refine iteT ⟨_, rfl, _, rfl, _, rfl, R, _, _, i, rfl, rfl, r8, ?_, ?_⟩
                · rw [Int.zero_add]
                  exact ixN_at hi8
                · have e9 : hidL (upd H8 R (.lst (us'.set i (.ref q)))) [N, M, R] = hidL H8 [N, M, R] := hidL_upd (by simp)
                  refine ⟨rules'.set i ⟨r.a, r.b, r.c.map (swp sw)⟩, us'.set i (.ref q), _, _, rfl, (s6.trans s8).mut hR0 r8 True.intro, ?_, ?_, upd_same, ?_, ?_, ?_, ?_, ?_, set_nodup nd6 hmem⟩
                  · rw [upd_ne (show Dg ≠ R from fun z => ?_)]
                    · exact dg8
                    · rw [z, r8] at dg8
                      have e : us' = ds.map V.int := by injection (Option.some.inj dg8)
                      rw [e, List.getElem?_map] at hv6
                      cases e7 : ds[i]? with
                      | none => rw [e7] at hv6; cases hv6
                      | some x => rw [e7] at hv6; cases hv6
                  · rw [upd_ne hRN.symm]; exact s8.lst n6
                  · rw [e9]
                    exact al8.set i hput
                  · rw [upd_ne hRM.symm]; exact s8.dK m6
                  · rw [e9]
                    exact kv6.mono (hidL_mono s8.kp)
                  · rw [upd_ne fun z => hpL (by rw [z]; simp)]
                    exact s8.dK p6
                  · refine F6.set fun b hb => ?_
                    have FR : SwapR names mk u r b := F6.at2 hr6 hb
                    exact FR.again I hsw
            · rw [decide_eq_false hd3]
              exact iteF (iteF keep)
        · rintro σ H6 ⟨rules', us', z6', z13, rfl, s6, dg6, n6, r6, al6, m6, kv6, p6, F6, nd6⟩
          refine ⟨_, rfl, _, rfl, _, rfl, (by show 3 ≤ sizeLine; decide), fun q hq => ?_⟩
          have sq : Sm T H6 (upd H6 q (.tup [.ref N, .ref R, .ref M])) := Sm.new hq
          exact k names rules' mk u q (.ref N) (.ref R) (.ref M) _ (PInv.fin I F6 nd6 (by omega)) (by omega) (s6.trans sq) upd_same ⟨N, _, rfl, sq.lst n6, strs_at.mpr rfl⟩ ⟨R, us', rfl, sq.lst r6, al6.mono (hidL_kp.trans sq.kp)⟩ ⟨M, kvs, rfl, .inl (sq.dK m6), kv6.mono (hidL_kp.trans sq.kp)⟩
end
end SG

set_option Elab.async false
set_option linter.all false
set_option maxRecDepth 100000
set_option maxHeartbeats 16000000
set_option autoImplicit false
set_option pp.maxSteps 600
/-! The law. -/
namespace SG
open PySem PySem.Spec PyProof.Rows L2 LamX C8
abbrev sLaw : Stmt := top 67
abbrev lawN : List Str := ["_law_script", "_law_cells", "_law_cell_here", "_law_names", "_law_rules", "_law_makings", "_law_weights", "_law_grammar", "_law_row", "_law_x", "_law_one", "_law_name", "_law_other", "_law_last", "_law_pairs", "_law_y", "_law_found"]
def spLaw (K : PySem.W.Frag) (T : List (Addr × Str)) : Sp := fun vs H Q _ => ∃ (a : Addr) (cs : List Int), vs = [.ref a] ∧ SqL K H a (cs.map V.int) ∧ cs.length ≤ 100000 ∧ Tabs T H ∧ ∀ H', Sm T H H' → Q (.bl true) H'
section
variable {P : Program} {w : World} {K : PySem.W.Frag} {mg : Str → Option Value} {base : Heap} {T : List (Addr × Str)} {C : Addr}
theorem scLaw : FnScope lawN ["_law_script"] (fnScope sLaw) := fnScope_by (by decide +kernel)
theorem out_wtk {mk : Mks} {u : Str → Nat} (h : ∀ Y m, dlk mk Y = some m → u Y = wt u m) : ∀ r : List Str, wt u (out (dlk mk) r) = wt u r
  | [] => rfl
  | x :: r => by
    rw [out_cons, wt_append, wt_cons, out_wtk h r]
    congr 1
    cases e : dlk mk x with
    | none => exact rfl
    | some m => exact (h x m e).symm
theorem body_law (X : Gs mg) (cPl : Cal P w K mg base 4 "_law_planted" (spPlanted T) []) (cWe : Cal P w K mg base 1 "_law_weighed" (spWeigh T) []) (cGr : Mak P w K mg base 4 "Grammar" C (spGInit T C) []) (cDig : Cal P w K mg base 1 "_law_digits" (spDigits T) [])
    (cEx : Cal P w K mg base 1 "_law_exchanged" (spExch T) []) (cLi : Cal P w K mg base 11 "likeness" (spLike T C) []) (cRi : Cal P w K mg base 5 "_law_right" (spRight T) []) (cMa : Cal P w K mg base 11 "made_of" (spMadeOf T C) []) :
    BodyOf P w K mg base 11 lawN "law" sLaw (spLaw K T) := by
  refine fun f cdv A outer s H vs Q E hr h => ?_
  · obtain ⟨sc, cs, rfl, hsc, hcl, hT, k⟩ := h
    have hu := hu_of hr
    have hu64 := hr.units
    have hun := hr.un
    refine ⟨_, pss_cons (ps_set (i := 1) scLaw.nd rfl (Or.inl rfl) (pe_slice sl_list (pv 0) po_none (po_some pe_int)))
      (pss_cons (ps_join (ps_if (pt_cmpR (op_eqT (List Int) hu64) (pv 1) (pe_lst pa_nil) (nomark _)) (pss_one (ps_set (i := 1) scLaw.nd rfl (Or.inl rfl) (pe_lst (pa_cons pe_int (pa_cons pe_int pa_nil))))) pss_nil))
      (pss_cons (ps_for PassesOwn.never rfl (pi_list (pv 1)) (pg_name (i := 2) scLaw.nd rfl (Or.inl rfl))
        (pss_cons (ps_asg (pe_c cPl hr (by decide) rfl (pa_cons (pv 2) (pa_cons pe_str pa_nil))) (pg_tup3K K rfl rfl scLaw.nd (i := 3) (j := 4) (l := 5) rfl rfl rfl (.inr rfl) (.inl rfl) (.inl rfl) (.inl rfl) (.inr rfl) (.inr rfl)))
        (pss_cons (ps_set (i := 6) scLaw.nd rfl (Or.inr rfl) (pe_c cWe hr (by decide) rfl (pa_cons (pv 3) (pa_cons (pv 4) pa_nil))))
        (pss_cons (ps_set (i := 7) scLaw.nd rfl (Or.inl rfl) (pe_mk cGr hr (by decide) rfl (pa_cons (pv 3) (pa_cons (pv 4) pa_nil))))
        (pss_cons (ps_set (i := 8) scLaw.nd rfl (Or.inl rfl) (pe_c cDig hr (by decide) rfl (pa_cons (pv 2) (pa_cons pe_int pa_nil))))
        (pss_cons (ps_setLc (i := 10) (own := [("_law_x", 9)]) rfl scLaw.nd rfl rfl (sw_true rfl rfl rfl (by decide +kernel)) (pi_list (pe_slice sl_list (pv 8) (po_some pe_int) (po_some (pe_op op_add pe_int (pe_op op_mod (pe_ix ix_list (pv 8) pe_int (fun _ _ => rfl)) pe_int))))) (blkOk_by (N := lawN) (sc := fnScope sLaw) (by decide +kernel))
            (fun _ _ _ _ _ => pg_name (i := 9) scLaw.nd rfl (Or.inl rfl) (.inr rfl)) (fun _ _ _ _ _ => pts_nil) (fun _ _ _ _ _ => pe_ix (ix_listK K rfl) (pv 3) (pe_op op_mod (pv 9) (pe_lenK K rfl (by rfl) X.len (pa_cons (pv 3) pa_nil))) (fun _ _ => rfl)))
        (pss_cons (ps_while PassesOwn.never (pt_cmpR op_gt (pe_callB (cr_sum rfl) (by rfl) X.sum boot_sum_ (pa_cons (pe_lc (own := [("_law_name", 11)]) rfl scLaw.nd (pi_list (pv 10)) (blkOk_by (N := lawN) (sc := fnScope sLaw) (by decide +kernel))
              (fun _ _ _ _ _ => pg_name (i := 11) scLaw.nd rfl (Or.inl rfl) (.inr rfl)) (fun _ _ _ _ _ => pts_nil) (fun _ _ _ _ _ => pe_dget hu (pv 6) (pv 11) (fun _ _ => rfl))) pa_nil)) pe_int (nomark _))
            (pss_one (ps_expr (pe_bm0 PySem.F.plainAttrs_list PySem.F.slot_list_pop PySem.F.type_list_pop mt_pop (pv 10)))))
        (pss_cons (ps_set (i := 12) scLaw.nd rfl (Or.inl rfl) (pe_c cEx hr (by decide) rfl (pa_cons (pv 5) (pa_cons (pv 10) (pa_cons (pe_slice sl_list (pv 8) (po_some pe_int) po_none) pa_nil)))))
        (pss_cons (ps_set (i := 13) scLaw.nd rfl (Or.inl rfl) (pe_ix ix_list (pv 3) (pe_op op_mod (pe_ix ix_list (pv 8) pe_int (fun _ _ => rfl)) (pe_lenK K rfl (by rfl) X.len (pa_cons (pv 3) pa_nil))) (fun _ _ => rfl)))
        (pss_cons (ps_set (i := 14) scLaw.nd rfl (Or.inl rfl) (pe_lst (pa_cons (pe_tup (pa_cons (pv 10) (pa_cons (pv 12) pa_nil))) (pa_cons (pe_tup (pa_cons (pe_op op_cat (pv 10) (pe_lst (pa_cons (pv 13) pa_nil))) (pa_cons (pe_op op_cat (pv 12) (pe_lst (pa_cons (pv 13) pa_nil))) pa_nil))) pa_nil))))
        (pss_cons (ps_expr (pe_bm PySem.F.plainAttrs_list PySem.F.slot_list_append PySem.F.type_list_append mt_append (pv 14) (pa_cons (pe_tup (pa_cons (pe_op op_cat (pe_lst (pa_cons (pv 13) pa_nil)) (pv 12)) (pa_cons (pe_op op_cat (pe_lst (pa_cons (pv 13) pa_nil)) (pv 10)) pa_nil))) pa_nil)))
        (pss_one (ps_for PassesOwn.never rfl (pi_list (pv 14)) (pg_tup2K K rfl rfl scLaw.nd (i := 9) (j := 15) rfl rfl (.inl rfl) (.inl rfl) (.inr rfl) (.inr rfl))
          (pss_cons (ps_set (i := 16) scLaw.nd rfl (Or.inl rfl) (pe_c cLi hr (by decide) rfl (pa_cons (pv 7) (pa_cons pe_str (pa_cons (pe_listK K rfl (by rfl) X.list (pa_cons (pv 9) pa_nil)) (pa_cons (pe_listK K rfl (by rfl) X.list (pa_cons (pv 15) pa_nil)) pa_nil))))))
          (pss_cons (ps_if (PW.pt (pw_or (pt_cmpR op_ne (pe_ix ix_tup (pv 16) pe_int (fun _ _ => rfl)) pe_str (nomark _)) (pw_or1 (pt_not (pt_val (pe_c cRi hr (by decide) rfl (pa_cons (pv 3) (pa_cons (pv 4) (pa_cons pe_str (pa_cons (pv 6) (pa_cons (pv 9) (pa_cons (pv 15) (pa_cons (pv 16) pa_nil)))))))))))))
              (pss_one (ps_ret pe_bl)) pss_nil)
          (pss_one (ps_if (pt_cmpR (op_neT (List Str) hu64) (pe_c cMa hr (by decide) rfl (pa_cons (pv 7) (pa_cons pe_str (pa_cons (pv 9) pa_nil)))) (pe_c cMa hr (by decide) rfl (pa_cons (pv 7) (pa_cons pe_str (pa_cons (pv 15) pa_nil)))) (nomark _)) (pss_one (ps_ret pe_bl)) pss_nil)))))))))))))))))
      (pss_one (ps_ret pe_bl)))), ?_⟩
    refine ⟨_, rfl, _, rfl, sc, _, rfl, hsc, fun A0 hA0 => ?_⟩
    have ecut : cutV (cs.map V.int) Option.none (some 2) = (cs.take 2).map V.int := by
      have : ((2 : Nat) : Int) = 2 := rfl
      rw [← this, cutV_to, List.map_take]
    rw [ecut]
    have s0 : Sm T H (upd H A0 (.lst ((cs.take 2).map V.int))) := Sm.new hA0
    have a0 : upd H A0 (.lst ((cs.take 2).map V.int)) A0 = some (.lst ((cs.take 2).map V.int)) := upd_same
    generalize upd H A0 (.lst ((cs.take 2).map V.int)) = H0 at s0 a0 ⊢
    generalize cs.take 2 = cs2 at a0 ⊢
    refine ⟨fun σ' H' => ∃ (A : Addr) (cells : List Int), σ' = [some (.ref sc), some (.ref A), Option.none, Option.none, Option.none, Option.none, Option.none, Option.none, Option.none, Option.none, Option.none, Option.none, Option.none, Option.none, Option.none, Option.none, Option.none] ∧ Sm T H H' ∧ H' A = some (.lst (cells.map V.int)), ?_, ?_⟩
    · refine ⟨_, rfl, Nat.zero_le _, fun t ht => ?_⟩
      have st := Sm.new (T := T) (o := .lst []) ht
      refine ⟨cs2, [], ⟨A0, _, rfl, st.lst a0, ints_at.mpr rfl⟩, ⟨t, [], rfl, upd_same, True.intro⟩, _, rfl, ?_⟩
      by_cases e : cs2 = []
      · have e1 : ∀ q : Decidable (cs2 = []), (@decide _ q) = true := fun q => @decide_eq_true _ q e
        rw [e1]
        exact iteT ⟨by show 2 ≤ sizeLine; decide, fun B hB => ⟨B, [4, 19], rfl, (s0.trans st).trans (Sm.new hB), upd_same⟩⟩
      · have e1 : ∀ q : Decidable (cs2 = []), (@decide _ q) = false := fun q => @decide_eq_false _ q e
        rw [e1]
        exact iteF ⟨A0, cs2, rfl, s0.trans st, st.lst a0⟩
    rintro _ H1 ⟨A1, cells, rfl, s1, a1⟩
    refine ⟨_, rfl, A1, rfl, ⟨_, SqL.of a1⟩, for_list (K := K) (a := A1) (xs := cells.map V.int) (fun i σ H' => ∃ (z2 z3 z4 z5 z6 z7 z8 z9 z10 z12 z13 z14 z15 z16 : Option V), σ = [some (.ref sc), some (.ref A1), z2, z3, z4, z5, z6, z7, z8, z9, z10, Option.none, z12, z13, z14, z15, z16] ∧ Sm T H1 H')
      ⟨_, _, _, _, _, _, _, _, _, _, _, _, _, _, rfl, Sm.refl T H1⟩ (fun i σ H' _ h => by obtain ⟨_, _, _, _, _, _, _, _, _, _, _, _, _, _, _, h⟩ := h; exact SqL.of (h.lst a1)) ?_ ?_⟩
    · rintro i v σ H2 hi ⟨z2, z3, z4, z5, z6, z7, z8, z9, z10, z12, z13, z14, z15, z16, rfl, s2⟩
      obtain ⟨c, rfl⟩ : ∃ c : Int, v = V.int c := by
        rw [List.getElem?_map] at hi
        cases e : cells[i]? with
        | none => rw [e] at hi; cases hi
        | some c => rw [e] at hi; exact ⟨c, by cases hi; rfl⟩
      refine ⟨_, rfl, c, rfl, fun names rules mk u p vn vr vm H3 hF hml s3 hp hn hr1 hm => ?_⟩
      refine ⟨p, _, rfl, SqT.of hp, rfl, _, _, rfl, _, _, rfl, _, _, rfl, rfl, ?_⟩
      -- weights
      have W : WRules names rules u := ⟨hF.nms, hF.le, hF.ok.left, hF.ok.row, hF.ok.short, Nat.le_trans hF.ok.len (by decide)⟩
      refine ⟨_, rfl, _, rfl, vn, vr, names, rules, u, rfl, hr1, W, fun b hb vw H4 s4 hw => ?_⟩
      have hn4 := s4.at_ hn
      have hr4 := s4.at_ hr1
      have hm4 := s4.at_ hm
      have hw4 := new_at hw
      have s14 := (s2.trans s3).trans s4
      -- the grammar
      refine ⟨_, rfl, _, rfl, fun g dx hg hdx hne => ?_⟩
      have eh : hid (upd (upd H4 dx (.own g)) g (.ins C dx [])) g = upd H4 dx (.own g) := by
        funext b
        by_cases e : b = g
        · rw [e, hid_at, upd_ne (Ne.symm hne), hg]
        · rw [hid_ne e, upd_ne e]
      have sdx : Sm T H4 (upd H4 dx (.own g)) := Sm.new hdx
      refine ⟨g, dx, vn, vr, names, rules, rfl, upd_same, by rw [eh]; exact sdx.at_ hn4, by rw [eh]; exact sdx.at_ hr4, hF.ok, fun H5 s5 hgr => ⟨rfl, ?_⟩⟩
      rw [eh] at s5
      have s45 := sdx.trans s5
      -- the row's digits
      refine ⟨_, rfl, c, 30, rfl, by decide, fun ds hdl hd0 v6 H6 s6 h6 => ?_⟩
      obtain ⟨Dg, us6, rfl, hDg, hus⟩ := h6
      rw [ints_at] at hus
      subst hus
      have dg6 := (dif_some hDg).2
      have dat : ∀ i : Nat, i < 30 → ∃ d : Int, 0 ≤ d ∧ ds[i]? = some d ∧ atI (ds.map V.int) ((i : Nat) : Int) = some (V.int d) := fun i hi => by
        have h2 : i < ds.length := by omega
        exact ⟨ds[i], hd0 _ (List.getElem_mem h2), List.getElem?_eq_getElem h2, atI_nat (by rw [List.getElem?_map, List.getElem?_eq_getElem h2]; rfl)⟩
      obtain ⟨d0, hd0p, _, hd0a⟩ := dat 0 (by decide)
      obtain ⟨d9, hd9p, _, hd9a⟩ := dat 9 (by decide)
      -- one
      refine ⟨_, rfl, _, rfl, _, rfl, Dg, _, 0, _, rfl, rfl, SqL.of dg6, hd0a, _, _, rfl, rfl, (by show (0 : Int) < _; decide), _, _, rfl, rfl, _, rfl, Dg, _, rfl, SqL.of dg6, fun q hq => ?_⟩
      obtain ⟨pt, ept, hptl⟩ : ∃ pt : List Int, cutV (ds.map V.int) (some 1) (some (1 + d0 % 9)) = pt.map V.int ∧ pt.length ≤ 9 := by
        have e2 : 1 + d0 % 9 = ((1 + (d0 % 9).toNat : Nat) : Int) := by omega
        have e1 : (1 : Int) = ((1 : Nat) : Int) := rfl
        refine ⟨(ds.drop 1).take ((d0 % 9).toNat), ?_, ?_⟩
        · unfold cutV
          rw [e2, e1, HT.sIx_nat, HT.sIx_nat, List.length_map, Nat.min_eq_left (by omega), Nat.min_eq_left (by omega), ← List.map_drop, ← List.map_take]
          congr 2
          omega
        · rw [List.length_take]
          omega
      rw [ept]
      have sq : Sm T H6 (upd H6 q (.lst (pt.map V.int))) := Sm.new hq
      have q7 : upd H6 q (.lst (pt.map V.int)) q = some (.lst (pt.map V.int)) := upd_same
      have s7 := s6.trans sq
      generalize upd H6 q (.lst (pt.map V.int)) = H7 at sq q7 s7 ⊢
      obtain ⟨cn, rfl, hcn⟩ := hn4.strs
      have hcn7 := (s45.trans s7).lst hcn
      have hnpos := hF.ok.nok.pos
      have hnml : (names.map V.str).length = names.length := List.length_map ..
      refine ⟨q, rfl, ⟨_, SqL.of q7⟩, fun E hE => ?_⟩
      refine lc_rep (S := H7) (xs := pt) T H7 (fun d => names[(d % ((names.length : Nat) : Int)).toNat]?) hE (fun b z => z) q7 (ints_at.mpr rfl) (by omega) (fun j v y H8 hj hat q8 hEn Ky Kn ky kn => ?_) (fun H8 ys q8 h8 hA8 => ?_)
      · have hat : v = V.int y := hat
        subst hat
        have hcn8 := q8.lst hcn7
        obtain ⟨jj, x, e1, e2⟩ := mod_at (xs := names) (fun z => by rw [z] at hnpos; simp at hnpos) y
        refine ⟨rfl, _, rfl, _, rfl, _, rfl, cn, _, rfl, .inl (SqL.of hcn8), _, _, rfl, rfl, (by show (0 : Int) < _; rw [hnml]; omega), cn, _, _, _, rfl, rfl, SqL.of hcn8, (by rw [hnml, e1]; exact atI_nat (by rw [List.getElem?_map, e2]; rfl)), ?_⟩
        exact ky _ x _ (by rw [e1]; exact e2) (Sm.refl T H8) rfl
      · rw [strs_at] at hA8
        subst hA8
        have hone : ∃ one0 : List Str, pt.filterMap (fun d => names[(d % ((names.length : Nat) : Int)).toNat]?) = one0 ∧ one0.length ≤ 9 ∧ ∀ x ∈ one0, x ∈ names := ⟨_, rfl, Nat.le_trans (List.length_filterMap_le ..) hptl, fun x hx => by
          obtain ⟨d, _, e⟩ := List.mem_filterMap.mp hx
          exact List.mem_of_getElem? e⟩
        obtain ⟨one0, eone, hol, hosub⟩ := hone
        rw [eone] at h8
        have hw8 := (s45.trans (s7.trans q8)).at_ hw4
        have hwB : ∀ x ∈ names, (dlk b x).isSome = true := hb.all
        -- while sum(...) > 12: one.pop()
        refine ⟨fun m σ' H' => ∃ one : List Str, one.length = m ∧ one.length ≤ 9 ∧ (∀ x ∈ one, x ∈ names) ∧ σ' = [some (.ref sc), some (.ref A1), some (.int c), some (.ref cn), some vr, some vm, some vw, some (.ref g), some (.ref Dg), z9, some (.ref E), Option.none, z12, z13, z14, z15, z16] ∧ Sm T H7 H' ∧ H' E = some (.lst (one.map V.str)), ⟨_, one0, rfl, hol, hosub, rfl, q8, h8⟩, ?_⟩
        rintro m _ H9 ⟨one, hm1, hm9, hms, rfl, s9, h9⟩
        refine ⟨_, rfl, E, rfl, ⟨_, SqL.of h9⟩, fun E2 hE2 => ?_⟩
        have e2 : one.filterMap (fun x => some (((dlk b x).getD 0 : Nat) : Int)) = one.map fun x => (((dlk b x).getD 0 : Nat) : Int) := by
          rw [← List.filterMap_eq_map]
          rfl
        have hw9 := ((sq.trans (Sm.refl T _)).trans s9)
        have hw7 := ((s45.trans s7).trans s9).at_ hw4
        refine lc_rep (S := H) (xs := one) T H9 (fun x => some (((dlk b x).getD 0 : Nat) : Int)) hE2 (fun b z => z) h9 (strs_at.mpr rfl) (by omega) (fun j v y H10 hj hat q10 hEn Ky Kn ky kn => ?_) (fun H10 ys q10 h10 hA10 => ?_)
        · have hat : v = V.str y := hat
          subst hat
          obtain ⟨n, hn⟩ := Option.isSome_iff_exists.mp (hwB y (hms y (List.mem_of_getElem? hj)))
          obtain ⟨d, e, isd, hg⟩ := (hw7.mono q10.kp).dlk y
          subst e
          rw [hn] at hg
          obtain ⟨u, hg, hu2⟩ := hg
          have hu2 : u = V.int (n : Int) := hu2
          subst hu2
          refine ⟨rfl, yes_if ⟨_, rfl, _, rfl, d, _, rfl, hg, ky _ (((dlk b y).getD 0 : Nat) : Int) _ rfl (Sm.refl T H10) ?_⟩⟩
          rw [hn]
          rfl
        rw [e2, ints_at] at hA10
        subst hA10
        refine ⟨E2, _, rfl, SqL.of h10, ?_⟩
        rw [sum_wt]
        refine ⟨_, _, rfl, rfl, _, rfl, ?_⟩
        by_cases h7 : (12 : Int) < ((wt (fun x => (dlk b x).getD 0) one : Nat) : Int)
        · rw [decide_eq_true h7]
          have h10' := q10.lst h9
          have hne : one ≠ [] := fun z => by
            rw [z, wt_nil] at h7
            exact absurd h7 (by decide)
          have hpos : 0 < one.length := List.length_pos_iff.mpr hne
          have hlast : (one.map V.str)[(one.map V.str).length - 1]? = some (V.str (one.getLast hne)) := by
            rw [List.length_map, List.getElem?_map, List.getLast_eq_getElem, List.getElem?_eq_getElem (by omega)]
            rfl
          have hE7 : H7 E = Option.none := hE
          refine iteT ⟨fun σ' H' => ∃ one' : List Str, one'.length = one.length - 1 ∧ one'.length ≤ 9 ∧ (∀ x ∈ one', x ∈ names) ∧ σ' = [some (.ref sc), some (.ref A1), some (.int c), some (.ref cn), some vr, some vm, some vw, some (.ref g), some (.ref Dg), z9, some (.ref E), Option.none, z12, z13, z14, z15, z16] ∧ Sm T H7 H' ∧ H' E = some (.lst (one'.map V.str)), fun σ' H' h => ⟨one.length - 1, by omega, h⟩, ?_⟩
          refine ⟨_, rfl, .inl ⟨rfl, _, SqL.of h10'⟩, E, _, _, rfl, rfl, h10', hlast, one.dropLast, by rw [List.length_dropLast], by rw [List.length_dropLast]; omega, fun x hx => hms x ((List.dropLast_sublist one).subset hx), rfl, (s9.trans q10).mut hE7 h10' True.intro, ?_⟩
          rw [upd_same, List.map_dropLast]
        · rw [decide_eq_false h7]
          refine iteF ?_
          have hwle : wt u one ≤ 12 := by
            refine Nat.le_trans (wt_mono fun x hx => ?_) (show wt (fun x => (dlk b x).getD 0) one ≤ 12 by omega)
            obtain ⟨n, hn⟩ := Option.isSome_iff_exists.mp (hwB x (hms x hx))
            show u x ≤ (dlk b x).getD 0
            rw [hn]
            exact hb.low x n hn
          have s710 := s9.trans q10
          have e10 := q10.lst h9
          have dg10 := (sq.trans s710).lst dg6
          have hE7 : H7 E = Option.none := hE
          generalize H10 = H11 at s710 e10 dg10 ⊢
          -- other
          refine ⟨_, rfl, _, rfl, _, rfl, _, rfl, Dg, _, rfl, SqL.of dg10, fun q2 hq2 => ?_⟩
          have ecut2 : cutV (ds.map V.int) (some 10) Option.none = (ds.drop 10).map V.int := by
            have : ((10 : Nat) : Int) = 10 := rfl
            rw [← this, cutV_from (by rw [List.length_map]; omega), List.map_drop]
          rw [ecut2]
          have sq2 := Sm.new (T := T) (o := .lst ((ds.drop 10).map V.int)) hq2
          have q12 : upd H11 q2 (.lst ((ds.drop 10).map V.int)) q2 = some (.lst ((ds.drop 10).map V.int)) := upd_same
          have s712 := s710.trans sq2
          have e12 := sq2.lst e10
          have dg12 := sq2.lst dg10
          generalize upd H11 q2 (.lst ((ds.drop 10).map V.int)) = H12 at sq2 q12 s712 e12 dg12 ⊢
          refine ⟨vm, .ref E, .ref q2, names, mk, one, ds.drop 10, rfl, ((s45.trans s7).trans s712).at_ hm4, ⟨E, _, rfl, e12, strs_at.mpr rfl⟩, ⟨q2, _, rfl, q12, ints_at.mpr rfl⟩, by rw [List.length_drop]; omega, by omega, hml, hF.keys, hms, ?_, fun o ho1 ho2 ho3 vo H13 s13 hvo => ?_⟩
          · exact fun Y m h => ⟨hF.mkd.dom Y m h, hF.mlen Y m h, fun y hy => ⟨hF.mkd.over Y m h y hy, hF.mkd.free Y m h y hy⟩⟩
          · have how : wt u o = wt u one := by rw [← out_wtk hF.wtk o, ho1, out_wtk hF.wtk one]
            obtain ⟨co, rfl, hco⟩ := hvo.strs
            have hco13 := (dif_some hco).2
            have s713 := s712.trans s13
            have e13 := s13.lst e12
            have dg13 := s13.lst dg12
            have cn13 := (s45.trans (s7.trans s713)).lst hcn
            obtain ⟨jl, lastx, el1, el2⟩ := mod_at (xs := names) (fun z => by rw [z] at hnpos; simp at hnpos) d9
            -- last
            refine ⟨_, rfl, _, rfl, Dg, _, 9, _, rfl, rfl, SqL.of dg13, hd9a, _, rfl, cn, _, rfl, .inl (SqL.of cn13), _, _, rfl, rfl, (by show (0 : Int) < _; rw [hnml]; omega), cn, _, _, _, rfl, rfl, SqL.of cn13, (by rw [hnml, el1]; exact atI_nat (by rw [List.getElem?_map, el2]; rfl)), ?_⟩
            have hlm : lastx ∈ names := List.mem_of_getElem? el2
            have hol2 : o.length ≤ 18 := by omega
            have big : 1000 ≤ sizeLine := by decide
            -- pairs
            refine ⟨_, rfl, _, rfl, (by show 2 ≤ sizeLine; decide), fun p1 hp1 => ?_⟩
            have t14 := Sm.new (T := T) (o := .tup [.ref E, .ref co]) hp1
            have f1 : upd H13 p1 (.tup [.ref E, .ref co]) p1 = some (.tup [.ref E, .ref co]) := upd_same
            generalize upd H13 p1 (.tup [.ref E, .ref co]) = H14 at t14 f1 ⊢
            refine ⟨_, rfl, _, rfl, (by show 1 ≤ sizeLine; decide), fun l1 hl1 => ?_⟩
            have t15 := Sm.new (T := T) (o := .lst [.str lastx]) hl1
            have f2 : upd H14 l1 (.lst [.str lastx]) l1 = some (.lst [.str lastx]) := upd_same
            generalize upd H14 l1 (.lst [.str lastx]) = H15 at t15 f2 ⊢
            refine ⟨E, l1, _, _, rfl, rfl, (t14.trans t15).lst e13, f2, by rw [List.length_map]; show one.length + 1 ≤ _; omega, fun r1 hr1 => ?_⟩
            rw [show one.map V.str ++ [V.str lastx] = (one ++ [lastx]).map V.str from by rw [List.map_append]; rfl]
            have t16 := Sm.new (T := T) (o := .lst ((one ++ [lastx]).map V.str)) hr1
            have f3 : upd H15 r1 (.lst ((one ++ [lastx]).map V.str)) r1 = some (.lst ((one ++ [lastx]).map V.str)) := upd_same
            generalize upd H15 r1 (.lst ((one ++ [lastx]).map V.str)) = H16 at t16 f3 ⊢
            have t1316 := (t14.trans t15).trans t16
            refine ⟨_, rfl, _, rfl, (by show 1 ≤ sizeLine; decide), fun l2 hl2 => ?_⟩
            have t17 := Sm.new (T := T) (o := .lst [.str lastx]) hl2
            have f4 : upd H16 l2 (.lst [.str lastx]) l2 = some (.lst [.str lastx]) := upd_same
            generalize upd H16 l2 (.lst [.str lastx]) = H17 at t17 f4 ⊢
            refine ⟨co, l2, _, _, rfl, rfl, (t1316.trans t17).lst hco13, f4, by rw [List.length_map]; show o.length + 1 ≤ _; omega, fun r2 hr2 => ?_⟩
            rw [show o.map V.str ++ [V.str lastx] = (o ++ [lastx]).map V.str from by rw [List.map_append]; rfl]
            have t18 := Sm.new (T := T) (o := .lst ((o ++ [lastx]).map V.str)) hr2
            have f5 : upd H17 r2 (.lst ((o ++ [lastx]).map V.str)) r2 = some (.lst ((o ++ [lastx]).map V.str)) := upd_same
            generalize upd H17 r2 (.lst ((o ++ [lastx]).map V.str)) = H18 at t18 f5 ⊢
            refine ⟨(by show 2 ≤ sizeLine; decide), fun p2 hp2 => ?_⟩
            have t19 := Sm.new (T := T) (o := .tup [.ref r1, .ref r2]) hp2
            have f6 : upd H18 p2 (.tup [.ref r1, .ref r2]) p2 = some (.tup [.ref r1, .ref r2]) := upd_same
            generalize upd H18 p2 (.tup [.ref r1, .ref r2]) = H19 at t19 f6 ⊢
            have t1619 := (t17.trans t18).trans t19
            refine ⟨(by show 2 ≤ sizeLine; decide), fun Lp hLp => ?_⟩
            have t20 := Sm.new (T := T) (o := .lst [.ref p1, .ref p2]) hLp
            have f7 : upd H19 Lp (.lst [.ref p1, .ref p2]) Lp = some (.lst [.ref p1, .ref p2]) := upd_same
            generalize upd H19 Lp (.lst [.ref p1, .ref p2]) = H20 at t20 f7 ⊢
            have t1319 := t1316.trans t1619
            have t1320 := t1319.trans t20
            have hLp13 : H13 Lp = Option.none := t1319.fr _ hLp
            -- append
            refine ⟨_, rfl, .inl ⟨rfl, _, SqL.of f7⟩, _, rfl, (by show 1 ≤ sizeLine; decide), fun l3 hl3 => ?_⟩
            have t21 := Sm.new (T := T) (o := .lst [.str lastx]) hl3
            have f8 : upd H20 l3 (.lst [.str lastx]) l3 = some (.lst [.str lastx]) := upd_same
            generalize upd H20 l3 (.lst [.str lastx]) = H21 at t21 f8 ⊢
            refine ⟨_, rfl, l3, co, _, _, rfl, rfl, f8, (t1320.trans t21).lst hco13, by rw [List.length_map]; show 1 + o.length ≤ _; omega, fun r3 hr3 => ?_⟩
            rw [show [V.str lastx] ++ o.map V.str = (lastx :: o).map V.str from rfl]
            have t22 := Sm.new (T := T) (o := .lst ((lastx :: o).map V.str)) hr3
            have f9 : upd H21 r3 (.lst ((lastx :: o).map V.str)) r3 = some (.lst ((lastx :: o).map V.str)) := upd_same
            have n1 : Lp ≠ r3 := ne_of_none (t21.lst f7) hr3
            generalize upd H21 r3 (.lst ((lastx :: o).map V.str)) = H22 at t22 f9 ⊢
            have t2022 := t21.trans t22
            refine ⟨_, rfl, (by show 1 ≤ sizeLine; decide), fun l4 hl4 => ?_⟩
            have t23 := Sm.new (T := T) (o := .lst [.str lastx]) hl4
            have f10 : upd H22 l4 (.lst [.str lastx]) l4 = some (.lst [.str lastx]) := upd_same
            generalize upd H22 l4 (.lst [.str lastx]) = H23 at t23 f10 ⊢
            have t2023 := t2022.trans t23
            refine ⟨_, rfl, l4, E, _, _, rfl, rfl, f10, (t1320.trans t2023).lst e13, by rw [List.length_map]; show 1 + one.length ≤ _; omega, fun r4 hq4 => ?_⟩
            rw [show [V.str lastx] ++ one.map V.str = (lastx :: one).map V.str from rfl]
            have t24 := Sm.new (T := T) (o := .lst ((lastx :: one).map V.str)) hq4
            have f11 : upd H23 r4 (.lst ((lastx :: one).map V.str)) r4 = some (.lst ((lastx :: one).map V.str)) := upd_same
            have n2 : Lp ≠ r4 := ne_of_none (t2023.lst f7) hq4
            generalize upd H23 r4 (.lst ((lastx :: one).map V.str)) = H24 at t24 f11 ⊢
            have t2024 := t2023.trans t24
            refine ⟨(by show 2 ≤ sizeLine; decide), fun p3 hp3 => ?_⟩
            have t25 := Sm.new (T := T) (o := .tup [.ref r3, .ref r4]) hp3
            have f12 : upd H24 p3 (.tup [.ref r3, .ref r4]) p3 = some (.tup [.ref r3, .ref r4]) := upd_same
            have n3 : Lp ≠ p3 := ne_of_none (t2024.lst f7) hp3
            generalize upd H24 p3 (.tup [.ref r3, .ref r4]) = H25 at t25 f12 ⊢
            have t2025 := t2024.trans t25
            refine ⟨Lp, [.ref p1, .ref p2], _, rfl, rfl, t2025.lst f7, (by show 2 < sizeLine; decide), ?_⟩
            have t26 : Sm T H19 (upd H25 Lp (.lst ([.ref p1, .ref p2] ++ [.ref p3]))) := (t20.trans t2025).mut hLp (t2025.lst f7) True.intro
            have f26 : upd H25 Lp (.lst ([.ref p1, .ref p2] ++ [.ref p3])) Lp = some (.lst [.ref p1, .ref p2, .ref p3]) := upd_same
            have g1 : upd H25 Lp (.lst ([.ref p1, .ref p2] ++ [.ref p3])) r3 = some (.lst ((lastx :: o).map V.str)) := by rw [upd_ne n1.symm]; exact ((t23.trans t24).trans t25).lst f9
            have g2 : upd H25 Lp (.lst ([.ref p1, .ref p2] ++ [.ref p3])) r4 = some (.lst ((lastx :: one).map V.str)) := by rw [upd_ne n2.symm]; exact t25.lst f11
            have g3 : upd H25 Lp (.lst ([.ref p1, .ref p2] ++ [.ref p3])) p3 = some (.tup [.ref r3, .ref r4]) := by rw [upd_ne n3.symm]; exact f12
            generalize upd H25 Lp (.lst ([.ref p1, .ref p2] ++ [.ref p3])) = H26 at t26 f26 g1 g2 g3 ⊢
            have t1326 := t1319.trans t26
            have hAll : AllAt H26 [V.ref p1, V.ref p2, V.ref p3] [((one, o) : List Str × List Str), (one ++ [lastx], o ++ [lastx]), (lastx :: o, lastx :: one)] :=
              ⟨⟨p1, _, _, rfl, ((((t15.trans t16).trans t1619).trans t26)).tup f1, At.of_strs (t1326.lst e13), At.of_strs (t1326.lst hco13)⟩,
                ⟨p2, _, _, rfl, t26.tup f6, At.of_strs ((t1619.trans t26).lst f3), At.of_strs ((t19.trans t26).lst f5)⟩,
                ⟨p3, _, _, rfl, g3, At.of_strs g1, At.of_strs g2⟩, True.intro⟩
            have hul : u lastx ≤ 12 := hF.le lastx hlm
            have hprs : ∀ pr ∈ [((one, o) : List Str × List Str), (one ++ [lastx], o ++ [lastx]), (lastx :: o, lastx :: one)], out (dlk mk) pr.1 = out (dlk mk) pr.2 ∧ (∀ x ∈ pr.1, x ∈ names) ∧ (∀ x ∈ pr.2, x ∈ names) ∧ wt u pr.1 ≤ 24 ∧ wt u pr.2 ≤ 24 ∧ pr.1.length ≤ 1000 ∧ pr.2.length ≤ 1000 := by
              intro pr hpr
              simp only [List.mem_cons, List.not_mem_nil, or_false] at hpr
              rcases hpr with rfl | rfl | rfl
              · exact ⟨ho1.symm, hms, ho2, by show wt u one ≤ 24; omega, by show wt u o ≤ 24; omega, by show one.length ≤ 1000; omega, by show o.length ≤ 1000; omega⟩
              · refine ⟨by rw [out_append, out_append, ho1], fun x hx => ?_, fun x hx => ?_, ?_, ?_, ?_, ?_⟩
                · rcases List.mem_append.mp hx with z | z
                  · exact hms x z
                  · rw [List.mem_singleton.mp z]; exact hlm
                · rcases List.mem_append.mp hx with z | z
                  · exact ho2 x z
                  · rw [List.mem_singleton.mp z]; exact hlm
                · rw [wt_append, wt_cons, wt_nil]; omega
                · rw [wt_append, wt_cons, wt_nil]; omega
                · rw [List.length_append]; show one.length + 1 ≤ 1000; omega
                · rw [List.length_append]; show o.length + 1 ≤ 1000; omega
              · refine ⟨by rw [out_cons, out_cons, ho1], fun x hx => ?_, fun x hx => ?_, ?_, ?_, ?_, ?_⟩
                · rcases List.mem_cons.mp hx with z | z
                  · rw [z]; exact hlm
                  · exact ho2 x z
                · rcases List.mem_cons.mp hx with z | z
                  · rw [z]; exact hlm
                  · exact hms x z
                · rw [wt_cons]; omega
                · rw [wt_cons]; omega
                · show o.length + 1 ≤ 1000; omega
                · show one.length + 1 ≤ 1000; omega
            have s526 : Sm T H5 H26 := s7.trans (s713.trans t1326)
            have s126 : Sm T H1 H26 := (s14.trans s45).trans s526
            have tb26 : Tabs T H26 := s126.tb (s1.tb hT)
            obtain ⟨L1, L2, L3, L4⟩ := hF.last
            have bok : BaseOk names rules (lastB (grOf names rules) u) := ⟨L3, L1, L2, last_bl hF.wok⟩
            have kn : ∀ r : List Str, (∀ x ∈ r, x ∈ names) → Kn (grOf names rules) r := fun r h x hx => by
              rw [show dlk (grOf names rules).stored x = _ from dlk_mapF (h x hx)]
              rfl
            refine ⟨_, rfl, Lp, rfl, ⟨_, SqL.of f26⟩, for_list (K := K) (a := Lp) (xs := [.ref p1, .ref p2, .ref p3]) (fun i σ H' => ∃ (z9 z15 z16 : Option V), σ = [some (.ref sc), some (.ref A1), some (.int c), some (.ref cn), some vr, some vm, some vw, some (.ref g), some (.ref Dg), z9, some (.ref E), Option.none, some (.ref co), some (.str lastx), some (.ref Lp), z15, z16] ∧ Sm T H26 H')
              ⟨_, _, _, rfl, Sm.refl T H26⟩ (fun i σ H' _ h => by obtain ⟨_, _, _, _, h⟩ := h; exact SqL.of (h.lst f26)) ?_ ?_⟩
            · rintro i v σ H27 hi ⟨z9', z15', z16', rfl, s27⟩
              obtain ⟨pr, hpr, hat⟩ := hAll.getV hi
              obtain ⟨hpo, hpx, hpy, hwx, hwy, hlx, hly⟩ := hprs pr (List.mem_of_getElem? hpr)
              obtain ⟨px, py⟩ := pr
              obtain ⟨a, v1, v2, rfl, ha, hx, hy⟩ := s27.at_ hat
              refine ⟨a, _, rfl, SqT.of ha, rfl, _, _, rfl, _, _, rfl, rfl, ?_⟩
              obtain ⟨cx, rfl, hcx⟩ := hx.strs
              obtain ⟨cy, rfl, hcy⟩ := hy.strs
              refine ⟨_, rfl, _, rfl, cx, _, rfl, .inl (SqL.of hcx), fun lx hlx2 => ?_⟩
              have s28 := Sm.new (T := T) (o := .lst (px.map V.str)) hlx2
              have k1 : upd H27 lx (.lst (px.map V.str)) lx = some (.lst (px.map V.str)) := upd_same
              generalize upd H27 lx (.lst (px.map V.str)) = H28 at s28 k1 ⊢
              refine ⟨_, rfl, cy, _, rfl, .inl (SqL.of (s28.lst hcy)), fun ly hly2 => ?_⟩
              have s29 := Sm.new (T := T) (o := .lst (py.map V.str)) hly2
              have k2 : upd H28 ly (.lst (py.map V.str)) ly = some (.lst (py.map V.str)) := upd_same
              generalize upd H28 ly (.lst (py.map V.str)) = H29 at s29 k2 ⊢
              have s2629 := s27.trans (s28.trans s29)
              have eout := L4 px py hpx hpy hpo
              have gr29 := hgr.mono (s526.trans s2629).kp
              refine ⟨.ref g, .ref lx, .ref ly, grOf names rules, u, px, py, rfl, gr29, At.of_strs (s29.lst k1), At.of_strs k2, hF.wok, ⟨(by show 2 ≤ 1000; decide), fun r hr => ?_⟩, eout, s2629.tb tb26, fun p d H30 s30 hp30 hd30 => ?_⟩
              · simp only [List.mem_cons, List.not_mem_nil, or_false] at hr
                rcases hr with rfl | rfl
                · exact ⟨kn _ hpx, hwx, hlx⟩
                · exact ⟨kn _ hpy, hwy, hly⟩
              have s2730 := (s28.trans s29).trans s30
              have s2630 := s27.trans s2730
              refine ⟨_, rfl, p, _, 0, _, rfl, rfl, SqT.of hp30, atI_nat (j := 0) rfl, rfl, _, rfl, iteF ?_⟩
              refine ⟨_, rfl, _, rfl, _, rfl, _, rfl, _, rfl, _, rfl, .ref cn, vr, vw, .ref cx, .ref cy, d, p, names, rules, lastB (grOf names rules) u, px, py, rfl, hp30, (s45.trans (s526.trans s2630)).at_ hn4, (s45.trans (s526.trans s2630)).at_ hr4, hd30, At.of_strs (s2730.lst hcx), At.of_strs (s2730.lst hcy), by have := hF.ok.len; omega, hF.ok.short, bok, hlx, eout, fun H31 s31 => ⟨true, rfl, iteF ?_⟩⟩
              have s2631 := s2630.trans s31
              have s2731 := s2730.trans s31
              refine ⟨_, rfl, _, rfl, .ref g, .ref cx, grOf names rules, u, px, rfl, hgr.mono (s526.trans s2631).kp, At.of_strs (s2731.lst hcx), hF.wok, ⟨(by show 1 ≤ 1000; decide), fun r hr => ?_⟩, s2631.tb tb26, fun v4 H32 s32 h4 => ?_⟩
              · rw [List.mem_singleton.mp hr]
                exact ⟨kn _ hpx, hwx, hlx⟩
              refine ⟨_, rfl, _, rfl, .ref g, .ref cy, grOf names rules, u, py, rfl, hgr.mono (s526.trans (s2631.trans s32)).kp, At.of_strs ((s2731.trans s32).lst hcy), hF.wok, ⟨(by show 1 ≤ 1000; decide), fun r hr => ?_⟩, (s2631.trans s32).tb tb26, fun v5 H33 s33 h5 => ?_⟩
              · rw [List.mem_singleton.mp hr]
                exact ⟨kn _ hpy, hwy, hly⟩
              refine ⟨_, _, (new_at h4).mono s33.kp, new_at h5, _, rfl, ?_⟩
              have e1 : ∀ q : Decidable (out (dlk (lastB (grOf names rules) u)) px = out (dlk (lastB (grOf names rules) u)) py), (!@decide _ q) = false := fun q => by rw [@decide_eq_true _ q eout]; rfl
              rw [e1]
              exact iteF ⟨_, _, _, rfl, (s2631.trans s32).trans s33⟩
            · rintro σ H27 ⟨z9', z15', z16', rfl, s27⟩
              exact ⟨_, _, _, _, _, _, _, _, _, _, _, _, _, _, rfl, s126.trans s27⟩
    · rintro σ H2 ⟨z2, z3, z4, z5, z6, z7, z8, z9, z10, z12, z13, z14, z15, z16, rfl, s2⟩
      exact k _ (s1.trans s2)
end
end SG


set_option Elab.async false
set_option linter.all false
set_option maxRecDepth 100000
set_option maxHeartbeats 16000000
set_option autoImplicit false
/-! The head: the facts that the top leaves, and the promises, def by def. Printed by mkhead.py. -/
namespace SG
open PySem PySem.Spec PyProof.Rows L2 LamX C8
abbrev fnD (x : Str) (i : Nat) : He.DefD := ⟨(x, Option.none), x, x, fnArgs (top i), fnBody (top i), fnScope (top i), [], []⟩
abbrev mtD (C m qual : Str) (st : Stmt) : He.DefD := ⟨(C, some m), m, qual, fnArgs st, fnBody st, fnScope st, [], []⟩
def hfn0 : List He.DefD := [fnD "look_at_names" 7, fnD "each_once" 8, fnD "row_steps" 9, fnD "steps_of" 11, fnD "added_up" 17, fnD "norms" 18, fnD "lessening" 20, fnD "weighed" 21, fnD "put_out" 23, fnD "outs_of" 24, fnD "by_norms" 26, fnD "base_of_norms" 27, fnD "without" 28, fnD "refined" 30, fnD "bases_of" 31, fnD "likeness" 35, fnD "made_of" 36, fnD "is_small" 42, fnD "is_name" 43, fnD "is_letter" 44, fnD "are_names" 45, fnD "_law_digits" 49, fnD "_law_next_of" 50, fnD "_law_called" 51, fnD "_law_drawn" 52, fnD "_law_built" 53, fnD "_law_weighed" 54, fnD "_law_by_first" 55, fnD "_law_put_in" 57, fnD "_law_goes" 58]
def hfn1 : List He.DefD := [fnD "_law_met" 59, fnD "_law_holds" 60, fnD "_law_right" 63, fnD "_law_fit_for" 64, fnD "_law_planted" 65, fnD "_law_exchanged" 66, fnD "law" 67, mtD "Grammar" "__init__" "Grammar.__init__" (inClass (top 46) 0), mtD "Grammar" "lets_by" "Grammar.lets_by" (inClass (top 46) 1), mtD "Grammar" "names" "Grammar.names" (inClass (top 46) 2), mtD "Grammar" "has" "Grammar.has" (inClass (top 46) 3), mtD "Grammar" "rules_of" "Grammar.rules_of" (inClass (top 46) 4), mtD "Refining" "__init__" "Refining.__init__" (inClass (top 29) 0), mtD "Refining" "lessened" "Refining.lessened" (inClass (top 29) 1), mtD "Refining" "candidates" "Refining.candidates" (inClass (top 29) 2), mtD "Refining" "passes" "Refining.passes" (inClass (top 29) 3), mtD "Refining" "outs_by" "Refining.outs_by" (inClass (top 29) 4), mtD "Refining" "take" "Refining.take" (inClass (top 29) 5)]
def hfn : List He.DefD := hfn0 ++ hfn1
def hfa0 : List He.Fa := [.glo "look_at_names", .glo "each_once", .glo "row_steps", .glo "steps_of", .glo "added_up", .glo "norms", .glo "lessening", .glo "weighed", .glo "put_out", .glo "outs_of", .glo "by_norms", .glo "base_of_norms", .glo "without", .glo "refined", .glo "bases_of", .glo "likeness", .glo "made_of", .glo "is_small", .glo "is_name", .glo "is_letter", .glo "are_names", .glo "_law_digits", .glo "_law_next_of", .glo "_law_called", .glo "_law_drawn", .glo "_law_built", .glo "_law_weighed", .glo "_law_by_first", .glo "_law_put_in", .glo "_law_goes"]
def hfa1 : List He.Fa := [.glo "_law_met", .glo "_law_holds", .glo "_law_right", .glo "_law_fit_for", .glo "_law_planted", .glo "_law_exchanged", .glo "law", .glo "Grammar", .cls "Grammar", .mkr "Grammar", .glo "Refining", .cls "Refining", .mkr "Refining", .noat "Grammar" "known", .noat "Grammar" "stored", .noat "Grammar" "order", .noat "Refining" "grammar", .noat "Refining" "kind", .noat "Refining" "known", .noat "Refining" "old", .noat "Refining" "base", .noat "Refining" "firsts", .meth "Grammar" "lets_by", .meth "Grammar" "names", .meth "Grammar" "has", .meth "Grammar" "rules_of", .meth "Refining" "lessened", .meth "Refining" "candidates", .meth "Refining" "passes", .meth "Refining" "outs_by"]
def hfa2 : List He.Fa := [.meth "Refining" "take", .free "len", .free "sorted", .free "all", .free "sum", .free "max", .free "min", .free "set", .free "dict", .free "list", .free "tuple", .free "range", .free "enumerate", .free "isinstance", .int "MOST_NORM" 12, .int "MOST_ROW_NORM" 24, .int "MOST_BAG_NORM" 16, .int "MOST_NAMES" 6, .int "MOST_RULES" 4, .int "MOST_ROW" 3, .str "SMALL" "abcdefghijklmnopqrstuvwxyz"]
def hfa : List He.Fa := hfa0 ++ hfa1 ++ hfa2
def hloose0 : List Str := ["GoError", "NoGrammar", "NoName", "Endless", "TooLarge", "look_at_names", "each_once", "row_steps", "bag_steps", "steps_of", "answers_to", "MOST_NORM", "MOST_ROW_NORM", "MOST_BAG_NORM", "added_up", "norms", "endless", "lessening", "weighed", "put_out", "outs_of", "by_norms", "base_of_norms", "without", "Refining", "refined", "bases_of", "Parting", "as_kind", "likeness"]
def hloose1 : List Str := ["made_of", "SMALL", "MOST_NAMES", "MOST_RULES", "MOST_ROW", "is_small", "is_name", "is_letter", "are_names", "Grammar", "_law_cell", "_law_digits", "_law_next_of", "_law_called", "_law_drawn", "_law_built", "_law_weighed", "_law_by_first", "_law_by_any", "_law_put_in", "_law_goes", "_law_met", "_law_holds", "_law_sum_of", "_law_parts", "_law_right", "_law_fit_for", "_law_planted", "_law_exchanged"]
def hloose : List Str := hloose0 ++ hloose1
abbrev byN : He.Defn := ("by_norms", Option.none)
def tabT (K : PySem.W.Frag) : List (Addr × Str) := [((He.cT K byN).2, lamQ)]
section
variable {P : Program} {w : World} {K : PySem.W.Frag} {h base : Heap} {mg : Str → Option Value} {T : List (Addr × Str)} {C CR : Addr}
theorem fun_of {x qual : Str} {st : Stmt} {f : Addr} {fd : FuncData} (F : FunD K x qual (fnArgs st) (fnBody st) (fnScope st) [] [] f fd) : C8.Fun K x qual st f fd := by
  obtain ⟨oc, od, dV, kV, doc, pm, an, cdv, ct, osl, e, lk, hc, _, _⟩ := F.ex
  exact ⟨oc, od, dV, kV, doc, pm, an, cdv, ct, osl, e, lk, hc⟩
abbrev BindH (x qual : Str) (st : Stmt) (ps : List Str) : Prop := ∀ (kV doc pm : Value) (an : Option Addr) (cdv ct : Value) (us : List Value), us.length = ps.length → bindArgs (PySem.W.fnOf x qual (fnArgs st) (fnBody st) (fnScope st) .none kV doc pm an cdv ct) ⟨us, []⟩ = pure (ps.zip us)
theorem defB_of (X : K.In h) (G : h.Ns mainGlobals mg) (c : He.SaysD hfa hfn K) (i : Nat) {x : Str} {n : Nat} {ps : List Str} (hd : hfn[i]? = some (fnD x n)) (hg : hfa[i]? = some (He.Fa.glo x)) (b : BindH x x (top n) ps) : DefB K mg x (top n) ps := by
  obtain ⟨fd, F⟩ := c.def_ i hd
  have F : FunD K x x (fnArgs (top n)) (fnBody (top n)) (fnScope (top n)) [] [] (He.ga K x) fd := F
  exact ⟨_, fd, ⟨fun_of F, He.glo_ok X G (c.fact i hg), F.kp⟩, F.bindsN b⟩
theorem metB_of (c : He.SaysD hfa hfn K) (i j k : Nat) {C m qual : Str} {st : Stmt} {ps : List Str} (hd : hfn[i]? = some (mtD C m qual st)) (hm : hfa[j]? = some (He.Fa.meth C m)) (hc : hfa[k]? = some (He.Fa.cls C)) (b : BindH m qual st ps) : MetB K (He.ga K C) m qual st ps := by
  obtain ⟨fd, F⟩ := c.def_ i hd
  have F : FunD K m qual (fnArgs st) (fnBody st) (fnScope st) [] [] (He.ma K (He.ga K C) m) fd := F
  exact ⟨_, fd, He.cls_ok (c.fact k hc), He.meth_ok (c.fact j hm), fun_of F, F.bindsN b⟩
theorem makB_of (X : K.In h) (G : h.Ns mainGlobals mg) (c : He.SaysD hfa hfn K) (i j k : Nat) {C qual : Str} {st : Stmt} {ps : List Str} (hd : hfn[i]? = some (mtD C "__init__" qual st)) (hm : hfa[j]? = some (He.Fa.mkr C)) (hc : hfa[k]? = some (He.Fa.glo C)) (b : BindH "__init__" qual st ps) :
    MakB K mg C qual (He.ga K C) st ps := by
  obtain ⟨fd, F⟩ := c.def_ i hd
  have F : FunD K "__init__" qual (fnArgs st) (fnBody st) (fnScope st) [] [] (He.ma K (He.ga K C) "__init__") fd := F
  exact ⟨_, fd, He.mkr_ok (c.fact j hm), He.glo_ok X G (c.fact k hc), fun_of F, F.bindsN b⟩
theorem gs_of (X : K.In h) (G : h.Ns mainGlobals mg) (c : He.SaysD hfa hfn K) : Gs mg := ⟨He.free_ok X G (c.fact 61 (f := .free "len") rfl), He.free_ok X G (c.fact 62 (f := .free "sorted") rfl), He.free_ok X G (c.fact 63 (f := .free "all") rfl), He.free_ok X G (c.fact 64 (f := .free "sum") rfl), He.free_ok X G (c.fact 65 (f := .free "max") rfl), He.free_ok X G (c.fact 66 (f := .free "min") rfl), He.free_ok X G (c.fact 67 (f := .free "set") rfl), He.free_ok X G (c.fact 68 (f := .free "dict") rfl), He.free_ok X G (c.fact 69 (f := .free "list") rfl), He.free_ok X G (c.fact 70 (f := .free "tuple") rfl), He.free_ok X G (c.fact 71 (f := .free "range") rfl), He.free_ok X G (c.fact 72 (f := .free "enumerate") rfl), He.free_ok X G (c.fact 73 (f := .free "isinstance") rfl), He.int_ok X G (c.fact 74 (f := .int "MOST_NORM" 12) rfl), He.int_ok X G (c.fact 75 (f := .int "MOST_ROW_NORM" 24) rfl), He.int_ok X G (c.fact 76 (f := .int "MOST_BAG_NORM" 16) rfl), He.str_ok X G (c.fact 80 (f := .str "SMALL" "abcdefghijklmnopqrstuvwxyz") rfl), He.int_ok X G (c.fact 77 (f := .int "MOST_NAMES" 6) rfl), He.int_ok X G (c.fact 78 (f := .int "MOST_RULES" 4) rfl), He.int_ok X G (c.fact 79 (f := .int "MOST_ROW" 3) rfl)⟩
theorem gcls_of (c : He.SaysD hfa hfn K) : GCls K (He.ga K "Grammar") := ⟨He.cls_ok (c.fact 38 (f := .cls "Grammar") rfl), He.noat_ok (c.fact 43 (f := .noat "Grammar" "known") rfl), He.noat_ok (c.fact 44 (f := .noat "Grammar" "stored") rfl), He.noat_ok (c.fact 45 (f := .noat "Grammar" "order") rfl)⟩
theorem rcls_of (c : He.SaysD hfa hfn K) : RCls K (He.ga K "Refining") := ⟨He.cls_ok (c.fact 41 (f := .cls "Refining") rfl), He.noat_ok (c.fact 46 (f := .noat "Refining" "grammar") rfl), He.noat_ok (c.fact 47 (f := .noat "Refining" "kind") rfl), He.noat_ok (c.fact 48 (f := .noat "Refining" "known") rfl), He.noat_ok (c.fact 49 (f := .noat "Refining" "old") rfl), He.noat_ok (c.fact 50 (f := .noat "Refining" "base") rfl), He.noat_ok (c.fact 51 (f := .noat "Refining" "firsts") rfl)⟩
theorem byB_of (X : K.In h) (G : h.Ns mainGlobals mg) (c : He.SaysD hfa hfn K) (TB : TabB base mg (He.cT K byN).1 (He.cT K byN).2) : ByB K mg base (tabT K) := by
  refine ⟨?_, fun p hp => by rw [List.mem_singleton.mp hp]⟩
  obtain ⟨fd, F⟩ := c.def_ 10 (d := fnD "by_norms" 26) rfl
  have F : FunD K "by_norms" "by_norms" (fnArgs (top 26)) (fnBody (top 26)) (fnScope (top 26)) [] [] (He.ga K "by_norms") fd := F
  obtain ⟨oc, od, dV, kV, doc, pm, an, cdv, ct, osl, e, lk, hc, _, _⟩ := id F.ex
  obtain ⟨c0, e0⟩ := He.codeIn_ref hc
  have e1 : fd.code = .ref c0 := by
    rw [e, ← e0]
  have e2 : He.codeOf K byN = c0 := He.codeOf_eq (p := byN) lk e1
  have e3 : (He.cT K byN).1 = c0 := e2
  exact ⟨_, fd, (He.cT K byN).1, (He.cT K byN).2, ⟨fun_of F, He.glo_ok X G (c.fact 10 rfl), F.kp⟩, F.bindsN (fun _ _ _ _ _ _ us hl => match us, hl with | [_, _], _ => rfl), by rw [e3]; exact e1, TB, List.mem_singleton.mpr rfl⟩
theorem all_law (X : K.In h) (G : h.Ns mainGlobals mg) (c : He.SaysD hfa hfn K) (TB : TabB base mg (He.cT K byN).1 (He.cT K byN).2) : BodyOf P w K mg base 11 lawN "law" sLaw (spLaw K (tabT K)) := by
  have S := gs_of X G c
  have gc := gcls_of c
  have rc := rcls_of c
  have cNames : Met P w K mg base 1 (He.ga K "Grammar") "names" (spNames (tabT K) (He.ga K "Grammar")) [] := met_names S gc (metB_of c 39 53 38 (C := "Grammar") (m := "names") (qual := "Grammar.names") (st := inClass (top 46) 2) (ps := ["self"]) rfl rfl rfl (fun _ _ _ _ _ _ us hl => match us, hl with | [_], _ => rfl))
  have cHas : Met P w K mg base 1 (He.ga K "Grammar") "has" (spHas (He.ga K "Grammar")) [] := met_has S gc (metB_of c 40 54 38 (C := "Grammar") (m := "has") (qual := "Grammar.has") (st := inClass (top 46) 3) (ps := ["self", "name"]) rfl rfl rfl (fun _ _ _ _ _ _ us hl => match us, hl with | [_, _], _ => rfl))
  have cRules : Met P w K mg base 1 (He.ga K "Grammar") "rules_of" (spRulesOf (tabT K) (He.ga K "Grammar")) [] := met_rules_of S gc (metB_of c 41 55 38 (C := "Grammar") (m := "rules_of") (qual := "Grammar.rules_of") (st := inClass (top 46) 4) (ps := ["self", "name"]) rfl rfl rfl (fun _ _ _ _ _ _ us hl => match us, hl with | [_, _], _ => rfl))
  have cLook : Cal P w K mg base 2 "look_at_names" (spLook (He.ga K "Grammar")) [] := cal_look S cHas (defB_of X G c 0 (x := "look_at_names") (n := 7) (ps := ["grammar", "row"]) rfl rfl (fun _ _ _ _ _ _ us hl => match us, hl with | [_, _], _ => rfl))
  have cOnce : Cal P w K mg base 1 "each_once" (spOnce (tabT K)) [] := cal_once S (defB_of X G c 1 (x := "each_once") (n := 8) (ps := ["steps"]) rfl rfl (fun _ _ _ _ _ _ us hl => match us, hl with | [_], _ => rfl))
  have cRow : Cal P w K mg base 3 "row_steps" (spRowSteps (tabT K) (He.ga K "Grammar")) [] := cal_row_steps S cLook cOnce cRules (defB_of X G c 2 (x := "row_steps") (n := 9) (ps := ["grammar", "row"]) rfl rfl (fun _ _ _ _ _ _ us hl => match us, hl with | [_, _], _ => rfl))
  have cSteps : Cal P w K mg base 4 "steps_of" (spStepsOf (tabT K) (He.ga K "Grammar")) [] := cal_steps_of S cRow (defB_of X G c 3 (x := "steps_of") (n := 11) (ps := ["grammar", "kind", "one"]) rfl rfl (fun _ _ _ _ _ _ us hl => match us, hl with | [_, _, _], _ => rfl))
  have cAdd : Cal P w K mg base 1 "added_up" (spAddedUp (tabT K)) [] := cal_added_up S (defB_of X G c 4 (x := "added_up") (n := 17) (ps := ["norms", "row"]) rfl rfl (fun _ _ _ _ _ _ us hl => match us, hl with | [_, _], _ => rfl))
  have cPut : Cal P w K mg base 1 "put_out" (spPutOut (tabT K)) [] := cal_put_out S (defB_of X G c 8 (x := "put_out") (n := 23) (ps := ["kind", "base", "one"]) rfl rfl (fun _ _ _ _ _ _ us hl => match us, hl with | [_, _, _], _ => rfl))
  have cOuts : Cal P w K mg base 2 "outs_of" (spOutsOf (tabT K)) [] := cal_outs_of S cOnce cPut (defB_of X G c 9 (x := "outs_of") (n := 24) (ps := ["kind", "base", "steps"]) rfl rfl (fun _ _ _ _ _ _ us hl => match us, hl with | [_, _, _], _ => rfl))
  have cLess : Cal P w K mg base 2 "lessening" (spLess (tabT K) (He.ga K "Grammar")) [] := cal_less S cAdd cRules (defB_of X G c 6 (x := "lessening") (n := 20) (ps := ["grammar", "known", "name"]) rfl rfl (fun _ _ _ _ _ _ us hl => match us, hl with | [_, _, _], _ => rfl))
  have cNorms : Cal P w K mg base 2 "norms" (spNorms (tabT K) (He.ga K "Grammar")) [] := cal_norms S cAdd cNames cRules (defB_of X G c 5 (x := "norms") (n := 18) (ps := ["grammar"]) rfl rfl (fun _ _ _ _ _ _ us hl => match us, hl with | [_], _ => rfl))
  have cWo : Cal P w K mg base 1 "without" (spWithout (tabT K)) [] := cal_without S (defB_of X G c 12 (x := "without") (n := 28) (ps := ["kind", "whole", "part"]) rfl rfl (fun _ _ _ _ _ _ us hl => match us, hl with | [_, _, _], _ => rfl))
  have cBy : Cal P w K mg base 3 "by_norms" (spByNorms (tabT K) (He.ga K "Grammar")) [] := cal_by_norms S cNames (byB_of X G c TB)
  have cBase0 : Cal P w K mg base 4 "base_of_norms" (spBase0 (tabT K) (He.ga K "Grammar")) [] := cal_base0 (j := 3) S cBy (defB_of X G c 11 (x := "base_of_norms") (n := 27) (ps := ["grammar", "known"]) rfl rfl (fun _ _ _ _ _ _ us hl => match us, hl with | [_, _], _ => rfl))
  have cLs : Met P w K mg base 5 (He.ga K "Refining") "lessened" (spLessened (tabT K) (He.ga K "Grammar") (He.ga K "Refining")) [] := met_lessened S rc cAdd cSteps (metB_of c 43 56 41 (C := "Refining") (m := "lessened") (qual := "Refining.lessened") (st := inClass (top 29) 1) (ps := ["self", "one"]) rfl rfl rfl (fun _ _ _ _ _ _ us hl => match us, hl with | [_, _], _ => rfl))
  have cOb : Met P w K mg base 6 (He.ga K "Refining") "outs_by" (spOutsBy (tabT K) (He.ga K "Grammar") (He.ga K "Refining")) [] := met_outs_by S rc cSteps cLs cOuts (metB_of c 46 59 41 (C := "Refining") (m := "outs_by") (qual := "Refining.outs_by") (st := inClass (top 29) 4) (ps := ["self", "base", "one", "less"]) rfl rfl rfl (fun _ _ _ _ _ _ us hl => match us, hl with | [_, _, _, _], _ => rfl))
  have cCa : Met P w K mg base 3 (He.ga K "Refining") "candidates" (spCands (tabT K) (He.ga K "Grammar") (He.ga K "Refining")) [] := met_cands S rc cLess cPut cWo (metB_of c 44 57 41 (C := "Refining") (m := "candidates") (qual := "Refining.candidates") (st := inClass (top 29) 2) (ps := ["self", "name"]) rfl rfl rfl (fun _ _ _ _ _ _ us hl => match us, hl with | [_, _], _ => rfl))
  have cPa : Met P w K mg base 7 (He.ga K "Refining") "passes" (spPasses (tabT K) (He.ga K "Grammar") (He.ga K "Refining")) [] := met_passes S rc cPut cOb (metB_of c 45 58 41 (C := "Refining") (m := "passes") (qual := "Refining.passes") (st := inClass (top 29) 3) (ps := ["self", "name", "making"]) rfl rfl rfl (fun _ _ _ _ _ _ us hl => match us, hl with | [_, _, _], _ => rfl))
  have cTake : Met P w K mg base 8 (He.ga K "Refining") "take" (spTake (tabT K) (He.ga K "Grammar") (He.ga K "Refining")) [] := met_take S rc cCa cPa (metB_of c 47 60 41 (C := "Refining") (m := "take") (qual := "Refining.take") (st := inClass (top 29) 5) (ps := ["self", "name"]) rfl rfl rfl (fun _ _ _ _ _ _ us hl => match us, hl with | [_, _], _ => rfl))
  have cMk : Mak P w K mg base 1 "Refining" (He.ga K "Refining") (spRInit (He.ga K "Refining")) [] := mak_ref S rc (makB_of X G c 42 42 40 (C := "Refining") (qual := "Refining.__init__") (st := inClass (top 29) 0) (ps := ["self", "grammar", "kind", "known", "old"]) rfl rfl rfl (fun _ _ _ _ _ _ us hl => match us, hl with | [_, _, _, _, _], _ => rfl))
  have cRef : Cal P w K mg base 9 "refined" (spRefined (tabT K) (He.ga K "Grammar")) [] := cal_refined S rc cMk cTake cBy (defB_of X G c 13 (x := "refined") (n := 30) (ps := ["grammar", "kind", "known", "old"]) rfl rfl (fun _ _ _ _ _ _ us hl => match us, hl with | [_, _, _, _], _ => rfl))
  have cBs : Cal P w K mg base 10 "bases_of" (spBasesOf (tabT K) (He.ga K "Grammar")) [] := cal_bases_of S cBase0 cRef (defB_of X G c 14 (x := "bases_of") (n := 31) (ps := ["grammar", "kind", "known"]) rfl rfl (fun _ _ _ _ _ _ us hl => match us, hl with | [_, _, _], _ => rfl))
  have cW : Cal P w K mg base 3 "weighed" (spWeighed (tabT K) (He.ga K "Grammar")) [] := cal_weighed S cLook cNorms cAdd (defB_of X G c 7 (x := "weighed") (n := 21) (ps := ["grammar", "kind", "rows"]) rfl rfl (fun _ _ _ _ _ _ us hl => match us, hl with | [_, _, _], _ => rfl))
  have cLi : Cal P w K mg base 11 "likeness" (spLike (tabT K) (He.ga K "Grammar")) [] := cal_like S cW cBs cPut (defB_of X G c 15 (x := "likeness") (n := 35) (ps := ["grammar", "kind", "one", "other"]) rfl rfl (fun _ _ _ _ _ _ us hl => match us, hl with | [_, _, _, _], _ => rfl))
  have cMa : Cal P w K mg base 11 "made_of" (spMadeOf (tabT K) (He.ga K "Grammar")) [] := cal_made_of S cW cBs cPut (defB_of X G c 16 (x := "made_of") (n := 36) (ps := ["grammar", "kind", "one"]) rfl rfl (fun _ _ _ _ _ _ us hl => match us, hl with | [_, _, _], _ => rfl))
  have cSm : Cal P w K mg base 1 "is_small" (spSmall (tabT K)) [] := cal_small S (defB_of X G c 17 (x := "is_small") (n := 42) (ps := ["text"]) rfl rfl (fun _ _ _ _ _ _ us hl => match us, hl with | [_], _ => rfl))
  have cNm : Cal P w K mg base 2 "is_name" (spIsName (tabT K)) [] := cal_is_name S cSm (defB_of X G c 18 (x := "is_name") (n := 43) (ps := ["text"]) rfl rfl (fun _ _ _ _ _ _ us hl => match us, hl with | [_], _ => rfl))
  have cLt : Cal P w K mg base 2 "is_letter" (spIsLetter (tabT K)) [] := cal_is_letter S cSm (defB_of X G c 19 (x := "is_letter") (n := 44) (ps := ["text"]) rfl rfl (fun _ _ _ _ _ _ us hl => match us, hl with | [_], _ => rfl))
  have cAn : Cal P w K mg base 3 "are_names" (spAreNames (tabT K)) [] := cal_are_names S cNm (defB_of X G c 20 (x := "are_names") (n := 45) (ps := ["names"]) rfl rfl (fun _ _ _ _ _ _ us hl => match us, hl with | [_], _ => rfl))
  have cLb : Met P w K mg base 3 (He.ga K "Grammar") "lets_by" (spLetsBy (tabT K) (He.ga K "Grammar")) [] := met_lets_by S gc cLt (metB_of c 38 52 38 (C := "Grammar") (m := "lets_by") (qual := "Grammar.lets_by") (st := inClass (top 46) 1) (ps := ["self", "rule"]) rfl rfl rfl (fun _ _ _ _ _ _ us hl => match us, hl with | [_, _], _ => rfl))
  have cGr : Mak P w K mg base 4 "Grammar" (He.ga K "Grammar") (spGInit (tabT K) (He.ga K "Grammar")) [] := mak_gram S gc cAn cLb (makB_of X G c 37 39 37 (C := "Grammar") (qual := "Grammar.__init__") (st := inClass (top 46) 0) (ps := ["self", "names", "rules"]) rfl rfl rfl (fun _ _ _ _ _ _ us hl => match us, hl with | [_, _, _], _ => rfl))
  have cDig : Cal P w K mg base 1 "_law_digits" (spDigits (tabT K)) [] := cal_digits S (defB_of X G c 21 (x := "_law_digits") (n := 49) (ps := ["_law_cell_here", "_law_many"]) rfl rfl (fun _ _ _ _ _ _ us hl => match us, hl with | [_, _], _ => rfl))
  have cNx : Cal P w K mg base 1 "_law_next_of" (spNextOf (tabT K)) [] := cal_next_of S (defB_of X G c 22 (x := "_law_next_of") (n := 50) (ps := ["_law_state"]) rfl rfl (fun _ _ _ _ _ _ us hl => match us, hl with | [_], _ => rfl))
  have cCd : Cal P w K mg base 2 "_law_called" (spCalled (tabT K)) [] := cal_called S cNx (defB_of X G c 23 (x := "_law_called") (n := 51) (ps := ["_law_state", "_law_many"]) rfl rfl (fun _ _ _ _ _ _ us hl => match us, hl with | [_, _], _ => rfl))
  have cDr : Cal P w K mg base 2 "_law_drawn" (spDrawn (tabT K)) [] := cal_drawn S cNx (defB_of X G c 24 (x := "_law_drawn") (n := 52) (ps := ["_law_state", "_law_names", "_law_most"]) rfl rfl (fun _ _ _ _ _ _ us hl => match us, hl with | [_, _, _], _ => rfl))
  have cBu : Cal P w K mg base 3 "_law_built" (spBuilt (tabT K)) [] := cal_built S cDig cNx cCd cDr (defB_of X G c 25 (x := "_law_built") (n := 53) (ps := ["_law_cell_here", "_law_many"]) rfl rfl (fun _ _ _ _ _ _ us hl => match us, hl with | [_, _], _ => rfl))
  have cWe : Cal P w K mg base 1 "_law_weighed" (spWeigh (tabT K)) [] := cal_weigh S (defB_of X G c 26 (x := "_law_weighed") (n := 54) (ps := ["_law_names", "_law_rules"]) rfl rfl (fun _ _ _ _ _ _ us hl => match us, hl with | [_, _], _ => rfl))
  have cBF : Cal P w K mg base 1 "_law_by_first" (spByFirst (tabT K)) [] := cal_by_first S (defB_of X G c 27 (x := "_law_by_first") (n := 55) (ps := ["_law_rules", "_law_row"]) rfl rfl (fun _ _ _ _ _ _ us hl => match us, hl with | [_, _], _ => rfl))
  have cPI : Cal P w K mg base 1 "_law_put_in" (spPutIn (tabT K)) [] := cal_put_in S (defB_of X G c 28 (x := "_law_put_in") (n := 57) (ps := ["_law_kind", "_law_base", "_law_one"]) rfl rfl (fun _ _ _ _ _ _ us hl => match us, hl with | [_, _, _], _ => rfl))
  have cGo : Cal P w K mg base 2 "_law_goes" (spGoes (tabT K)) [] := cal_goes S cBF (defB_of X G c 29 (x := "_law_goes") (n := 58) (ps := ["_law_rules", "_law_kind", "_law_one"]) rfl rfl (fun _ _ _ _ _ _ us hl => match us, hl with | [_, _, _], _ => rfl))
  have cMe : Cal P w K mg base 3 "_law_met" (spMet (tabT K)) [] := cal_met S cGo cPI (defB_of X G c 30 (x := "_law_met") (n := 59) (ps := ["_law_rules", "_law_kind", "_law_base", "_law_one", "_law_other"]) rfl rfl (fun _ _ _ _ _ _ us hl => match us, hl with | [_, _, _, _, _], _ => rfl))
  have cHo : Cal P w K mg base 4 "_law_holds" (spHolds (tabT K)) [] := cal_holds S cMe (defB_of X G c 31 (x := "_law_holds") (n := 60) (ps := ["_law_names", "_law_rules", "_law_kind", "_law_base"]) rfl rfl (fun _ _ _ _ _ _ us hl => match us, hl with | [_, _, _, _], _ => rfl))
  have cRi : Cal P w K mg base 5 "_law_right" (spRight (tabT K)) [] := cal_right S cHo cPI (defB_of X G c 32 (x := "_law_right") (n := 63) (ps := ["_law_names", "_law_rules", "_law_kind", "_law_weights", "_law_one", "_law_other", "_law_found"]) rfl rfl (fun _ _ _ _ _ _ us hl => match us, hl with | [_, _, _, _, _, _, _], _ => rfl))
  have cFi : Cal P w K mg base 3 "_law_fit_for" (spFit (tabT K)) [] := cal_fit S cGo (defB_of X G c 33 (x := "_law_fit_for") (n := 64) (ps := ["_law_names", "_law_rules", "_law_weights", "_law_kind", "_law_one"]) rfl rfl (fun _ _ _ _ _ _ us hl => match us, hl with | [_, _, _, _, _], _ => rfl))
  have cEx : Cal P w K mg base 1 "_law_exchanged" (spExch (tabT K)) [] := cal_exch S (defB_of X G c 35 (x := "_law_exchanged") (n := 66) (ps := ["_law_makings", "_law_row", "_law_digits_here"]) rfl rfl (fun _ _ _ _ _ _ us hl => match us, hl with | [_, _, _], _ => rfl))
  have cPl : Cal P w K mg base 4 "_law_planted" (spPlanted (tabT K)) [] := cal_planted S cDig cBu cWe cFi (defB_of X G c 34 (x := "_law_planted") (n := 65) (ps := ["_law_cell_here", "_law_kind"]) rfl rfl (fun _ _ _ _ _ _ us hl => match us, hl with | [_, _], _ => rfl))
  exact body_law S cPl cWe cGr cDig cEx cLi cRi cMa
abbrev hk : PySem.W.Hook := He.hookX 4 hfa hfn [] [byN] (fun _ => true)
def hob (s : PySem.W.SharedT) : He.AlX := He.obsX 4 hfa hfn [] [byN] (fun _ => true) (HandSHeadRun.getT s)
theorem hob_eq (s : PySem.W.SharedT) : hob s = hk.obs s.abs := He.obsX_eq (HandSHeadRun.getT_eq s)
theorem law_at {fa : Addr} (Y : hk.says w h) (G : h.Ns mainGlobals mg) (hmg : mg "law" = some (.ref fa)) : ∃ K : PySem.W.Frag, K.In h ∧ LamX.LawAtS PySem.Challenge.rw_samegoing_k35_whole_planted_likeness w K C8.CX0 12 63 "_law_script" mg fa h := by
  obtain ⟨K, X, d⟩ := Y
  have c := d.t.d
  obtain ⟨fd, F⟩ := c.def_ 36 (d := fnD "law" 67) rfl
  have F : FunD K "law" "law" (fnArgs (top 67)) (fnBody (top 67)) (fnScope (top 67)) [] [] (He.ga K "law") fd := F
  have e := hmg.symm.trans (He.glo_ok X G (c.fact 36 (f := .glo "law") rfl))
  have e : fa = He.ga K "law" := by
    injection e with e
    injection e
  subst e
  have hb : BindH "law" "law" (top 67) ["_law_script"] := (fun _ _ _ _ _ _ us hl => match us, hl with | [_], _ => rfl)
  refine ⟨K, X, fd, [He.cT K byN], spLaw K (tabT K), ?_, ?_, ?_, fun s u => F.bindsA (ps := ["_law_script"]) hb s [u] rfl, ?_, ?_⟩
  · intro p hp
    rw [List.mem_singleton.mp hp]
    exact d.empty _ (List.mem_singleton.mpr rfl)
  · intro p hp
    rw [List.mem_singleton.mp hp]
    exact d.out _ (List.mem_singleton.mpr rfl)
  · intro p hp
    rw [List.mem_singleton.mp hp]
    exact PySem.W.codeHd_of_K X (d.hd _ (List.mem_singleton.mpr rfl))
  · intro H a ns hl _ hH hS
    refine ⟨a, ns, rfl, hS, by omega, fun p hp => ?_, fun H' _ => rfl⟩
    rw [List.mem_singleton.mp hp]
    exact TabS.nil (hH _ (List.mem_singleton.mpr rfl))
  · intro base KB GB TB
    refine fn0 (fun_of F) scLaw (fun vs H Q E h => ?_) (fun cdv A outer s H vs Q E hr h => all_law KB GB c (TB _ (List.mem_singleton.mpr rfl)) _ cdv A outer s H vs Q E hr h)
    obtain ⟨a, cs, rfl, _⟩ := h
    rfl
end
end SG

set_option Elab.async false
set_option linter.all false
set_option maxRecDepth 100000
set_option maxHeartbeats 0
/-! The run of the top. -/
namespace SG
open PySem PySem.W PySem.Calls PyProof.Rows
abbrev hR : OpenRow := OpenLaw.row PySem.Challenge.rw_samegoing_k35_whole_planted_likeness
theorem hrun (w : World) : HandSHeadRun.RunEq hR (view hR.prog [67]) hk hob 4200 hloose w := by
  intro os
  kernel_rfl
end SG

set_option Elab.async false
set_option linter.all false
set_option maxRecDepth 100000
set_option maxHeartbeats 0
open PySem PySem.W PySem.Calls PyProof.Rows
theorem PySem.Challenge.cw_samegoing_k35_whole_planted_likeness_holds : PySem.Challenge.rw_samegoing_k35_whole_planted_likeness.Holds := by
  w_on; o_law
  refine HandSHeadRun.head_any (r := OpenLaw.row PySem.Challenge.rw_samegoing_k35_whole_planted_likeness) (q := view (OpenLaw.row PySem.Challenge.rw_samegoing_k35_whole_planted_likeness).prog [67]) (H := SG.hk) (ob := SG.hob) (M := 4200) (loose := SG.hloose) (d := HandSHeadRun.topDef (OpenLaw.row PySem.Challenge.rw_samegoing_k35_whole_planted_likeness).prog 67) (kwd := []) SG.hob_eq
    (by kernel_rfl) (fun s => by kernel_rfl) SG.hrun (by kernel_rfl) (by kernel_rfl) (by kernel_rfl) (by rfl) (by first | assumption | decide +kernel) (by decide +kernel) ⟨rfl, rfl, rfl, rfl, rfl, by decide +kernel⟩ ?hw ?hc
  case hw => w_witness2
  case hc =>
    refine LamX.walk_ofTsE (l := PySem.Challenge.rw_samegoing_k35_whole_planted_likeness) (n := 63) (k := 12) (x := "_law_script") (CX := fun _ => C8.CX0) rfl (by decide) (by kernel_rfl) ⟨rfl, by decide, by decide⟩ ?F (fun _ _ _ _ _ z => z)
    intro w mg fa h Y G hmg0
    have hmg : mg ("law" : PySem.Str) = some (.ref fa) := by
      have e : (HandSHeadRun.topDef (OpenLaw.row PySem.Challenge.rw_samegoing_k35_whole_planted_likeness).prog 67).name = ("law" : PySem.Str) := by kernel_rfl
      rw [← e]
      exact hmg0
    exact SG.law_at Y G hmg

