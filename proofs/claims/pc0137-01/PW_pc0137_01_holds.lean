import PyProof.Rows.All
import Wide.All
import OpenK.AllK
import Wide.FinOn
import Lean
import PySem.Challenge.RW_pc0137_01
set_option Elab.async false
set_option maxHeartbeats 8000000
set_option maxRecDepth 100000
set_option autoImplicit false
set_option genSizeOf false
set_option genInjectivity false
set_option linter.all false
set_option pp.deepTerms false
set_option pp.maxSteps 3000
namespace Mine
inductive NE where
  | v (i : Nat) | c (n : Nat) | a (x y : NE) | m (k : Nat) (x : NE)
inductive IE where
  | v (i : Nat) | n (x : NE) | c (z : Int) | a (x y : IE) | s (x y : IE) | m (k : Int) (x : IE)
inductive LF where
  | nl (x y : NE) | ne (x y : NE) | il (x y : IE) | ie (x y : IE) | nt (x y : NE) | it (x y : IE)
noncomputable def atN : List Nat → Nat → Nat
  | [], _ => 0 | x :: _, 0 => x | _ :: r, i + 1 => atN r i
noncomputable def atZ : List Int → Nat → Int
  | [], _ => 0 | x :: _, 0 => x | _ :: r, i + 1 => atZ r i
noncomputable def NE.d (ns : List Nat) : NE → Nat
  | .v i => atN ns i | .c n => n | .a x y => x.d ns + y.d ns | .m k x => k * x.d ns
noncomputable def IE.d (ns : List Nat) (zs : List Int) : IE → Int
  | .v i => atZ zs i | .n x => ((x.d ns : Nat) : Int) | .c z => z | .a x y => x.d ns zs + y.d ns zs | .s x y => x.d ns zs - y.d ns zs | .m k x => k * x.d ns zs
noncomputable def LF.d (ns : List Nat) (zs : List Int) : LF → Prop
  | .nl x y => x.d ns ≤ y.d ns | .ne x y => x.d ns = y.d ns | .il x y => x.d ns zs ≤ y.d ns zs | .ie x y => x.d ns zs = y.d ns zs
  | .nt x y => x.d ns < y.d ns | .it x y => x.d ns zs < y.d ns zs
noncomputable abbrev Ve := List Int
noncomputable def vadd : Ve → Ve → Ve
  | [], q => q | p, [] => p | x :: p, y :: q => (x + y) :: vadd p q
noncomputable def vmul (k : Int) (p : Ve) : Ve := p.map (k * ·)
noncomputable def dot : Ve → List Int → Int
  | x :: p, y :: q => x * y + dot p q | _, _ => 0
noncomputable def unit : Nat → Ve
  | 0 => [1] | n + 1 => 0 :: unit n
structure Fm where
  p : Ve
  q : Ve
  c : Int
noncomputable def Fm.d (ns : List Nat) (zs : List Int) (f : Fm) : Int := dot f.p (ns.map fun (n : Nat) => (n : Int)) + dot f.q zs + f.c
noncomputable def Fm.add (f g : Fm) : Fm := ⟨vadd f.p g.p, vadd f.q g.q, f.c + g.c⟩
noncomputable def Fm.mul (k : Int) (f : Fm) : Fm := ⟨vmul k f.p, vmul k f.q, k * f.c⟩
noncomputable def NE.f : NE → Fm
  | .v i => ⟨unit i, [], 0⟩ | .c n => ⟨[], [], n⟩ | .a x y => x.f.add y.f | .m k x => x.f.mul k
noncomputable def IE.f : IE → Fm
  | .v i => ⟨[], unit i, 0⟩ | .n x => x.f | .c z => ⟨[], [], z⟩ | .a x y => x.f.add y.f | .s x y => x.f.add (y.f.mul (-1)) | .m k x => x.f.mul k
theorem dot_add (p q : Ve) : ∀ xs, dot (vadd p q) xs = dot p xs + dot q xs := by
  induction p generalizing q with
  | nil => intro xs; cases q <;> simp [vadd, dot]
  | cons x p ih =>
    intro xs
    cases q with
    | nil => simp [vadd, dot]
    | cons y q =>
      cases xs with
      | nil => simp [vadd, dot]
      | cons z xs => simp only [vadd, dot, ih, Int.add_mul]; omega
theorem dot_mul (k : Int) (p : Ve) : ∀ xs, dot (vmul k p) xs = k * dot p xs := by
  induction p with
  | nil => intro xs; simp [vmul, dot]
  | cons x p ih =>
    intro xs
    cases xs with
    | nil => simp [vmul, dot]
    | cons z xs =>
      have := ih xs
      simp only [vmul, List.map_cons, dot] at this ⊢
      rw [this, Int.mul_add, Int.mul_assoc]
theorem dot_unitN (ns : List Nat) : ∀ i, dot (unit i) (ns.map fun (n : Nat) => (n : Int)) = (atN ns i : Nat) := by
  induction ns with
  | nil => intro i; cases i <;> simp [unit, dot, atN]
  | cons x r ih =>
    intro i
    cases i with
    | zero => simp [unit, dot, atN]
    | succ i => simp [unit, dot, atN, ih]
theorem dot_unitZ (ns : List Int) : ∀ i, dot (unit i) ns = atZ ns i := by
  induction ns with
  | nil => intro i; cases i <;> simp [unit, dot, atZ]
  | cons x r ih =>
    intro i
    cases i with
    | zero => simp [unit, dot, atZ]
    | succ i => simp [unit, dot, atZ, ih]
theorem dot_nil (xs : List Int) : dot [] xs = 0 := by cases xs <;> rfl
theorem Fm.d_add (ns : List Nat) (zs : List Int) (f g : Fm) : (f.add g).d ns zs = f.d ns zs + g.d ns zs := by
  simp only [Fm.add, Fm.d, dot_add]; omega
theorem Fm.d_mul (ns : List Nat) (zs : List Int) (k : Int) (f : Fm) : (f.mul k).d ns zs = k * f.d ns zs := by
  simp only [Fm.mul, Fm.d, dot_mul, Int.mul_add]
theorem NE.ok (ns : List Nat) (zs : List Int) : ∀ e : NE, e.f.d ns zs = (e.d ns : Nat)
  | .v i => by simp [NE.f, Fm.d, dot_unitN, dot_nil, NE.d]
  | .c n => by simp [NE.f, Fm.d, dot_nil, NE.d]
  | .a x y => by simp [NE.f, Fm.d_add, NE.ok ns zs x, NE.ok ns zs y, NE.d]
  | .m k x => by simp [NE.f, Fm.d_mul, NE.ok ns zs x, NE.d]
theorem IE.ok (ns : List Nat) (zs : List Int) : ∀ e : IE, e.f.d ns zs = e.d ns zs
  | .v i => by simp [IE.f, Fm.d, dot_unitZ, dot_nil, IE.d]
  | .n x => by simp [IE.f, NE.ok, IE.d]
  | .c z => by simp [IE.f, Fm.d, dot_nil, IE.d]
  | .a x y => by simp [IE.f, Fm.d_add, IE.ok ns zs x, IE.ok ns zs y, IE.d]
  | .s x y => by simp [IE.f, Fm.d_add, Fm.d_mul, IE.ok ns zs x, IE.ok ns zs y, IE.d]; omega
  | .m k x => by simp [IE.f, Fm.d_mul, IE.ok ns zs x, IE.d]
noncomputable def diff (x y : Fm) (k : Int) : Fm := (y.add (x.mul (-1))).add ⟨[], [], k⟩
theorem diff_d (ns : List Nat) (zs : List Int) (x y : Fm) (k : Int) : (diff x y k).d ns zs = y.d ns zs - x.d ns zs + k := by
  unfold diff
  rw [Fm.d_add, Fm.d_add, Fm.d_mul, show Fm.d ns zs ⟨[], [], k⟩ = k by simp [Fm.d, dot_nil]]
  omega
noncomputable def LF.f : LF → Fm × Bool
  | .nl x y => (diff x.f y.f 0, false) | .ne x y => (diff x.f y.f 0, true) | .il x y => (diff x.f y.f 0, false) | .ie x y => (diff x.f y.f 0, true)
  | .nt x y => (diff x.f y.f (-1), false) | .it x y => (diff x.f y.f (-1), false)
theorem LF.ok {ns : List Nat} {zs : List Int} : ∀ {l : LF}, l.d ns zs → 0 ≤ l.f.1.d ns zs ∧ (l.f.2 = true → l.f.1.d ns zs = 0)
  | .nl x y, h => by have h' : x.d ns ≤ y.d ns := h; simp only [LF.f, diff_d, NE.ok]; exact ⟨by omega, fun q => by cases q⟩
  | .ne x y, h => by have h' : x.d ns = y.d ns := h; simp only [LF.f, diff_d, NE.ok]; omega
  | .il x y, h => by have h' : x.d ns zs ≤ y.d ns zs := h; simp only [LF.f, diff_d, IE.ok]; exact ⟨by omega, fun q => by cases q⟩
  | .ie x y, h => by have h' : x.d ns zs = y.d ns zs := h; simp only [LF.f, diff_d, IE.ok]; omega
  | .nt x y, h => by have h' : x.d ns < y.d ns := h; simp only [LF.f, diff_d, NE.ok]; exact ⟨by omega, fun q => by cases q⟩
  | .it x y, h => by have h' : x.d ns zs < y.d ns zs := h; simp only [LF.f, diff_d, IE.ok]; exact ⟨by omega, fun q => by cases q⟩
noncomputable def LF.neg : LF → Option LF
  | .nl x y => some (.nt y x) | .il x y => some (.it y x) | .nt x y => some (.nl y x) | .it x y => some (.il y x) | _ => none
noncomputable def sums : List LF → List Int → Option Fm
  | [], _ => some ⟨[], [], 0⟩
  | _ :: _, [] => some ⟨[], [], 0⟩
  | l :: r, k :: ks => if l.f.2 || decide (0 ≤ k) then (match sums r ks with | some s => some ((l.f.1.mul k).add s) | none => none) else none
noncomputable def bad (f : Fm) : Bool := f.p.all (fun k => decide (k ≤ 0)) && (f.q.all (fun k => k == 0) && decide (f.c < 0))
noncomputable def chk (ls : List LF) (ks : List Int) : Bool := match sums ls ks with | some s => bad s | none => false
theorem sums_ok {ns : List Nat} {zs : List Int} : ∀ {ls : List LF} {ks : List Int} {s : Fm}, (∀ l ∈ ls, l.d ns zs) → sums ls ks = some s → 0 ≤ s.d ns zs
  | [], _, s, _, h => by cases h; simp [Fm.d, dot_nil]
  | _ :: _, [], s, _, h => by cases h; simp [Fm.d, dot_nil]
  | l :: r, k :: ks, s, hl, h => by
    simp only [sums] at h
    split at h
    · rename_i hk
      cases e : sums r ks with
      | none => rw [e] at h; cases h
      | some t =>
        rw [e] at h
        cases h
        have a := sums_ok (fun l m => hl l (.tail _ m)) e
        obtain ⟨b, c⟩ := LF.ok (hl l (.head _))
        rw [Fm.d_add, Fm.d_mul]
        rcases Bool.or_eq_true_iff.1 hk with q | q
        · rw [c q]; omega
        · have := Int.mul_nonneg (of_decide_eq_true q) b; omega
    · cases h
theorem dot_neg : ∀ (p : Ve) (ns : List Nat), p.all (fun k => decide (k ≤ 0)) = true → dot p (ns.map fun (n : Nat) => (n : Int)) ≤ 0
  | [], ns, _ => by rw [dot_nil]; exact Int.le_refl _
  | x :: p, [], _ => by simp [dot]
  | x :: p, n :: ns, h => by
    rw [List.all_cons, Bool.and_eq_true] at h
    have a := dot_neg p ns h.2
    have b := Int.mul_nonneg (a := -x) (b := (n : Int)) (by have := of_decide_eq_true h.1; omega) (Int.natCast_nonneg _)
    have c : -x * (n : Int) = -(x * n) := Int.neg_mul _ _
    show x * (n : Int) + dot p _ ≤ 0
    omega
theorem dot_zero : ∀ (p : Ve) (zs : List Int), p.all (fun k => k == 0) = true → dot p zs = 0
  | [], zs, _ => dot_nil _
  | x :: p, [], _ => by simp [dot]
  | x :: p, n :: ns, h => by
    rw [List.all_cons, Bool.and_eq_true] at h
    have a := dot_zero p ns h.2
    have b : x = 0 := by simpa using h.1
    show x * n + dot p ns = 0
    rw [a, b]; simp
theorem chk_ok {ns : List Nat} {zs : List Int} {ls : List LF} {ks : List Int} (h : chk ls ks = true) (hl : ∀ l ∈ ls, l.d ns zs) : False := by
  unfold chk at h
  split at h
  · rename_i s e
    have a := sums_ok hl e
    unfold bad at h
    rw [Bool.and_eq_true, Bool.and_eq_true] at h
    have b := dot_neg s.p ns h.1
    have c := dot_zero s.q zs h.2.1
    have d := of_decide_eq_true h.2.2
    unfold Fm.d at a
    omega
  · cases h
noncomputable def imp (ns : List Nat) (zs : List Int) : List LF → Prop → Prop
  | [], g => g | l :: r, g => l.d ns zs → imp ns zs r g
theorem imp_of {ns : List Nat} {zs : List Int} {g : Prop} : ∀ (ls : List LF), ((∀ l ∈ ls, l.d ns zs) → g) → imp ns zs ls g
  | [], h => h fun _ q => nomatch q
  | l :: r, h => fun hl => imp_of r fun hr => h fun x m => by
      cases m with
      | head => exact hl
      | tail _ m => exact hr x m
theorem linF (ns : List Nat) (zs : List Int) (ls : List LF) (ks : List Int) (h : chk ls ks = true) : imp ns zs ls False := imp_of ls (chk_ok h)
theorem linG (ns : List Nat) (zs : List Int) (ls : List LF) (g : LF) (ks : List Int) (h : (match g.neg with | some n => chk (n :: ls) ks | none => false) = true) : imp ns zs ls (g.d ns zs) := imp_of ls fun hl => by
  have go : ∀ n, g.neg = some n → (n.d ns zs → False) → g.d ns zs := fun n e k => by
    cases g with
    | nl x y => cases e; exact Nat.le_of_not_lt k
    | nt x y => cases e; exact Nat.lt_of_not_le k
    | il x y => cases e; exact Int.not_lt.1 k
    | it x y => cases e; exact Int.not_le.1 k
    | ne x y => cases e
    | ie x y => cases e
  split at h
  · rename_i n e
    exact go n e fun hn => chk_ok h fun l m => by
      cases m with
      | head => exact hn
      | tail _ m => exact hl l m
  · cases h
theorem linE (ns : List Nat) (zs : List Int) (ls : List LF) (x y : NE) (ks js : List Int) (h : chk (.nt x y :: ls) ks = true) (h' : chk (.nt y x :: ls) js = true) : imp ns zs ls (x.d ns = y.d ns) := imp_of ls fun hl => by
  have a : ¬ x.d ns < y.d ns := fun q => chk_ok (zs := zs) h fun l m => by
    cases m with
    | head => exact q
    | tail _ m => exact hl l m
  have b : ¬ y.d ns < x.d ns := fun q => chk_ok (zs := zs) h' fun l m => by
    cases m with
    | head => exact q
    | tail _ m => exact hl l m
  omega
theorem linZ (ns : List Nat) (zs : List Int) (ls : List LF) (x y : IE) (ks js : List Int) (h : chk (.it x y :: ls) ks = true) (h' : chk (.it y x :: ls) js = true) : imp ns zs ls (x.d ns zs = y.d ns zs) := imp_of ls fun hl => by
  have a : ¬ x.d ns zs < y.d ns zs := fun q => chk_ok h fun l m => by
    cases m with
    | head => exact q
    | tail _ m => exact hl l m
  have b : ¬ y.d ns zs < x.d ns zs := fun q => chk_ok h' fun l m => by
    cases m with
    | head => exact q
    | tail _ m => exact hl l m
  omega
theorem t1 (k : Nat) (h : k ≤ 10) : k + 1 + 1 ≤ 60 := linG [k] [] [.nl (.v 0) (.c 10)] (.nl (.a (.a (.v 0) (.c 1)) (.c 1)) (.c 60)) [1, 1] rfl h
theorem t2 (k : Nat) (z : Int) (h : k ≤ 10) (h2 : z = (k : Int) - 3) : z + 1 < 1048576 := linG [k] [z] [.nl (.v 0) (.c 10), .ie (.v 0) (.s (.n (.v 0)) (.c 3))] (.it (.a (.v 0) (.c 1)) (.c 1048576)) [1, 1, 1] rfl h h2
theorem ax004c5d {n0 : Nat} : (((n0 : Int) + 2) + 1) = ((n0 : Int) + 3) := linZ [n0] [] [] (.a (.a (.n (.v 0)) (.c 2)) (.c 1)) (.a (.n (.v 0)) (.c 3)) [1] [1] rfl rfl
theorem ax00d0af {n0 n1 n2 n3 : Nat} (h0 : n0 ≤ 10) (h1 : n1 ≤ (2 * n2)) (h2 : n0 = (n2 + (n3 + 1))) : n1 ≤ 30 := linG [n0, n1, n2, n3] [] [.nl (.v 0) (.c 10), .nl (.v 1) (.m 2 (.v 2)), .ne (.v 0) (.a (.v 2) (.a (.v 3) (.c 1)))] (.nl (.v 1) (.c 30)) [1, 2, 1, -2] rfl h0 h1 h2
theorem ax015e36 {n0 : Nat} (h0 : n0 ≤ 900) : ((n0 + 1) + 1) ≤ 1000 := linG [n0] [] [.nl (.v 0) (.c 900)] (.nl (.a (.a (.v 0) (.c 1)) (.c 1)) (.c 1000)) [1, 1] rfl h0
theorem ax01dc61 : (0 + (0 + 1)) ≤ 1 := linG [] [] [] (.nl (.a (.c 0) (.a (.c 0) (.c 1))) (.c 1)) [1] rfl
theorem ax025105 {n0 : Nat} (h0 : (n0 : Int) < 4) : (n0 : Int) ≤ 1048576 := linG [n0] [] [.it (.n (.v 0)) (.c 4)] (.il (.n (.v 0)) (.c 1048576)) [1, 1] rfl h0
theorem ax028535 {n0 : Nat} (h0 : (n0 + 1) ≤ 3) : n0 ≤ 2 := linG [n0] [] [.nl (.a (.v 0) (.c 1)) (.c 3)] (.nl (.v 0) (.c 2)) [1, 1] rfl h0
theorem ax0388bf {n0 : Nat} (h0 : n0 ≤ 1048576) : (n0 : Int) ≤ 1048576 := linG [n0] [] [.nl (.v 0) (.c 1048576)] (.il (.n (.v 0)) (.c 1048576)) [1, 1] rfl h0
theorem ax04743a {n0 n1 : Nat} (h0 : n0 ≤ n1) (h1 : n1 < (n0 + 1)) : n1 = n0 := linE [n0, n1] [] [.nl (.v 0) (.v 1), .nt (.v 1) (.a (.v 0) (.c 1))] (.v 1) (.v 0) [1, 1, 0] [1, 0, 1] rfl rfl h0 h1
theorem ax04a511 {n0 n1 n2 n3 : Nat} (h0 : n0 ≤ n1) (h1 : n2 < n0) (h2 : n1 ≤ n3) (h3 : n3 = n2) : False := linF [n0, n1, n2, n3] [] [.nl (.v 0) (.v 1), .nt (.v 2) (.v 0), .nl (.v 1) (.v 3), .ne (.v 3) (.v 2)] [1, 1, 1, 1] rfl h0 h1 h2 h3
theorem ax05b035 {n0 : Nat} : ((1 + (n0 : Int)) + 0) = ((((n0 + 1) + 0) : Nat) : Int) := linZ [n0] [] [] (.a (.a (.c 1) (.n (.v 0))) (.c 0)) (.n (.a (.a (.v 0) (.c 1)) (.c 0))) [1] [1] rfl rfl
theorem ax067cef {n0 : Nat} (h0 : (n0 : Int) < 4) : ((n0 + 1) + 0) ≤ 8 := linG [n0] [] [.it (.n (.v 0)) (.c 4)] (.nl (.a (.a (.v 0) (.c 1)) (.c 0)) (.c 8)) [1, 1] rfl h0
theorem ax069e11 {n0 n1 : Nat} (h0 : (n0 : Int) < 4) (h1 : (n1 : Int) < 4) : ((n0 + 1) + n1) ≤ 7 := linG [n0, n1] [] [.it (.n (.v 0)) (.c 4), .it (.n (.v 1)) (.c 4)] (.nl (.a (.a (.v 0) (.c 1)) (.v 1)) (.c 7)) [1, 1, 1] rfl h0 h1
theorem ax06a52e {n0 n1 n2 n3 n4 n5 : Nat} (h0 : n0 ≤ n1) (h1 : n2 < n0) (h2 : n1 ≤ n3) (h3 : n4 ≤ n5) (h4 : n3 ≤ n4) (h5 : n5 = n2) : False := linF [n0, n1, n2, n3, n4, n5] [] [.nl (.v 0) (.v 1), .nt (.v 2) (.v 0), .nl (.v 1) (.v 3), .nl (.v 4) (.v 5), .nl (.v 3) (.v 4), .ne (.v 5) (.v 2)] [1, 1, 1, 1, 1, 1] rfl h0 h1 h2 h3 h4 h5
theorem ax0729d4 {n0 : Nat} (h0 : (n0 : Int) < 0) : False := linF [n0] [] [.it (.n (.v 0)) (.c 0)] [1] rfl h0
theorem ax091ff2 {n0 : Nat} : (((n0 + 26) + 1) + 1) ≤ (n0 + 30) := linG [n0] [] [] (.nl (.a (.a (.a (.v 0) (.c 26)) (.c 1)) (.c 1)) (.a (.v 0) (.c 30))) [1] rfl
theorem ax09d0df {n0 n1 : Nat} : (n0 + n1) = (n1 + n0) := linE [n0, n1] [] [] (.a (.v 0) (.v 1)) (.a (.v 1) (.v 0)) [1] [1] rfl rfl
theorem ax0b0009 {n0 n1 n2 : Nat} (h0 : (n0 + n1) ≤ n2) : (n0 + n1) ≤ n2 := linG [n0, n1, n2] [] [.nl (.a (.v 0) (.v 1)) (.v 2)] (.nl (.a (.v 0) (.v 1)) (.v 2)) [1, 1] rfl h0
theorem ax0b15d0 {n0 : Nat} : (1 + (n0 : Int)) = (((n0 + 1) : Nat) : Int) := linZ [n0] [] [] (.a (.c 1) (.n (.v 0))) (.n (.a (.v 0) (.c 1))) [1] [1] rfl rfl
theorem ax0cf2b6 {n0 n1 n2 : Nat} (h0 : (n0 + n1) ≤ 18) (h1 : n2 ≤ n0) : n2 ≤ 18 := linG [n0, n1, n2] [] [.nl (.a (.v 0) (.v 1)) (.c 18), .nl (.v 2) (.v 0)] (.nl (.v 2) (.c 18)) [1, 1, 1] rfl h0 h1
theorem ax0d676f {n0 n1 n2 : Nat} (h0 : n0 ≤ 2) (h1 : n1 ≤ (2 * n2)) : (n0 + n1) ≤ (2 * (n2 + 1)) := linG [n0, n1, n2] [] [.nl (.v 0) (.c 2), .nl (.v 1) (.m 2 (.v 2))] (.nl (.a (.v 0) (.v 1)) (.m 2 (.a (.v 2) (.c 1)))) [1, 1, 1] rfl h0 h1
theorem ax0f497c {n0 : Nat} (h0 : n0 ≤ 1) : n0 ≤ 1 := linG [n0] [] [.nl (.v 0) (.c 1)] (.nl (.v 0) (.c 1)) [1, 1] rfl h0
theorem ax0fc2f9 {n0 n1 : Nat} (h0 : n0 ≤ 2) (h1 : n1 ≤ 20) : (n0 + n1) ≤ 30 := linG [n0, n1] [] [.nl (.v 0) (.c 2), .nl (.v 1) (.c 20)] (.nl (.a (.v 0) (.v 1)) (.c 30)) [1, 1, 1] rfl h0 h1
theorem ax0fd884 {n0 n1 n2 : Nat} (h0 : n0 ≤ n1) (h1 : n1 = n2) (h2 : n2 < n0) : False := linF [n0, n1, n2] [] [.nl (.v 0) (.v 1), .ne (.v 1) (.v 2), .nt (.v 2) (.v 0)] [1, 1, 1] rfl h0 h1 h2
theorem ax10672e {n0 : Nat} (h0 : n0 ≤ 500) : (n0 + 1) ≤ 1000 := linG [n0] [] [.nl (.v 0) (.c 500)] (.nl (.a (.v 0) (.c 1)) (.c 1000)) [1, 1] rfl h0
theorem ax125145 {n0 : Nat} : ((1 + (n0 : Int)) + 1) = ((((n0 + 1) + 1) : Nat) : Int) := linZ [n0] [] [] (.a (.a (.c 1) (.n (.v 0))) (.c 1)) (.n (.a (.a (.v 0) (.c 1)) (.c 1))) [1] [1] rfl rfl
theorem ax13a61c {n0 : Nat} : n0 ≤ n0 := linG [n0] [] [] (.nl (.v 0) (.v 0)) [1] rfl
theorem ax14198a {n0 n1 n2 : Nat} (h0 : n0 < ((n1 + 1) + n2)) : n0 < (n1 + (n2 + 1)) := linG [n0, n1, n2] [] [.nt (.v 0) (.a (.a (.v 1) (.c 1)) (.v 2))] (.nt (.v 0) (.a (.v 1) (.a (.v 2) (.c 1)))) [1, 1] rfl h0
theorem ax14eded {n0 n1 : Nat} (h0 : n0 ≤ 18) : ((n0 : Int) - (n1 : Int)) ≤ 1048576 := linG [n0, n1] [] [.nl (.v 0) (.c 18)] (.il (.s (.n (.v 0)) (.n (.v 1))) (.c 1048576)) [1, 1] rfl h0
theorem ax1534b5 {n0 n1 : Nat} (h0 : n0 ≤ 18) (h1 : n1 ≤ n0) : n1 ≤ 1048576 := linG [n0, n1] [] [.nl (.v 0) (.c 18), .nl (.v 1) (.v 0)] (.nl (.v 1) (.c 1048576)) [1, 1, 1] rfl h0 h1
theorem ax156742 {n0 n1 : Nat} (h0 : n0 < (0 + n1)) : n0 < n1 := linG [n0, n1] [] [.nt (.v 0) (.a (.c 0) (.v 1))] (.nt (.v 0) (.v 1)) [1, 1] rfl h0
theorem ax1569e1 {n0 : Nat} (h0 : 0 < n0) : 0 < n0 := linG [n0] [] [.nt (.c 0) (.v 0)] (.nt (.c 0) (.v 0)) [1, 1] rfl h0
theorem ax15a44a {n0 n1 : Nat} : ((n0 + (2 * n1)) + 1) ≤ (n0 + (2 * (n1 + 1))) := linG [n0, n1] [] [] (.nl (.a (.a (.v 0) (.m 2 (.v 1))) (.c 1)) (.a (.v 0) (.m 2 (.a (.v 1) (.c 1))))) [1] rfl
theorem ax15bf94 {n0 : Nat} : ((n0 + 31) + 1) ≤ (n0 + 40) := linG [n0] [] [] (.nl (.a (.a (.v 0) (.c 31)) (.c 1)) (.a (.v 0) (.c 40))) [1] rfl
theorem ax15cadd {n0 : Nat} : ((((n0 + 1) : Nat) : Int) - 1) = (n0 : Int) := linZ [n0] [] [] (.s (.n (.a (.v 0) (.c 1))) (.c 1)) (.n (.v 0)) [1] [1] rfl rfl
theorem ax1766e2 {n0 n1 n2 n3 : Nat} (h0 : n0 ≤ 10) (h1 : n1 ≤ 900) (h2 : n0 = (n2 + (n3 + 1))) : ((n1 + (2 * n2)) + 1) ≤ 1000 := linG [n0, n1, n2, n3] [] [.nl (.v 0) (.c 10), .nl (.v 1) (.c 900), .ne (.v 0) (.a (.v 2) (.a (.v 3) (.c 1)))] (.nl (.a (.a (.v 1) (.m 2 (.v 2))) (.c 1)) (.c 1000)) [1, 2, 1, -2] rfl h0 h1 h2
theorem ax17bba3 {n0 n1 : Nat} (h0 : (n0 + (((n1 + 1) + 1) + 1)) ≤ 30) : (n0 + 3) ≤ 30 := linG [n0, n1] [] [.nl (.a (.v 0) (.a (.a (.a (.v 1) (.c 1)) (.c 1)) (.c 1))) (.c 30)] (.nl (.a (.v 0) (.c 3)) (.c 30)) [1, 1] rfl h0
theorem ax17ffb7 {n0 n1 : Nat} (h0 : n0 ≤ (2 * n1)) (h1 : n1 ≤ 28) : n0 ≤ 1000 := linG [n0, n1] [] [.nl (.v 0) (.m 2 (.v 1)), .nl (.v 1) (.c 28)] (.nl (.v 0) (.c 1000)) [1, 1, 2] rfl h0 h1
theorem ax1c0621 {n0 : Nat} {z0 z1 z2 : Int} (h0 : ((z0 + z1) + z2) = (n0 : Int)) : (((z0 + 1) + z1) + z2) = (((n0 + 1) : Nat) : Int) := linZ [n0] [z0, z1, z2] [.ie (.a (.a (.v 0) (.v 1)) (.v 2)) (.n (.v 0))] (.a (.a (.a (.v 0) (.c 1)) (.v 1)) (.v 2)) (.n (.a (.v 0) (.c 1))) [1, -1] [1, 1] rfl rfl h0
theorem ax1c18de {n0 : Nat} (h0 : n0 ≤ 30) : (n0 + n0) ≤ 1048576 := linG [n0] [] [.nl (.v 0) (.c 30)] (.nl (.a (.v 0) (.v 0)) (.c 1048576)) [1, 2] rfl h0
theorem ax1c347f {z0 : Int} (h0 : z0 < 5) : z0 < 5 := linG [] [z0] [.it (.v 0) (.c 5)] (.it (.v 0) (.c 5)) [1, 1] rfl h0
theorem ax1d18c5 {n0 n1 : Nat} : (n0 + (2 * n1)) ≤ (n0 + (2 * (n1 + 1))) := linG [n0, n1] [] [] (.nl (.a (.v 0) (.m 2 (.v 1))) (.a (.v 0) (.m 2 (.a (.v 1) (.c 1))))) [1] rfl
theorem ax1e192a {n0 n1 : Nat} (h0 : n0 ≤ 28) (h1 : n1 ≤ (n0 + 1)) : n1 ≤ 30 := linG [n0, n1] [] [.nl (.v 0) (.c 28), .nl (.v 1) (.a (.v 0) (.c 1))] (.nl (.v 1) (.c 30)) [1, 1, 1] rfl h0 h1
theorem ax1fc8b8 {n0 n1 n2 : Nat} (h0 : n0 ≤ (6 + n1)) (h1 : (n1 + (n2 + 1)) = 4) : n0 ≤ 1000 := linG [n0, n1, n2] [] [.nl (.v 0) (.a (.c 6) (.v 1)), .ne (.a (.v 1) (.a (.v 2) (.c 1))) (.c 4)] (.nl (.v 0) (.c 1000)) [1, 1, 1] rfl h0 h1
theorem ax1fd68f {n0 n1 : Nat} (h0 : n0 ≤ (2 * n1)) : n0 ≤ ((2 * n1) + 1) := linG [n0, n1] [] [.nl (.v 0) (.m 2 (.v 1))] (.nl (.v 0) (.a (.m 2 (.v 1)) (.c 1))) [1, 1] rfl h0
theorem ax215869 {n0 : Nat} {z0 z1 z2 : Int} (h0 : ((z0 + z1) + z2) = (n0 : Int)) : ((z0 + z1) + (z2 + 1)) = (((n0 + 1) : Nat) : Int) := linZ [n0] [z0, z1, z2] [.ie (.a (.a (.v 0) (.v 1)) (.v 2)) (.n (.v 0))] (.a (.a (.v 0) (.v 1)) (.a (.v 2) (.c 1))) (.n (.a (.v 0) (.c 1))) [1, -1] [1, 1] rfl rfl h0
theorem ax21f379 {n0 : Nat} (h0 : n0 ≤ 8) : (n0 : Int) ≤ 1048576 := linG [n0] [] [.nl (.v 0) (.c 8)] (.il (.n (.v 0)) (.c 1048576)) [1, 1] rfl h0
theorem ax2201da {n0 : Nat} (h0 : n0 ≤ 30) : (1 * n0) ≤ 256 := linG [n0] [] [.nl (.v 0) (.c 30)] (.nl (.m 1 (.v 0)) (.c 256)) [1, 1] rfl h0
theorem ax239329 {n0 : Nat} {z0 z1 z2 z3 : Int} (h0 : ((z0 + z1) + z2) = (n0 : Int)) (h1 : (((n0 : Int) + 0) + z3) ≤ 18) : ((((z0 + z1) + z2) + 0) + z3) ≤ 18 := linG [n0] [z0, z1, z2, z3] [.ie (.a (.a (.v 0) (.v 1)) (.v 2)) (.n (.v 0)), .il (.a (.a (.n (.v 0)) (.c 0)) (.v 3)) (.c 18)] (.il (.a (.a (.a (.a (.v 0) (.v 1)) (.v 2)) (.c 0)) (.v 3)) (.c 18)) [1, 1, 1] rfl h0 h1
theorem ax25b831 {n0 n1 : Nat} {z0 : Int} (h0 : n0 ≤ 18) (h1 : z0 = ((n1 : Int) - (n0 : Int))) : (0 - z0) ≤ 18 := linG [n0, n1] [z0] [.nl (.v 0) (.c 18), .ie (.v 0) (.s (.n (.v 1)) (.n (.v 0)))] (.il (.s (.c 0) (.v 0)) (.c 18)) [1, 1, -1] rfl h0 h1
theorem ax26336c {n0 n1 : Nat} (h0 : n0 ≤ n1) (h1 : n1 < 30) : n0 < 30 := linG [n0, n1] [] [.nl (.v 0) (.v 1), .nt (.v 1) (.c 30)] (.nt (.v 0) (.c 30)) [1, 1, 1] rfl h0 h1
theorem ax26f04b {n0 n1 n2 n3 : Nat} (h0 : n0 ≤ n1) (h1 : n1 ≤ n2) (h2 : n3 < n0) (h3 : n2 = n3) : False := linF [n0, n1, n2, n3] [] [.nl (.v 0) (.v 1), .nl (.v 1) (.v 2), .nt (.v 3) (.v 0), .ne (.v 2) (.v 3)] [1, 1, 1, 1] rfl h0 h1 h2 h3
theorem ax26fa1f {n0 : Nat} : (n0 + 31) ≤ (n0 + 40) := linG [n0] [] [] (.nl (.a (.v 0) (.c 31)) (.a (.v 0) (.c 40))) [1] rfl
theorem ax274152 {n0 : Nat} (h0 : n0 ≤ 1000) : (n0 : Int) ≤ 1048576 := linG [n0] [] [.nl (.v 0) (.c 1000)] (.il (.n (.v 0)) (.c 1048576)) [1, 1] rfl h0
theorem ax280e7d {n0 n1 : Nat} (h0 : n0 ≤ n1) : (1 + n0) ≤ (n1 + 1) := linG [n0, n1] [] [.nl (.v 0) (.v 1)] (.nl (.a (.c 1) (.v 0)) (.a (.v 1) (.c 1))) [1, 1] rfl h0
theorem ax286a3f {z0 : Int} (h0 : z0 ≤ 2) (h1 : z0 = 4) : False := linF [] [z0] [.il (.v 0) (.c 2), .ie (.v 0) (.c 4)] [1, -1] rfl h0 h1
theorem ax295090 {n0 : Nat} (h0 : n0 ≤ 0) : n0 = 0 := linE [n0] [] [.nl (.v 0) (.c 0)] (.v 0) (.c 0) [1, 0] [1, 1] rfl rfl h0
theorem ax2b0449 {n0 : Nat} {z0 : Int} (h0 : z0 < 0) (h1 : (n0 : Int) ≤ z0) : False := linF [n0] [z0] [.it (.v 0) (.c 0), .il (.n (.v 0)) (.v 0)] [1, 1] rfl h0 h1
theorem ax2d4115 {n0 : Nat} (h0 : (n0 : Int) < 5) : n0 < 5 := linG [n0] [] [.it (.n (.v 0)) (.c 5)] (.nt (.v 0) (.c 5)) [1, 1] rfl h0
theorem ax30752b {n0 n1 n2 : Nat} (h0 : (n0 + n1) ≤ 18) (h1 : n2 ≤ n0) : ((n2 : Int) - (n1 : Int)) < 30 := linG [n0, n1, n2] [] [.nl (.a (.v 0) (.v 1)) (.c 18), .nl (.v 2) (.v 0)] (.it (.s (.n (.v 2)) (.n (.v 1))) (.c 30)) [1, 1, 1] rfl h0 h1
theorem ax308d29 {n0 : Nat} (h0 : n0 ≤ 18) : (n0 : Int) ≤ 1000 := linG [n0] [] [.nl (.v 0) (.c 18)] (.il (.n (.v 0)) (.c 1000)) [1, 1] rfl h0
theorem ax30efd6 {n0 : Nat} (h0 : n0 ≤ 500) : (n0 + 6) ≤ 900 := linG [n0] [] [.nl (.v 0) (.c 500)] (.nl (.a (.v 0) (.c 6)) (.c 900)) [1, 1] rfl h0
theorem ax311112 {n0 n1 n2 n3 : Nat} (h0 : n0 ≤ 10) (h1 : n0 = (n1 + (n2 + 1))) (h2 : n3 ≤ ((2 * n1) + 1)) : n3 ≤ 30 := linG [n0, n1, n2, n3] [] [.nl (.v 0) (.c 10), .ne (.v 0) (.a (.v 1) (.a (.v 2) (.c 1))), .nl (.v 3) (.a (.m 2 (.v 1)) (.c 1))] (.nl (.v 3) (.c 30)) [1, 2, -2, 1] rfl h0 h1 h2
theorem ax320172 {z0 : Int} (h0 : z0 = 4) (h1 : z0 = 0) : False := linF [] [z0] [.ie (.v 0) (.c 4), .ie (.v 0) (.c 0)] [-1, 1] rfl h0 h1
theorem ax32d17e {n0 : Nat} (h0 : (n0 : Int) < 4) : n0 ≤ 3 := linG [n0] [] [.it (.n (.v 0)) (.c 4)] (.nl (.v 0) (.c 3)) [1, 1] rfl h0
theorem ax358b5c {n0 : Nat} {z0 : Int} (h0 : z0 < (n0 : Int)) : 0 ≤ ((n0 : Int) - z0) := linG [n0] [z0] [.it (.v 0) (.n (.v 0))] (.il (.c 0) (.s (.n (.v 0)) (.v 0))) [1, 1] rfl h0
theorem ax35c5f3 {n0 n1 : Nat} {z0 : Int} (h0 : (((n0 + (n1 + 1)) : Nat) : Int) ≤ z0) : ((((n0 + 1) + n1) : Nat) : Int) ≤ z0 := linG [n0, n1] [z0] [.il (.n (.a (.v 0) (.a (.v 1) (.c 1)))) (.v 0)] (.il (.n (.a (.a (.v 0) (.c 1)) (.v 1))) (.v 0)) [1, 1] rfl h0
theorem ax36aba8 {n0 : Nat} {z0 z1 z2 : Int} (h0 : ((z0 + z1) + z2) = (n0 : Int)) (h1 : 0 < n0) : 0 < ((z0 + z1) + z2) := linG [n0] [z0, z1, z2] [.ie (.a (.a (.v 0) (.v 1)) (.v 2)) (.n (.v 0)), .nt (.c 0) (.v 0)] (.it (.c 0) (.a (.a (.v 0) (.v 1)) (.v 2))) [1, -1, 1] rfl h0 h1
theorem ax370382 {z0 : Int} (h0 : 0 < z0) : 0 < (z0 + 1) := linG [] [z0] [.it (.c 0) (.v 0)] (.it (.c 0) (.a (.v 0) (.c 1))) [1, 1] rfl h0
theorem ax388755 {n0 n1 n2 : Nat} : (n0 + (n1 + n2)) = ((n0 + n1) + n2) := linE [n0, n1, n2] [] [] (.a (.v 0) (.a (.v 1) (.v 2))) (.a (.a (.v 0) (.v 1)) (.v 2)) [1] [1] rfl rfl
theorem ax38e25c {n0 : Nat} (h0 : (n0 : Int) < 2) : (1 + (n0 : Int)) ≤ 256 := linG [n0] [] [.it (.n (.v 0)) (.c 2)] (.il (.a (.c 1) (.n (.v 0))) (.c 256)) [1, 1] rfl h0
theorem ax3a5d60 {n0 n1 : Nat} (h0 : n0 < n1) : n0 < n1 := linG [n0, n1] [] [.nt (.v 0) (.v 1)] (.nt (.v 0) (.v 1)) [1, 1] rfl h0
theorem ax3a6420 {n0 n1 : Nat} {z0 : Int} (h0 : (((n0 + (n1 + 1)) : Nat) : Int) ≤ z0) : (n0 : Int) < z0 := linG [n0, n1] [z0] [.il (.n (.a (.v 0) (.a (.v 1) (.c 1)))) (.v 0)] (.it (.n (.v 0)) (.v 0)) [1, 1] rfl h0
theorem ax3a6be0 {n0 : Nat} (h0 : n0 ≤ 28) : n0 ≤ 30 := linG [n0] [] [.nl (.v 0) (.c 28)] (.nl (.v 0) (.c 30)) [1, 1] rfl h0
theorem ax3b5dbd {z0 : Int} (h0 : z0 ≤ 2) (h1 : z0 = 5) : False := linF [] [z0] [.il (.v 0) (.c 2), .ie (.v 0) (.c 5)] [1, -1] rfl h0 h1
theorem ax3c6bf4 {z0 : Int} (h0 : 0 ≤ z0) : 0 ≤ (z0 + 3) := linG [] [z0] [.il (.c 0) (.v 0)] (.il (.c 0) (.a (.v 0) (.c 3))) [1, 1] rfl h0
theorem ax3c9273 {n0 n1 n2 : Nat} (h0 : ((n0 + 1) + n1) ≤ n2) : (n0 + (n1 + 1)) ≤ n2 := linG [n0, n1, n2] [] [.nl (.a (.a (.v 0) (.c 1)) (.v 1)) (.v 2)] (.nl (.a (.v 0) (.a (.v 1) (.c 1))) (.v 2)) [1, 1] rfl h0
theorem ax3d7016 {z0 : Int} (h0 : 0 < z0) (h1 : z0 = 0) : False := linF [] [z0] [.it (.c 0) (.v 0), .ie (.v 0) (.c 0)] [1, 1] rfl h0 h1
theorem ax3dd3a5 {n0 : Nat} (h0 : n0 ≤ 900) : ((((n0 + 1) + 1) + 1) + 1) ≤ 1000 := linG [n0] [] [.nl (.v 0) (.c 900)] (.nl (.a (.a (.a (.a (.v 0) (.c 1)) (.c 1)) (.c 1)) (.c 1)) (.c 1000)) [1, 1] rfl h0
theorem ax426607 {n0 : Nat} (h0 : (n0 + 1) ≤ 2) : n0 ≤ 3 := linG [n0] [] [.nl (.a (.v 0) (.c 1)) (.c 2)] (.nl (.v 0) (.c 3)) [1, 1] rfl h0
theorem ax42710c {n0 n1 n2 n3 n4 : Nat} (h0 : n0 ≤ n1) (h1 : n2 < n0) (h2 : n1 ≤ n3) (h3 : n3 ≤ n4) (h4 : n4 = n2) : False := linF [n0, n1, n2, n3, n4] [] [.nl (.v 0) (.v 1), .nt (.v 2) (.v 0), .nl (.v 1) (.v 3), .nl (.v 3) (.v 4), .ne (.v 4) (.v 2)] [1, 1, 1, 1, 1] rfl h0 h1 h2 h3 h4
theorem ax427f50 {n0 : Nat} (h0 : (n0 + 1) ≤ 0) : False := linF [n0] [] [.nl (.a (.v 0) (.c 1)) (.c 0)] [1] rfl h0
theorem ax442164 {z0 : Int} (h0 : z0 < 1009) : (z0 + 3) ≤ 1011 := linG [] [z0] [.it (.v 0) (.c 1009)] (.il (.a (.v 0) (.c 3)) (.c 1011)) [1, 1] rfl h0
theorem ax4441a5 {n0 n1 : Nat} (h0 : n0 ≤ 10) : (n1 + (2 * n0)) ≤ (n1 + 20) := linG [n0, n1] [] [.nl (.v 0) (.c 10)] (.nl (.a (.v 1) (.m 2 (.v 0))) (.a (.v 1) (.c 20))) [1, 2] rfl h0
theorem ax4573e7 {z0 : Int} (h0 : z0 = 1) (h1 : z0 = 0) : False := linF [] [z0] [.ie (.v 0) (.c 1), .ie (.v 0) (.c 0)] [-1, 1] rfl h0 h1
theorem ax45e39c {n0 n1 : Nat} (h0 : n0 < n1) : 0 ≤ (((n1 : Int) - 1) - (n0 : Int)) := linG [n0, n1] [] [.nt (.v 0) (.v 1)] (.il (.c 0) (.s (.s (.n (.v 1)) (.c 1)) (.n (.v 0)))) [1, 1] rfl h0
theorem ax46a11a {n0 : Nat} : n0 < (n0 + 1) := linG [n0] [] [] (.nt (.v 0) (.a (.v 0) (.c 1))) [1] rfl
theorem ax476019 {n0 n1 : Nat} (h0 : (n0 + n1) ≤ 18) : n1 ≤ 18 := linG [n0, n1] [] [.nl (.a (.v 0) (.v 1)) (.c 18)] (.nl (.v 1) (.c 18)) [1, 1] rfl h0
theorem ax48b627 {n0 n1 n2 n3 n4 : Nat} (h0 : n0 ≤ n1) (h1 : n2 ≤ n3) (h2 : n1 ≤ n2) (h3 : n4 < n0) (h4 : n3 = n4) : False := linF [n0, n1, n2, n3, n4] [] [.nl (.v 0) (.v 1), .nl (.v 2) (.v 3), .nl (.v 1) (.v 2), .nt (.v 4) (.v 0), .ne (.v 3) (.v 4)] [1, 1, 1, 1, 1] rfl h0 h1 h2 h3 h4
theorem ax495ada {n0 : Nat} : 0 ≤ ((n0 : Int) + 2) := linG [n0] [] [] (.il (.c 0) (.a (.n (.v 0)) (.c 2))) [1] rfl
theorem ax4a15cb {n0 : Nat} {z0 : Int} (h0 : n0 ≤ 1000) (h1 : z0 ≤ (n0 : Int)) : ((z0 + 1) + 2) ≤ 1003 := linG [n0] [z0] [.nl (.v 0) (.c 1000), .il (.v 0) (.n (.v 0))] (.il (.a (.a (.v 0) (.c 1)) (.c 2)) (.c 1003)) [1, 1, 1] rfl h0 h1
theorem ax4bc3a3 {n0 n1 : Nat} (h0 : n0 ≤ ((2 * n1) + 1)) : (n0 + 1) ≤ (2 * (n1 + 1)) := linG [n0, n1] [] [.nl (.v 0) (.a (.m 2 (.v 1)) (.c 1))] (.nl (.a (.v 0) (.c 1)) (.m 2 (.a (.v 1) (.c 1)))) [1, 1] rfl h0
theorem ax4bc4fa {n0 : Nat} {z0 : Int} (h0 : (((n0 + 1) : Nat) : Int) ≤ z0) : (n0 : Int) ≤ z0 := linG [n0] [z0] [.il (.n (.a (.v 0) (.c 1))) (.v 0)] (.il (.n (.v 0)) (.v 0)) [1, 1] rfl h0
theorem ax4df5f9 {z0 : Int} (h0 : z0 < 10) : z0 < 1000000000000000000000000000000 := linG [] [z0] [.it (.v 0) (.c 10)] (.it (.v 0) (.c 1000000000000000000000000000000)) [1, 1] rfl h0
theorem ax4f0178 {n0 n1 n2 : Nat} (h0 : n0 ≤ (6 + n1)) (h1 : n2 ≤ (n0 + 1)) : n2 ≤ (6 + (n1 + 1)) := linG [n0, n1, n2] [] [.nl (.v 0) (.a (.c 6) (.v 1)), .nl (.v 2) (.a (.v 0) (.c 1))] (.nl (.v 2) (.a (.c 6) (.a (.v 1) (.c 1)))) [1, 1, 1] rfl h0 h1
theorem ax504a38 {n0 n1 : Nat} (h0 : n0 ≤ 30) (h1 : n1 ≤ (2 * n0)) : n1 ≤ 9999 := linG [n0, n1] [] [.nl (.v 0) (.c 30), .nl (.v 1) (.m 2 (.v 0))] (.nl (.v 1) (.c 9999)) [1, 2, 1] rfl h0 h1
theorem ax5112d8 {n0 : Nat} (h0 : 0 < n0) (h1 : n0 = 0) : False := linF [n0] [] [.nt (.c 0) (.v 0), .ne (.v 0) (.c 0)] [1, 1] rfl h0 h1
theorem ax543bd1 {n0 n1 : Nat} (h0 : (n0 + 1) ≤ n1) : n0 ≤ n1 := linG [n0, n1] [] [.nl (.a (.v 0) (.c 1)) (.v 1)] (.nl (.v 0) (.v 1)) [1, 1] rfl h0
theorem ax549e69 {n0 : Nat} (h0 : n0 ≤ 500) : (n0 + 31) ≤ 1000 := linG [n0] [] [.nl (.v 0) (.c 500)] (.nl (.a (.v 0) (.c 31)) (.c 1000)) [1, 1] rfl h0
theorem ax5718d7 {n0 n1 n2 n3 : Nat} (h0 : (n0 + (n1 + (n2 + n3))) ≤ 30) : n1 ≤ 30 := linG [n0, n1, n2, n3] [] [.nl (.a (.v 0) (.a (.v 1) (.a (.v 2) (.v 3)))) (.c 30)] (.nl (.v 1) (.c 30)) [1, 1] rfl h0
theorem ax578c70 {n0 n1 n2 n3 : Nat} (h0 : n0 < n1) (h1 : n2 ≤ n3) (h2 : n1 ≤ n2) (h3 : n3 = n0) : False := linF [n0, n1, n2, n3] [] [.nt (.v 0) (.v 1), .nl (.v 2) (.v 3), .nl (.v 1) (.v 2), .ne (.v 3) (.v 0)] [1, 1, 1, 1] rfl h0 h1 h2 h3
theorem ax58f869 {n0 : Nat} : (1 + n0) = (n0 + 1) := linE [n0] [] [] (.a (.c 1) (.v 0)) (.a (.v 0) (.c 1)) [1] [1] rfl rfl
theorem ax5ab807 {n0 n1 n2 : Nat} (h0 : n0 ≤ n1) (h1 : n2 < n0) (h2 : n1 = n2) : False := linF [n0, n1, n2] [] [.nl (.v 0) (.v 1), .nt (.v 2) (.v 0), .ne (.v 1) (.v 2)] [1, 1, 1] rfl h0 h1 h2
theorem ax5c464f {n0 : Nat} : (0 + n0) = n0 := linE [n0] [] [] (.a (.c 0) (.v 0)) (.v 0) [1] [1] rfl rfl
theorem ax5d1c20 {n0 n1 n2 n3 : Nat} (h0 : n0 ≤ 7) (h1 : n1 = 0) (h2 : n2 ≤ 3) (h3 : n3 ≤ 2) : ((n0 + n2) + (n1 + n3)) ≤ 18 := linG [n0, n1, n2, n3] [] [.nl (.v 0) (.c 7), .ne (.v 1) (.c 0), .nl (.v 2) (.c 3), .nl (.v 3) (.c 2)] (.nl (.a (.a (.v 0) (.v 2)) (.a (.v 1) (.v 3))) (.c 18)) [1, 1, 1, 1, 1] rfl h0 h1 h2 h3
theorem ax5e3397 {n0 : Nat} (h0 : n0 ≤ 8) : n0 ≤ 256 := linG [n0] [] [.nl (.v 0) (.c 8)] (.nl (.v 0) (.c 256)) [1, 1] rfl h0
theorem ax5f78fd {n0 : Nat} : 0 ≤ ((n0 : Int) + 1) := linG [n0] [] [] (.il (.c 0) (.a (.n (.v 0)) (.c 1))) [1] rfl
theorem ax60b03e {n0 : Nat} (h0 : n0 < 1000000000000000000) : (n0 : Int) < 1000000000000000000000000000000 := linG [n0] [] [.nt (.v 0) (.c 1000000000000000000)] (.it (.n (.v 0)) (.c 1000000000000000000000000000000)) [1, 1] rfl h0
theorem ax61ae2c {z0 : Int} (h0 : z0 = 3) (h1 : z0 = 0) : False := linF [] [z0] [.ie (.v 0) (.c 3), .ie (.v 0) (.c 0)] [-1, 1] rfl h0 h1
theorem ax61e71b {n0 n1 : Nat} : (n0 + (n1 + 1)) = ((n0 + 1) + n1) := linE [n0, n1] [] [] (.a (.v 0) (.a (.v 1) (.c 1))) (.a (.a (.v 0) (.c 1)) (.v 1)) [1] [1] rfl rfl
theorem ax627c2c {z0 : Int} (h0 : z0 = 3) (h1 : z0 = 1) : False := linF [] [z0] [.ie (.v 0) (.c 3), .ie (.v 0) (.c 1)] [-1, 1] rfl h0 h1
theorem ax668e37 {n0 : Nat} (h0 : n0 ≤ 500) : ((n0 + 26) + 1) ≤ 1000 := linG [n0] [] [.nl (.v 0) (.c 500)] (.nl (.a (.a (.v 0) (.c 26)) (.c 1)) (.c 1000)) [1, 1] rfl h0
theorem ax6855f6 {n0 n1 n2 n3 : Nat} (h0 : n0 ≤ 10) (h1 : n1 ≤ 900) (h2 : n0 = (n2 + (n3 + 1))) : (n1 + (2 * n2)) ≤ 1000 := linG [n0, n1, n2, n3] [] [.nl (.v 0) (.c 10), .nl (.v 1) (.c 900), .ne (.v 0) (.a (.v 2) (.a (.v 3) (.c 1)))] (.nl (.a (.v 1) (.m 2 (.v 2))) (.c 1000)) [1, 2, 1, -2] rfl h0 h1 h2
theorem ax688fae {n0 : Nat} (h0 : n0 < 10) : (n0 : Int) < 10 := linG [n0] [] [.nt (.v 0) (.c 10)] (.it (.n (.v 0)) (.c 10)) [1, 1] rfl h0
theorem ax68ce6b {n0 n1 : Nat} (h0 : n0 ≤ n1) : (-1048576) ≤ ((n1 : Int) - (n0 : Int)) := linG [n0, n1] [] [.nl (.v 0) (.v 1)] (.il (.c (-1048576)) (.s (.n (.v 1)) (.n (.v 0)))) [1, 1] rfl h0
theorem ax69fdc4 {n0 n1 : Nat} : (n0 : Int) ≤ ((n0 : Int) + ((((n1 : Int) + 1) + 1) + 1)) := linG [n0, n1] [] [] (.il (.n (.v 0)) (.a (.n (.v 0)) (.a (.a (.a (.n (.v 1)) (.c 1)) (.c 1)) (.c 1)))) [1] rfl
theorem ax6b9670 {n0 : Nat} (h0 : n0 ≤ 500) : ((n0 + 1) + 1) ≤ 1000 := linG [n0] [] [.nl (.v 0) (.c 500)] (.nl (.a (.a (.v 0) (.c 1)) (.c 1)) (.c 1000)) [1, 1] rfl h0
theorem ax6bb319 {n0 n1 n2 n3 : Nat} (h0 : 1 ≤ n0) : (n1 : Int) < ((n1 : Int) + ((n0 : Int) + ((n2 : Int) + (n3 : Int)))) := linG [n0, n1, n2, n3] [] [.nl (.c 1) (.v 0)] (.it (.n (.v 1)) (.a (.n (.v 1)) (.a (.n (.v 0)) (.a (.n (.v 2)) (.n (.v 3)))))) [1, 1] rfl h0
theorem ax6fa31b {n0 : Nat} : (-1048576) ≤ (n0 : Int) := linG [n0] [] [] (.il (.c (-1048576)) (.n (.v 0))) [1] rfl
theorem ax6fa6a3 {n0 n1 n2 : Nat} (h0 : n0 ≤ n1) (h1 : n2 < n0) (h2 : n2 = n1) : False := linF [n0, n1, n2] [] [.nl (.v 0) (.v 1), .nt (.v 2) (.v 0), .ne (.v 2) (.v 1)] [1, 1, -1] rfl h0 h1 h2
theorem ax709f9b {n0 : Nat} (h0 : n0 ≤ 500) : ((((n0 + 1) + 1) + 1) + 1) ≤ 1000 := linG [n0] [] [.nl (.v 0) (.c 500)] (.nl (.a (.a (.a (.a (.v 0) (.c 1)) (.c 1)) (.c 1)) (.c 1)) (.c 1000)) [1, 1] rfl h0
theorem ax71e936 {n0 n1 n2 n3 : Nat} (h0 : n0 ≤ 30) (h1 : n1 ≤ n2) (h2 : n0 = (n2 + (n3 + 1))) : n1 ≤ 1048576 := linG [n0, n1, n2, n3] [] [.nl (.v 0) (.c 30), .nl (.v 1) (.v 2), .ne (.v 0) (.a (.v 2) (.a (.v 3) (.c 1)))] (.nl (.v 1) (.c 1048576)) [1, 1, 1, -1] rfl h0 h1 h2
theorem ax755975 {n0 : Nat} (h0 : n0 ≤ 500) : (n0 + 26) ≤ 1000 := linG [n0] [] [.nl (.v 0) (.c 500)] (.nl (.a (.v 0) (.c 26)) (.c 1000)) [1, 1] rfl h0
theorem ax76b68d {n0 : Nat} : (n0 + 26) ≤ (n0 + 30) := linG [n0] [] [] (.nl (.a (.v 0) (.c 26)) (.a (.v 0) (.c 30))) [1] rfl
theorem ax76efb6 {z0 z1 : Int} (h0 : z0 ≤ z1) (h1 : z1 < z0) : False := linF [] [z0, z1] [.il (.v 0) (.v 1), .it (.v 1) (.v 0)] [1, 1] rfl h0 h1
theorem ax77e293 {n0 n1 n2 n3 : Nat} (h0 : 1 ≤ n0) (h1 : n1 ≤ n2) : (n1 + 1) ≤ (n0 + (n3 + n2)) := linG [n0, n1, n2, n3] [] [.nl (.c 1) (.v 0), .nl (.v 1) (.v 2)] (.nl (.a (.v 1) (.c 1)) (.a (.v 0) (.a (.v 3) (.v 2)))) [1, 1, 1] rfl h0 h1
theorem ax78cebe {z0 : Int} : (z0 + (1 - 1)) = z0 := linZ [] [z0] [] (.a (.v 0) (.s (.c 1) (.c 1))) (.v 0) [1] [1] rfl rfl
theorem ax793492 {n0 n1 : Nat} (h0 : n0 ≤ 30) (h1 : (n1 + n0) ≤ (3 * n0)) : (n1 + n0) ≤ 1048576 := linG [n0, n1] [] [.nl (.v 0) (.c 30), .nl (.a (.v 1) (.v 0)) (.m 3 (.v 0))] (.nl (.a (.v 1) (.v 0)) (.c 1048576)) [1, 3, 1] rfl h0 h1
theorem ax797c49 {n0 : Nat} (h0 : (n0 + 1) ≤ 4) : n0 ≤ 4 := linG [n0] [] [.nl (.a (.v 0) (.c 1)) (.c 4)] (.nl (.v 0) (.c 4)) [1, 1] rfl h0
theorem ax7c1299 {n0 n1 : Nat} : (((n0 + (2 * n1)) + 1) + 1) ≤ (n0 + (2 * (n1 + 1))) := linG [n0, n1] [] [] (.nl (.a (.a (.a (.v 0) (.m 2 (.v 1))) (.c 1)) (.c 1)) (.a (.v 0) (.m 2 (.a (.v 1) (.c 1))))) [1] rfl
theorem ax7c2041 {n0 : Nat} (h0 : (n0 : Int) < 4) : n0 ≤ 256 := linG [n0] [] [.it (.n (.v 0)) (.c 4)] (.nl (.v 0) (.c 256)) [1, 1] rfl h0
theorem ax7d36be {n0 : Nat} (h0 : n0 ≤ 2) : (n0 : Int) ≤ 1048576 := linG [n0] [] [.nl (.v 0) (.c 2)] (.il (.n (.v 0)) (.c 1048576)) [1, 1] rfl h0
theorem ax7f17df {n0 n1 : Nat} {z0 : Int} (h0 : (n0 : Int) ≤ z0) (h1 : n1 < (0 + n0)) : (n1 : Int) < z0 := linG [n0, n1] [z0] [.il (.n (.v 0)) (.v 0), .nt (.v 1) (.a (.c 0) (.v 0))] (.it (.n (.v 1)) (.v 0)) [1, 1, 1] rfl h0 h1
theorem ax803ec6 {n0 : Nat} (h0 : (n0 : Int) < 4) : (n0 + 1) ≤ 4 := linG [n0] [] [.it (.n (.v 0)) (.c 4)] (.nl (.a (.v 0) (.c 1)) (.c 4)) [1, 1] rfl h0
theorem ax805753 {n0 : Nat} (h0 : n0 ≤ 900) : (((n0 + 1) + 1) + 1) ≤ 1000 := linG [n0] [] [.nl (.v 0) (.c 900)] (.nl (.a (.a (.a (.v 0) (.c 1)) (.c 1)) (.c 1)) (.c 1000)) [1, 1] rfl h0
theorem ax8173c8 {n0 : Nat} (h0 : n0 ≤ 9) : (48 + n0) ≤ 57 := linG [n0] [] [.nl (.v 0) (.c 9)] (.nl (.a (.c 48) (.v 0)) (.c 57)) [1, 1] rfl h0
theorem ax8323c5 {n0 : Nat} (h0 : n0 < 256) : (n0 : Int) < 256 := linG [n0] [] [.nt (.v 0) (.c 256)] (.it (.n (.v 0)) (.c 256)) [1, 1] rfl h0
theorem ax867eef {n0 n1 : Nat} {z0 : Int} (h0 : n0 ≤ 18) (h1 : z0 = ((n0 : Int) - (n1 : Int))) : z0 ≤ 18 := linG [n0, n1] [z0] [.nl (.v 0) (.c 18), .ie (.v 0) (.s (.n (.v 0)) (.n (.v 1)))] (.il (.v 0) (.c 18)) [1, 1, 1] rfl h0 h1
theorem ax89a702 {n0 n1 n2 : Nat} (h0 : n0 ≤ n1) (h1 : n2 = n1) (h2 : n2 < n0) : False := linF [n0, n1, n2] [] [.nl (.v 0) (.v 1), .ne (.v 2) (.v 1), .nt (.v 2) (.v 0)] [1, -1, 1] rfl h0 h1 h2
theorem ax8afdcb {n0 n1 : Nat} (h0 : n0 ≤ 18) (h1 : n1 < n0) : n1 < 1048576 := linG [n0, n1] [] [.nl (.v 0) (.c 18), .nt (.v 1) (.v 0)] (.nt (.v 1) (.c 1048576)) [1, 1, 1] rfl h0 h1
theorem ax8b5301 {n0 n1 n2 : Nat} (h0 : 2 ≤ n0) : 2 ≤ (n1 + (n0 + n2)) := linG [n0, n1, n2] [] [.nl (.c 2) (.v 0)] (.nl (.c 2) (.a (.v 1) (.a (.v 0) (.v 2)))) [1, 1] rfl h0
theorem ax8c2fa8 {n0 : Nat} : 0 < (n0 + 1) := linG [n0] [] [] (.nt (.c 0) (.a (.v 0) (.c 1))) [1] rfl
theorem ax8d22ce {n0 : Nat} (h0 : (n0 : Int) < 2) : (n0 + 1) ≤ 2 := linG [n0] [] [.it (.n (.v 0)) (.c 2)] (.nl (.a (.v 0) (.c 1)) (.c 2)) [1, 1] rfl h0
theorem ax8d2fc0 {n0 n1 n2 : Nat} (h0 : n0 ≤ n1) : n0 ≤ (n1 + n2) := linG [n0, n1, n2] [] [.nl (.v 0) (.v 1)] (.nl (.v 0) (.a (.v 1) (.v 2))) [1, 1] rfl h0
theorem ax8dbbb9 {n0 n1 n2 : Nat} (h0 : (0 + (n0 + 0)) = n1) (h1 : n2 < n1) : n2 < (0 + n0) := linG [n0, n1, n2] [] [.ne (.a (.c 0) (.a (.v 0) (.c 0))) (.v 1), .nt (.v 2) (.v 1)] (.nt (.v 2) (.a (.c 0) (.v 0))) [1, -1, 1] rfl h0 h1
theorem ax8f0714 {z0 : Int} (h0 : z0 = ((0 : Nat) : Int)) : (z0 + 1) = (((0 + 1) : Nat) : Int) := linZ [] [z0] [.ie (.v 0) (.n (.c 0))] (.a (.v 0) (.c 1)) (.n (.a (.c 0) (.c 1))) [1, -1] [1, 1] rfl rfl h0
theorem ax9178f0 {n0 : Nat} (h0 : (n0 : Int) < 4) : (1 + n0) ≤ 30 := linG [n0] [] [.it (.n (.v 0)) (.c 4)] (.nl (.a (.c 1) (.v 0)) (.c 30)) [1, 1] rfl h0
theorem ax91825d {n0 n1 : Nat} {z0 : Int} (h0 : ((((n0 + n1) + 1) : Nat) : Int) ≤ z0) : (((n0 + n1) : Nat) : Int) ≤ z0 := linG [n0, n1] [z0] [.il (.n (.a (.a (.v 0) (.v 1)) (.c 1))) (.v 0)] (.il (.n (.a (.v 0) (.v 1))) (.v 0)) [1, 1] rfl h0
theorem ax919b5f {n0 : Nat} (h0 : n0 < 5) : n0 < 20 := linG [n0] [] [.nt (.v 0) (.c 5)] (.nt (.v 0) (.c 20)) [1, 1] rfl h0
theorem ax923d22 {n0 : Nat} (h0 : n0 ≤ 18) : n0 ≤ 31 := linG [n0] [] [.nl (.v 0) (.c 18)] (.nl (.v 0) (.c 31)) [1, 1] rfl h0
theorem ax931256 {n0 n1 : Nat} (h0 : n0 ≤ 30) (h1 : n1 ≤ n0) : n1 ≤ 30 := linG [n0, n1] [] [.nl (.v 0) (.c 30), .nl (.v 1) (.v 0)] (.nl (.v 1) (.c 30)) [1, 1, 1] rfl h0 h1
theorem ax94c015 {n0 n1 : Nat} : n0 < (n0 + (1 + n1)) := linG [n0, n1] [] [] (.nt (.v 0) (.a (.v 0) (.a (.c 1) (.v 1)))) [1] rfl
theorem ax95dd38 {z0 : Int} (h0 : z0 < 2) (h1 : 2 ≤ z0) : False := linF [] [z0] [.it (.v 0) (.c 2), .il (.c 2) (.v 0)] [1, 1] rfl h0 h1
theorem ax9756af {z0 : Int} (h0 : z0 < 2) : z0 < 5 := linG [] [z0] [.it (.v 0) (.c 2)] (.it (.v 0) (.c 5)) [1, 1] rfl h0
theorem ax976796 {n0 n1 n2 n3 : Nat} (h0 : n0 ≤ n1) (h1 : n1 ≤ n2) (h2 : n2 ≤ n3) : n0 ≤ n3 := linG [n0, n1, n2, n3] [] [.nl (.v 0) (.v 1), .nl (.v 1) (.v 2), .nl (.v 2) (.v 3)] (.nl (.v 0) (.v 3)) [1, 1, 1, 1] rfl h0 h1 h2
theorem ax99467f {n0 n1 n2 : Nat} (h0 : n0 ≤ 30) (h1 : n1 = n0) (h2 : n2 ≤ n1) : n2 ≤ 1048575 := linG [n0, n1, n2] [] [.nl (.v 0) (.c 30), .ne (.v 1) (.v 0), .nl (.v 2) (.v 1)] (.nl (.v 2) (.c 1048575)) [1, 1, 1, 1] rfl h0 h1 h2
theorem ax9a0a2b {n0 n1 : Nat} (h0 : (n0 + n1) ≤ 18) : n0 ≤ 18 := linG [n0, n1] [] [.nl (.a (.v 0) (.v 1)) (.c 18)] (.nl (.v 0) (.c 18)) [1, 1] rfl h0
theorem ax9a3e72 {z0 : Int} (h0 : z0 = 3) (h1 : z0 = 2) : False := linF [] [z0] [.ie (.v 0) (.c 3), .ie (.v 0) (.c 2)] [-1, 1] rfl h0 h1
theorem ax9b6d79 {n0 n1 n2 n3 : Nat} (h0 : n0 = (n1 + (n2 + n3))) : (n1 + n2) ≤ n0 := linG [n0, n1, n2, n3] [] [.ne (.v 0) (.a (.v 1) (.a (.v 2) (.v 3)))] (.nl (.a (.v 1) (.v 2)) (.v 0)) [1, -1] rfl h0
theorem ax9b8fea {n0 n1 n2 : Nat} (h0 : n0 ≤ 2) (h1 : n1 ≤ 20) (h2 : n2 ≤ 4) : ((n0 + n1) + n2) ≤ 30 := linG [n0, n1, n2] [] [.nl (.v 0) (.c 2), .nl (.v 1) (.c 20), .nl (.v 2) (.c 4)] (.nl (.a (.a (.v 0) (.v 1)) (.v 2)) (.c 30)) [1, 1, 1, 1] rfl h0 h1 h2
theorem ax9c3b80 {n0 n1 n2 : Nat} (h0 : n0 ≤ n1) (h1 : n2 < n0) : n2 < (n1 + 1) := linG [n0, n1, n2] [] [.nl (.v 0) (.v 1), .nt (.v 2) (.v 0)] (.nt (.v 2) (.a (.v 1) (.c 1))) [1, 1, 1] rfl h0 h1
theorem ax9d990b {n0 n1 n2 n3 : Nat} (h0 : n0 ≤ n1) (h1 : n2 ≤ n3) (h2 : n1 ≤ n2) : n0 ≤ n3 := linG [n0, n1, n2, n3] [] [.nl (.v 0) (.v 1), .nl (.v 2) (.v 3), .nl (.v 1) (.v 2)] (.nl (.v 0) (.v 3)) [1, 1, 1, 1] rfl h0 h1 h2
theorem ax9dedb6 {n0 n1 : Nat} : (n0 : Int) ≤ (((n0 + n1) : Nat) : Int) := linG [n0, n1] [] [] (.il (.n (.v 0)) (.n (.a (.v 0) (.v 1)))) [1] rfl
theorem ax9eacb0 {n0 : Nat} {z0 : Int} (h0 : (n0 : Int) < z0) (h1 : z0 ≤ (n0 : Int)) : False := linF [n0] [z0] [.it (.n (.v 0)) (.v 0), .il (.v 0) (.n (.v 0))] [1, 1] rfl h0 h1
theorem ax9f08d8 {n0 n1 : Nat} (h0 : (n0 + n1) ≤ 18) : (((n0 : Int) + 0) + (n1 : Int)) ≤ 18 := linG [n0, n1] [] [.nl (.a (.v 0) (.v 1)) (.c 18)] (.il (.a (.a (.n (.v 0)) (.c 0)) (.n (.v 1))) (.c 18)) [1, 1] rfl h0
theorem axa093aa {n0 : Nat} (h0 : n0 ≤ 500) : n0 ≤ 1000 := linG [n0] [] [.nl (.v 0) (.c 500)] (.nl (.v 0) (.c 1000)) [1, 1] rfl h0
theorem axa0fc75 {n0 : Nat} (h0 : (n0 : Int) < 4) : ((n0 + 1) + 1) ≤ 8 := linG [n0] [] [.it (.n (.v 0)) (.c 4)] (.nl (.a (.a (.v 0) (.c 1)) (.c 1)) (.c 8)) [1, 1] rfl h0
theorem axa1f6a1 {n0 n1 n2 : Nat} (h0 : n0 ≤ n1) : (0 + n0) ≤ (n2 + n1) := linG [n0, n1, n2] [] [.nl (.v 0) (.v 1)] (.nl (.a (.c 0) (.v 0)) (.a (.v 2) (.v 1))) [1, 1] rfl h0
theorem axa299b1 {n0 : Nat} {z0 : Int} (h0 : z0 = (n0 : Int)) : (z0 + 1) = (((n0 + 1) : Nat) : Int) := linZ [n0] [z0] [.ie (.v 0) (.n (.v 0))] (.a (.v 0) (.c 1)) (.n (.a (.v 0) (.c 1))) [1, -1] [1, 1] rfl rfl h0
theorem axa2d858 {n0 : Nat} (h0 : n0 ≤ 18) : (n0 : Int) ≤ 1048576 := linG [n0] [] [.nl (.v 0) (.c 18)] (.il (.n (.v 0)) (.c 1048576)) [1, 1] rfl h0
theorem axa5829e {n0 : Nat} (h0 : n0 = 1) : 0 < n0 := linG [n0] [] [.ne (.v 0) (.c 1)] (.nt (.c 0) (.v 0)) [1, -1] rfl h0
theorem axa7714c {n0 : Nat} (h0 : n0 ≤ 10) : n0 ≤ 500 := linG [n0] [] [.nl (.v 0) (.c 10)] (.nl (.v 0) (.c 500)) [1, 1] rfl h0
theorem axa9975a {n0 : Nat} (h0 : n0 ≤ 900) : (n0 + 1) ≤ 1000 := linG [n0] [] [.nl (.v 0) (.c 900)] (.nl (.a (.v 0) (.c 1)) (.c 1000)) [1, 1] rfl h0
theorem axaab2df {n0 n1 : Nat} (h0 : n0 ≤ 30) (h1 : n1 ≤ (2 * n0)) : n1 ≤ 1000 := linG [n0, n1] [] [.nl (.v 0) (.c 30), .nl (.v 1) (.m 2 (.v 0))] (.nl (.v 1) (.c 1000)) [1, 2, 1] rfl h0 h1
theorem axacffb5 {n0 : Nat} (h0 : 2 ≤ n0) (h1 : n0 ≤ 1) : False := linF [n0] [] [.nl (.c 2) (.v 0), .nl (.v 0) (.c 1)] [1, 1] rfl h0 h1
theorem axad970e {n0 n1 n2 : Nat} (h0 : n0 ≤ 2) (h1 : (n1 + n2) ≤ (3 * n2)) : ((n0 + n1) + (n2 + 1)) ≤ (3 * (n2 + 1)) := linG [n0, n1, n2] [] [.nl (.v 0) (.c 2), .nl (.a (.v 1) (.v 2)) (.m 3 (.v 2))] (.nl (.a (.a (.v 0) (.v 1)) (.a (.v 2) (.c 1))) (.m 3 (.a (.v 2) (.c 1)))) [1, 1, 1] rfl h0 h1
theorem axaddb3a {n0 n1 n2 : Nat} (h0 : (n0 + n1) ≤ 18) : (-30) < ((n2 : Int) - (n1 : Int)) := linG [n0, n1, n2] [] [.nl (.a (.v 0) (.v 1)) (.c 18)] (.it (.c (-30)) (.s (.n (.v 2)) (.n (.v 1)))) [1, 1] rfl h0
theorem axae768e {n0 : Nat} {z0 : Int} (h0 : z0 ≤ (n0 : Int)) (h1 : (n0 : Int) < z0) : False := linF [n0] [z0] [.il (.v 0) (.n (.v 0)), .it (.n (.v 0)) (.v 0)] [1, 1] rfl h0 h1
theorem axafa6c2 {n0 : Nat} (h0 : (n0 : Int) < 4) : (n0 + 1) ≤ 8 := linG [n0] [] [.it (.n (.v 0)) (.c 4)] (.nl (.a (.v 0) (.c 1)) (.c 8)) [1, 1] rfl h0
theorem axb228e1 {n0 : Nat} (h0 : n0 ≤ 500) : (((n0 + 1) + 1) + 1) ≤ 1000 := linG [n0] [] [.nl (.v 0) (.c 500)] (.nl (.a (.a (.a (.v 0) (.c 1)) (.c 1)) (.c 1)) (.c 1000)) [1, 1] rfl h0
theorem axb36fbc {n0 : Nat} (h0 : (n0 : Int) < 2) : (1 + (n0 : Int)) ≤ 1048576 := linG [n0] [] [.it (.n (.v 0)) (.c 2)] (.il (.a (.c 1) (.n (.v 0))) (.c 1048576)) [1, 1] rfl h0
theorem axb40f80 {n0 n1 n2 n3 n4 n5 : Nat} (h0 : n0 ≤ n1) (h1 : n2 ≤ (n3 + 1)) (h2 : n4 ≤ n5) : (n0 + (n4 + n2)) ≤ ((n1 + (n5 + n3)) + 1) := linG [n0, n1, n2, n3, n4, n5] [] [.nl (.v 0) (.v 1), .nl (.v 2) (.a (.v 3) (.c 1)), .nl (.v 4) (.v 5)] (.nl (.a (.v 0) (.a (.v 4) (.v 2))) (.a (.a (.v 1) (.a (.v 5) (.v 3))) (.c 1))) [1, 1, 1, 1] rfl h0 h1 h2
theorem axb51461 {z0 : Int} (h0 : z0 = 4) (h1 : z0 = 1) : False := linF [] [z0] [.ie (.v 0) (.c 4), .ie (.v 0) (.c 1)] [-1, 1] rfl h0 h1
theorem axb546ae {z0 z1 z2 : Int} (h0 : z0 < z1) (h1 : z2 ≤ z0) : z2 ≤ z1 := linG [] [z0, z1, z2] [.it (.v 0) (.v 1), .il (.v 2) (.v 0)] (.il (.v 2) (.v 1)) [1, 1, 1] rfl h0 h1
theorem axb57ed3 {n0 n1 n2 n3 : Nat} (h0 : n0 < (n1 + (n2 + n3))) : n0 < ((n1 + n2) + n3) := linG [n0, n1, n2, n3] [] [.nt (.v 0) (.a (.v 1) (.a (.v 2) (.v 3)))] (.nt (.v 0) (.a (.a (.v 1) (.v 2)) (.v 3))) [1, 1] rfl h0
theorem axb62948 {n0 : Nat} (h0 : n0 ≤ 30) : (3 * n0) ≤ 1048576 := linG [n0] [] [.nl (.v 0) (.c 30)] (.nl (.m 3 (.v 0)) (.c 1048576)) [1, 3] rfl h0
theorem axb78553 {n0 n1 : Nat} (h0 : (n0 + n1) ≤ 30) : (n0 + n1) ≤ 1048576 := linG [n0, n1] [] [.nl (.a (.v 0) (.v 1)) (.c 30)] (.nl (.a (.v 0) (.v 1)) (.c 1048576)) [1, 1] rfl h0
theorem axb7b693 {n0 n1 : Nat} (h0 : n0 ≤ 10) : (n0 + 40) ≤ (100 + (10 * n1)) := linG [n0, n1] [] [.nl (.v 0) (.c 10)] (.nl (.a (.v 0) (.c 40)) (.a (.c 100) (.m 10 (.v 1)))) [1, 1] rfl h0
theorem axb89667 {n0 n1 n2 n3 n4 : Nat} (h0 : n0 ≤ 30) (h1 : (n1 + n2) = n0) (h2 : n2 = (n3 + n4)) : (n1 + n3) ≤ 30 := linG [n0, n1, n2, n3, n4] [] [.nl (.v 0) (.c 30), .ne (.a (.v 1) (.v 2)) (.v 0), .ne (.v 2) (.a (.v 3) (.v 4))] (.nl (.a (.v 1) (.v 3)) (.c 30)) [1, 1, 1, -1] rfl h0 h1 h2
theorem axb956d2 {n0 : Nat} : 0 ≤ (n0 : Int) := linG [n0] [] [] (.il (.c 0) (.n (.v 0))) [1] rfl
theorem axb99903 {z0 : Int} (h0 : z0 ≤ 2) (h1 : z0 = 3) : False := linF [] [z0] [.il (.v 0) (.c 2), .ie (.v 0) (.c 3)] [1, -1] rfl h0 h1
theorem axb9c125 : (1 + (0 + 0)) ≤ 1 := linG [] [] [] (.nl (.a (.c 1) (.a (.c 0) (.c 0))) (.c 1)) [1] rfl
theorem axba9f05 {n0 n1 n2 : Nat} (h0 : n0 ≤ 30) (h1 : n0 = (n1 + (n2 + 1))) : n1 ≤ 30 := linG [n0, n1, n2] [] [.nl (.v 0) (.c 30), .ne (.v 0) (.a (.v 1) (.a (.v 2) (.c 1)))] (.nl (.v 1) (.c 30)) [1, 1, -1] rfl h0 h1
theorem axbd5390 {n0 : Nat} (h0 : n0 ≤ 500) : (((((n0 + 1) + 1) + 1) + 1) + 1) ≤ 1000 := linG [n0] [] [.nl (.v 0) (.c 500)] (.nl (.a (.a (.a (.a (.a (.v 0) (.c 1)) (.c 1)) (.c 1)) (.c 1)) (.c 1)) (.c 1000)) [1, 1] rfl h0
theorem axbe9eae {n0 : Nat} (h0 : (n0 + 1) ≤ 4) : n0 ≤ 3 := linG [n0] [] [.nl (.a (.v 0) (.c 1)) (.c 4)] (.nl (.v 0) (.c 3)) [1, 1] rfl h0
theorem axbf4267 {n0 : Nat} (h0 : 0 < (n0 : Int)) : 1 ≤ n0 := linG [n0] [] [.it (.c 0) (.n (.v 0))] (.nl (.c 1) (.v 0)) [1, 1] rfl h0
theorem axbf86c8 {n0 : Nat} : (n0 : Int) < ((n0 : Int) + 3) := linG [n0] [] [] (.it (.n (.v 0)) (.a (.n (.v 0)) (.c 3))) [1] rfl
theorem axbfd972 {n0 n1 : Nat} (h0 : n0 < 1152921504606846976) (h1 : n1 ≤ n0) : n1 < 1152921504606846976 := linG [n0, n1] [] [.nt (.v 0) (.c 1152921504606846976), .nl (.v 1) (.v 0)] (.nt (.v 1) (.c 1152921504606846976)) [1, 1, 1] rfl h0 h1
theorem axc05f72 {n0 : Nat} (h0 : n0 = 0) : n0 = 0 := linE [n0] [] [.ne (.v 0) (.c 0)] (.v 0) (.c 0) [1, 0] [1, 1] rfl rfl h0
theorem axc188ea {n0 : Nat} (h0 : n0 = 0) (h1 : 0 < n0) : False := linF [n0] [] [.ne (.v 0) (.c 0), .nt (.c 0) (.v 0)] [1, 1] rfl h0 h1
theorem axc19da6 : (0 + 1) ≤ 1 := linG [] [] [] (.nl (.a (.c 0) (.c 1)) (.c 1)) [1] rfl
theorem axc1f1e6 {n0 : Nat} (h0 : n0 ≤ 1) : n0 ≤ 2 := linG [n0] [] [.nl (.v 0) (.c 1)] (.nl (.v 0) (.c 2)) [1, 1] rfl h0
theorem axc2dbf5 {n0 : Nat} : ((n0 + 26) + 1) ≤ (n0 + 30) := linG [n0] [] [] (.nl (.a (.a (.v 0) (.c 26)) (.c 1)) (.a (.v 0) (.c 30))) [1] rfl
theorem axc4901f {n0 n1 : Nat} (h0 : n0 ≤ 28) (h1 : (n1 + n0) ≤ (3 * n0)) : (n1 + n0) ≤ 1048576 := linG [n0, n1] [] [.nl (.v 0) (.c 28), .nl (.a (.v 1) (.v 0)) (.m 3 (.v 0))] (.nl (.a (.v 1) (.v 0)) (.c 1048576)) [1, 3, 1] rfl h0 h1
theorem axc4dd0d {z0 : Int} (h0 : 0 ≤ z0) : 0 ≤ ((z0 + 1) + 2) := linG [] [z0] [.il (.c 0) (.v 0)] (.il (.c 0) (.a (.a (.v 0) (.c 1)) (.c 2))) [1, 1] rfl h0
theorem axc53936 {n0 : Nat} (h0 : n0 ≤ 18) : (n0 : Int) < 1048576 := linG [n0] [] [.nl (.v 0) (.c 18)] (.it (.n (.v 0)) (.c 1048576)) [1, 1] rfl h0
theorem axc5d78b {n0 : Nat} {z0 : Int} (h0 : (n0 : Int) ≤ z0) : 0 ≤ (z0 - (n0 : Int)) := linG [n0] [z0] [.il (.n (.v 0)) (.v 0)] (.il (.c 0) (.s (.v 0) (.n (.v 0)))) [1, 1] rfl h0
theorem axc65665 {n0 n1 n2 n3 : Nat} (h0 : n0 ≤ (n1 + 1)) (h1 : n2 ≤ (n0 + n3)) : n2 ≤ (n1 + (n3 + 1)) := linG [n0, n1, n2, n3] [] [.nl (.v 0) (.a (.v 1) (.c 1)), .nl (.v 2) (.a (.v 0) (.v 3))] (.nl (.v 2) (.a (.v 1) (.a (.v 3) (.c 1)))) [1, 1, 1] rfl h0 h1
theorem axc6830a {n0 n1 : Nat} (h0 : (n0 + 1) ≤ (n1 + 1)) : n0 ≤ n1 := linG [n0, n1] [] [.nl (.a (.v 0) (.c 1)) (.a (.v 1) (.c 1))] (.nl (.v 0) (.v 1)) [1, 1] rfl h0
theorem axc6c77b {n0 n1 : Nat} (h0 : n0 ≤ 10) (h1 : n1 ≤ (2 * n0)) : n1 ≤ 20 := linG [n0, n1] [] [.nl (.v 0) (.c 10), .nl (.v 1) (.m 2 (.v 0))] (.nl (.v 1) (.c 20)) [1, 2, 1] rfl h0 h1
theorem axc81f52 {n0 : Nat} (h0 : n0 ≤ 18) : n0 ≤ 30 := linG [n0] [] [.nl (.v 0) (.c 18)] (.nl (.v 0) (.c 30)) [1, 1] rfl h0
theorem axc8fcc1 {n0 : Nat} : (n0 + 30) ≤ (n0 + 31) := linG [n0] [] [] (.nl (.a (.v 0) (.c 30)) (.a (.v 0) (.c 31))) [1] rfl
theorem axc95959 {n0 : Nat} (h0 : n0 < 2) : n0 ≤ 1 := linG [n0] [] [.nt (.v 0) (.c 2)] (.nl (.v 0) (.c 1)) [1, 1] rfl h0
theorem axc9c108 : (0 : Int) = (0 : Int) := linZ [] [] [] (.c 0) (.c 0) [1] [1] rfl rfl
theorem axca42dc {n0 n1 : Nat} (h0 : n0 ≤ 18) : (((n0 : Int) - 1) - (n1 : Int)) ≤ 1000 := linG [n0, n1] [] [.nl (.v 0) (.c 18)] (.il (.s (.s (.n (.v 0)) (.c 1)) (.n (.v 1))) (.c 1000)) [1, 1] rfl h0
theorem axcb450d {n0 n1 : Nat} (h0 : n0 ≤ n1) : n0 ≤ n1 := linG [n0, n1] [] [.nl (.v 0) (.v 1)] (.nl (.v 0) (.v 1)) [1, 1] rfl h0
theorem axcb5e9d {n0 n1 n2 : Nat} (h0 : n0 ≤ n1) (h1 : n2 ≤ n0) : n2 ≤ n1 := linG [n0, n1, n2] [] [.nl (.v 0) (.v 1), .nl (.v 2) (.v 0)] (.nl (.v 2) (.v 1)) [1, 1, 1] rfl h0 h1
theorem axcbd616 {n0 n1 n2 : Nat} (h0 : (n0 + n1) ≤ n2) : (((n0 + n1) : Nat) : Int) ≤ (n2 : Int) := linG [n0, n1, n2] [] [.nl (.a (.v 0) (.v 1)) (.v 2)] (.il (.n (.a (.v 0) (.v 1))) (.n (.v 2))) [1, 1] rfl h0
theorem axcc7fd4 {n0 : Nat} (h0 : 0 < n0) : 0 < (n0 : Int) := linG [n0] [] [.nt (.c 0) (.v 0)] (.it (.c 0) (.n (.v 0))) [1, 1] rfl h0
theorem axcd2c5e {n0 : Nat} {z0 : Int} (h0 : z0 < 30) : (z0 - (n0 : Int)) ≤ 1000 := linG [n0] [z0] [.it (.v 0) (.c 30)] (.il (.s (.v 0) (.n (.v 0))) (.c 1000)) [1, 1] rfl h0
theorem axcd4cd4 {n0 n1 n2 : Nat} (h0 : n0 ≤ n1) : (n2 + n0) ≤ (n2 + n1) := linG [n0, n1, n2] [] [.nl (.v 0) (.v 1)] (.nl (.a (.v 2) (.v 0)) (.a (.v 2) (.v 1))) [1, 1] rfl h0
theorem axcdbb91 {z0 : Int} (h0 : z0 = 5) (h1 : z0 < 5) : False := linF [] [z0] [.ie (.v 0) (.c 5), .it (.v 0) (.c 5)] [-1, 1] rfl h0 h1
theorem axceabbf {n0 : Nat} (h0 : n0 ≤ 30) : (2 * n0) ≤ 1000 := linG [n0] [] [.nl (.v 0) (.c 30)] (.nl (.m 2 (.v 0)) (.c 1000)) [1, 2] rfl h0
theorem axd339f8 {n0 n1 : Nat} (h0 : n0 ≤ 3) (h1 : n1 ≤ 5) : (n1 + n0) ≤ 10 := linG [n0, n1] [] [.nl (.v 0) (.c 3), .nl (.v 1) (.c 5)] (.nl (.a (.v 1) (.v 0)) (.c 10)) [1, 1, 1] rfl h0 h1
theorem axd518ee {n0 : Nat} (h0 : n0 ≤ 900) : n0 ≤ 1000 := linG [n0] [] [.nl (.v 0) (.c 900)] (.nl (.v 0) (.c 1000)) [1, 1] rfl h0
theorem axd8ffa9 {z0 : Int} (h0 : z0 < 0) (h1 : (0 - z0) < 0) : False := linF [] [z0] [.it (.v 0) (.c 0), .it (.s (.c 0) (.v 0)) (.c 0)] [1, 1] rfl h0 h1
theorem axd90ece {n0 n1 n2 : Nat} (h0 : n0 ≤ n1) (h1 : n1 < (n0 + 0)) : n2 = 48 := linE [n0, n1, n2] [] [.nl (.v 0) (.v 1), .nt (.v 1) (.a (.v 0) (.c 0))] (.v 2) (.c 48) [0, 1, 1] [0, 1, 1] rfl rfl h0 h1
theorem axdac939 {n0 : Nat} {z0 : Int} (h0 : n0 < 30) (h1 : (-30) < z0) : ((n0 : Int) - z0) ≤ 1000 := linG [n0] [z0] [.nt (.v 0) (.c 30), .it (.c (-30)) (.v 0)] (.il (.s (.n (.v 0)) (.v 0)) (.c 1000)) [1, 1, 1] rfl h0 h1
theorem axdbfddb {n0 : Nat} (h0 : 2 ≤ n0) : 1 < n0 := linG [n0] [] [.nl (.c 2) (.v 0)] (.nt (.c 1) (.v 0)) [1, 1] rfl h0
theorem axdd06ae {n0 n1 : Nat} (h0 : (0 + n0) ≤ n1) : n0 ≤ n1 := linG [n0, n1] [] [.nl (.a (.c 0) (.v 0)) (.v 1)] (.nl (.v 0) (.v 1)) [1, 1] rfl h0
theorem axdeaa43 {z0 : Int} (h0 : z0 = 5) (h1 : z0 = 0) : False := linF [] [z0] [.ie (.v 0) (.c 5), .ie (.v 0) (.c 0)] [-1, 1] rfl h0 h1
theorem axdebabd : (0 + 0) ≤ 1 := linG [] [] [] (.nl (.a (.c 0) (.c 0)) (.c 1)) [1] rfl
theorem axdef159 {n0 : Nat} (h0 : (n0 + 1) ≤ 2) : n0 ≤ 1 := linG [n0] [] [.nl (.a (.v 0) (.c 1)) (.c 2)] (.nl (.v 0) (.c 1)) [1, 1] rfl h0
theorem axdf3d46 {n0 : Nat} : (-1048576) ≤ (1 + (n0 : Int)) := linG [n0] [] [] (.il (.c (-1048576)) (.a (.c 1) (.n (.v 0)))) [1] rfl
theorem axdf86e9 {z0 z1 z2 : Int} (h0 : z0 = 0) (h1 : (z0 + z1) = z2) : z2 = z1 := linZ [] [z0, z1, z2] [.ie (.v 0) (.c 0), .ie (.a (.v 0) (.v 1)) (.v 2)] (.v 2) (.v 1) [1, -1, 1] [1, 1, -1] rfl rfl h0 h1
theorem axdfbe0e {z0 : Int} (h0 : z0 < 0) (h1 : 0 ≤ z0) : False := linF [] [z0] [.it (.v 0) (.c 0), .il (.c 0) (.v 0)] [1, 1] rfl h0 h1
theorem axe02d92 {n0 n1 : Nat} (h0 : n0 ≤ (n1 + 1)) : n0 ≤ (n1 + 1) := linG [n0, n1] [] [.nl (.v 0) (.a (.v 1) (.c 1))] (.nl (.v 0) (.a (.v 1) (.c 1))) [1, 1] rfl h0
theorem axe09146 {n0 n1 n2 n3 : Nat} (h0 : n0 ≤ 30) (h1 : n1 ≤ n2) (h2 : n0 = (n2 + (n3 + 1))) : n1 ≤ 30 := linG [n0, n1, n2, n3] [] [.nl (.v 0) (.c 30), .nl (.v 1) (.v 2), .ne (.v 0) (.a (.v 2) (.a (.v 3) (.c 1)))] (.nl (.v 1) (.c 30)) [1, 1, 1, -1] rfl h0 h1 h2
theorem axe1a261 {z0 : Int} : (z0 + (((1 : Nat) : Int) - 1)) = z0 := linZ [] [z0] [] (.a (.v 0) (.s (.n (.c 1)) (.c 1))) (.v 0) [1] [1] rfl rfl
theorem axe48c98 {z0 : Int} (h0 : 0 < z0) : 0 ≤ (z0 - 1) := linG [] [z0] [.it (.c 0) (.v 0)] (.il (.c 0) (.s (.v 0) (.c 1))) [1, 1] rfl h0
theorem axe49597 {n0 n1 : Nat} (h0 : n0 ≤ (2 * n1)) : n0 ≤ (2 * n1) := linG [n0, n1] [] [.nl (.v 0) (.m 2 (.v 1))] (.nl (.v 0) (.m 2 (.v 1))) [1, 1] rfl h0
theorem axe5768d {n0 n1 : Nat} (h0 : 1 ≤ n0) : 1 ≤ (n1 + n0) := linG [n0, n1] [] [.nl (.c 1) (.v 0)] (.nl (.c 1) (.a (.v 1) (.v 0))) [1, 1] rfl h0
theorem axe6fbdb {n0 : Nat} {z0 z1 z2 : Int} (h0 : ((z0 + z1) + z2) = (n0 : Int)) : ((z0 + (z1 + 1)) + z2) = (((n0 + 1) : Nat) : Int) := linZ [n0] [z0, z1, z2] [.ie (.a (.a (.v 0) (.v 1)) (.v 2)) (.n (.v 0))] (.a (.a (.v 0) (.a (.v 1) (.c 1))) (.v 2)) (.n (.a (.v 0) (.c 1))) [1, -1] [1, 1] rfl rfl h0
theorem axe72ede {n0 : Nat} (h0 : n0 < 0) : False := linF [n0] [] [.nt (.v 0) (.c 0)] [1] rfl h0
theorem axe74e8d : (0 + (0 + 0)) ≤ 1 := linG [] [] [] (.nl (.a (.c 0) (.a (.c 0) (.c 0))) (.c 1)) [1] rfl
theorem axe799c9 {n0 n1 : Nat} (h0 : 0 < n0) : 0 < (n0 + n1) := linG [n0, n1] [] [.nt (.c 0) (.v 0)] (.nt (.c 0) (.a (.v 0) (.v 1))) [1, 1] rfl h0
theorem axe7e220 {n0 n1 n2 n3 : Nat} (h0 : n0 ≤ n1) (h1 : n2 = (n1 + (n3 + 1))) (h2 : n2 ≤ 30) : n0 ≤ 40 := linG [n0, n1, n2, n3] [] [.nl (.v 0) (.v 1), .ne (.v 2) (.a (.v 1) (.a (.v 3) (.c 1))), .nl (.v 2) (.c 30)] (.nl (.v 0) (.c 40)) [1, 1, -1, 1] rfl h0 h1 h2
theorem axe94ab2 {n0 : Nat} : (((((n0 + 1) + 1) + 1) + 1) + 1) ≤ (n0 + 6) := linG [n0] [] [] (.nl (.a (.a (.a (.a (.a (.v 0) (.c 1)) (.c 1)) (.c 1)) (.c 1)) (.c 1)) (.a (.v 0) (.c 6))) [1] rfl
theorem axea50fb {n0 : Nat} : 0 < ((n0 : Int) + 1) := linG [n0] [] [] (.it (.c 0) (.a (.n (.v 0)) (.c 1))) [1] rfl
theorem axeada5b {n0 n1 n2 : Nat} (h0 : n0 ≤ n1) (h1 : n1 ≤ n2) : n0 ≤ n2 := linG [n0, n1, n2] [] [.nl (.v 0) (.v 1), .nl (.v 1) (.v 2)] (.nl (.v 0) (.v 2)) [1, 1, 1] rfl h0 h1
theorem axeb79ec {n0 : Nat} (h0 : 2 ≤ n0) (h1 : n0 = 1) : False := linF [n0] [] [.nl (.c 2) (.v 0), .ne (.v 0) (.c 1)] [1, 1] rfl h0 h1
theorem axeb82c2 {n0 : Nat} {z0 : Int} (h0 : z0 ≤ (n0 : Int)) : z0 ≤ (((n0 + 1) : Nat) : Int) := linG [n0] [z0] [.il (.v 0) (.n (.v 0))] (.il (.v 0) (.n (.a (.v 0) (.c 1)))) [1, 1] rfl h0
theorem axec88df {n0 n1 : Nat} (h0 : (n0 : Int) < 4) (h1 : n1 ≤ 5) : (n1 + n0) ≤ 30 := linG [n0, n1] [] [.it (.n (.v 0)) (.c 4), .nl (.v 1) (.c 5)] (.nl (.a (.v 1) (.v 0)) (.c 30)) [1, 1, 1] rfl h0 h1
theorem axed617f {n0 : Nat} (h0 : n0 ≤ 1) (h1 : 1 < n0) : False := linF [n0] [] [.nl (.v 0) (.c 1), .nt (.c 1) (.v 0)] [1, 1] rfl h0 h1
theorem axedd97c {n0 n1 n2 n3 : Nat} (h0 : n0 ≤ 20) (h1 : n1 ≤ 2) (h2 : n2 ≤ 1) (h3 : n3 ≤ 4) : (n1 + ((n0 + n3) + n2)) ≤ 28 := linG [n0, n1, n2, n3] [] [.nl (.v 0) (.c 20), .nl (.v 1) (.c 2), .nl (.v 2) (.c 1), .nl (.v 3) (.c 4)] (.nl (.a (.v 1) (.a (.a (.v 0) (.v 3)) (.v 2))) (.c 28)) [1, 1, 1, 1, 1] rfl h0 h1 h2 h3
theorem axee725d {n0 : Nat} : 1 ≤ (1 + n0) := linG [n0] [] [] (.nl (.c 1) (.a (.c 1) (.v 0))) [1] rfl
theorem axef9601 {z0 : Int} (h0 : z0 = 5) (h1 : z0 = 2) : False := linF [] [z0] [.ie (.v 0) (.c 5), .ie (.v 0) (.c 2)] [-1, 1] rfl h0 h1
theorem axeffede {n0 n1 n2 n3 : Nat} (h0 : n0 ≤ 2) (h1 : n1 ≤ 20) (h2 : n2 ≤ 4) (h3 : n3 ≤ 1) : (((n0 + n1) + n2) + n3) ≤ 30 := linG [n0, n1, n2, n3] [] [.nl (.v 0) (.c 2), .nl (.v 1) (.c 20), .nl (.v 2) (.c 4), .nl (.v 3) (.c 1)] (.nl (.a (.a (.a (.v 0) (.v 1)) (.v 2)) (.v 3)) (.c 30)) [1, 1, 1, 1, 1] rfl h0 h1 h2 h3
theorem axf1d1ee {z0 : Int} (h0 : z0 = 5) (h1 : z0 = 1) : False := linF [] [z0] [.ie (.v 0) (.c 5), .ie (.v 0) (.c 1)] [-1, 1] rfl h0 h1
theorem axf23fe3 {n0 : Nat} (h0 : (48 + n0) = 41) : False := linF [n0] [] [.ne (.a (.c 48) (.v 0)) (.c 41)] [1] rfl h0
theorem axf24cd6 {n0 : Nat} (h0 : n0 < 5) : n0 < 30 := linG [n0] [] [.nt (.v 0) (.c 5)] (.nt (.v 0) (.c 30)) [1, 1] rfl h0
theorem axf426a0 {n0 n1 n2 n3 n4 n5 : Nat} (h0 : n0 ≤ n1) (h1 : n2 < n0) (h2 : n3 ≤ n4) (h3 : n1 ≤ n5) (h4 : n5 ≤ n3) (h5 : n4 = n2) : False := linF [n0, n1, n2, n3, n4, n5] [] [.nl (.v 0) (.v 1), .nt (.v 2) (.v 0), .nl (.v 3) (.v 4), .nl (.v 1) (.v 5), .nl (.v 5) (.v 3), .ne (.v 4) (.v 2)] [1, 1, 1, 1, 1, 1] rfl h0 h1 h2 h3 h4 h5
theorem axf5d222 {n0 : Nat} : 1 ≤ (n0 + 1) := linG [n0] [] [] (.nl (.c 1) (.a (.v 0) (.c 1))) [1] rfl
theorem axf6656b {n0 : Nat} (h0 : 2 ≤ n0) (h1 : (n0 : Int) = 0) : False := linF [n0] [] [.nl (.c 2) (.v 0), .ie (.n (.v 0)) (.c 0)] [1, 1] rfl h0 h1
theorem axf77272 {n0 n1 : Nat} (h0 : n0 ≤ n1) : (0 + n0) ≤ (n1 + 1) := linG [n0, n1] [] [.nl (.v 0) (.v 1)] (.nl (.a (.c 0) (.v 0)) (.a (.v 1) (.c 1))) [1, 1] rfl h0
theorem axf7f447 {n0 n1 : Nat} : ((n0 + 1) + n1) = (n0 + (n1 + 1)) := linE [n0, n1] [] [] (.a (.a (.v 0) (.c 1)) (.v 1)) (.a (.v 0) (.a (.v 1) (.c 1))) [1] [1] rfl rfl
theorem axf83720 {n0 n1 n2 : Nat} (h0 : n0 ≤ 1) (h1 : n1 ≤ n2) : (n0 + n1) ≤ (n2 + 1) := linG [n0, n1, n2] [] [.nl (.v 0) (.c 1), .nl (.v 1) (.v 2)] (.nl (.a (.v 0) (.v 1)) (.a (.v 2) (.c 1))) [1, 1, 1] rfl h0 h1
theorem axf9e3b2 {z0 : Int} (h0 : z0 = 2) (h1 : z0 = 0) : False := linF [] [z0] [.ie (.v 0) (.c 2), .ie (.v 0) (.c 0)] [-1, 1] rfl h0 h1
theorem axfa36e0 {n0 : Nat} : (0 + (n0 + 0)) = n0 := linE [n0] [] [] (.a (.c 0) (.a (.v 0) (.c 0))) (.v 0) [1] [1] rfl rfl
theorem axfb8542 {n0 : Nat} (h0 : n0 ≤ 500) : (n0 + 30) ≤ 1000 := linG [n0] [] [.nl (.v 0) (.c 500)] (.nl (.a (.v 0) (.c 30)) (.c 1000)) [1, 1] rfl h0
theorem axfc1ec1 {z0 : Int} (h0 : z0 = 4) (h1 : z0 = 2) : False := linF [] [z0] [.ie (.v 0) (.c 4), .ie (.v 0) (.c 2)] [-1, 1] rfl h0 h1
theorem axfd5bed {n0 : Nat} (h0 : 1 ≤ n0) : 2 ≤ (1 + n0) := linG [n0] [] [.nl (.c 1) (.v 0)] (.nl (.c 2) (.a (.c 1) (.v 0))) [1, 1] rfl h0
theorem axfec5b3 {n0 : Nat} : 48 ≤ (48 + n0) := linG [n0] [] [] (.nl (.c 48) (.a (.c 48) (.v 0))) [1] rfl
theorem axff321d {n0 : Nat} (h0 : ((n0 : Int) + 2) < (n0 : Int)) : False := linF [n0] [] [.it (.a (.n (.v 0)) (.c 2)) (.n (.v 0))] [1] rfl h0
theorem axffbe9f {n0 : Nat} (h0 : (n0 : Int) = 0) : n0 = 0 := linE [n0] [] [.ie (.n (.v 0)) (.c 0)] (.v 0) (.c 0) [1, 0] [1, 1] rfl rfl h0
open PySem PySem.W PySem.Calls PyProof.Rows
inductive V where
  | none | bool (b : Bool) | int (i : Int) | str (s : List Nat) | bytes (b : List UInt8) | tup (vs : List V) | ref (i : Nat)
inductive HO where
  | list (vs : List V) | inst (c : Nat) (fs : List (Nat × V)) | dict (kvs : List (List Nat × V))
noncomputable abbrev Hp := List HO
noncomputable abbrev Rho := List (Option V)
noncomputable abbrev KV := V → Hp → Prop
noncomputable abbrev KB := Bool → Hp → Prop
noncomputable abbrev KL := List V → Hp → Prop
noncomputable abbrev KN := Rho → Hp → Prop
noncomputable abbrev EX := Rho → Hp → KV → Prop
noncomputable abbrev TX := Rho → Hp → KB → Prop
noncomputable abbrev LX := Rho → Hp → KL → Prop
noncomputable abbrev SX := Rho → Hp → KN → KV → Prop
noncomputable abbrev FX := List V → Hp → KV → Prop
inductive Role where
  | none | obj (i : Nat) | dct (a : Addr) | tup (vs : List V) (ws : List Value) | tmp
noncomputable abbrev Roles := Addr → Role
noncomputable def RV (role : Roles) (v : V) (w : Value) : Prop := match v with
  | .none => w = .none
  | .bool b => w = .bool b
  | .int i => ∃ t, w = .int i t
  | .str s => ∃ t, w = .str ⟨s.toArray⟩ t
  | .bytes b => ∃ t, w = .bytes b.toArray t
  | .tup vs => ∃ a ws, w = .ref a ∧ role a = .tup vs ws
  | .ref i => ∃ a, w = .ref a ∧ role a = .obj i
noncomputable def RVs (role : Roles) : List V → List Value → Prop
  | [], ws => ws = []
  | v :: vs, ws => ∃ w us, ws = w :: us ∧ RV role v w ∧ RVs role vs us
section
variable {role r r' : Roles}
theorem RV.none : RV role .none .none := rfl
theorem RV.bool {b : Bool} : RV role (.bool b) (.bool b) := rfl
theorem RV.int {i : Int} {t : Tok} : RV role (.int i) (.int i t) := ⟨t, rfl⟩
theorem RV.str {s : List Nat} {t : Tok} : RV role (.str s) (.str ⟨s.toArray⟩ t) := ⟨t, rfl⟩
theorem RV.bytes {s : List UInt8} {t : Tok} : RV role (.bytes s) (.bytes s.toArray t) := ⟨t, rfl⟩
theorem RV.tup {vs : List V} {a : Addr} {ws : List Value} (h : role a = .tup vs ws) : RV role (.tup vs) (.ref a) := ⟨a, ws, rfl, h⟩
theorem RV.ref {i : Nat} {a : Addr} (h : role a = .obj i) : RV role (.ref i) (.ref a) := ⟨a, rfl, h⟩
variable {C : Value → Prop} {Cs : List Value → Prop} {w : Value} {ws : List Value}
@[elab_as_elim] theorem RV.oBool {b : Bool} (h : RV role (.bool b) w) (k : C (.bool b)) : C w := Eq.subst (motive := C) (Eq.symm h) k
@[elab_as_elim] theorem RV.oInt {i : Int} (h : RV role (.int i) w) (k : ∀ t, C (.int i t)) : C w := h.elim fun t e => Eq.subst (motive := C) e.symm (k t)
@[elab_as_elim] theorem RV.oStr {s : List Nat} (h : RV role (.str s) w) (k : ∀ t, C (.str ⟨s.toArray⟩ t)) : C w := h.elim fun t e => Eq.subst (motive := C) e.symm (k t)
@[elab_as_elim] theorem RV.oBytes {s : List UInt8} (h : RV role (.bytes s) w) (k : ∀ t, C (.bytes s.toArray t)) : C w := h.elim fun t e => Eq.subst (motive := C) e.symm (k t)
@[elab_as_elim] theorem RV.oTup {vs : List V} (h : RV role (.tup vs) w) (k : ∀ a ws, role a = .tup vs ws → C (.ref a)) : C w := h.elim fun a h => h.elim fun ws h => Eq.subst (motive := C) h.1.symm (k a ws h.2)
@[elab_as_elim] theorem RV.oRef {i : Nat} (h : RV role (.ref i) w) (k : ∀ a, role a = .obj i → C (.ref a)) : C w := h.elim fun a h => Eq.subst (motive := C) h.1.symm (k a h.2)
theorem RVs.nil : RVs role [] [] := rfl
theorem RVs.cons {v : V} {vs : List V} (h : RV role v w) (t : RVs role vs ws) : RVs role (v :: vs) (w :: ws) := ⟨w, ws, rfl, h, t⟩
@[elab_as_elim] theorem RVs.oNil (h : RVs role [] ws) (k : Cs []) : Cs ws := Eq.subst (motive := Cs) (Eq.symm h) k
@[elab_as_elim] theorem RVs.oCons {v : V} {vs : List V} (h : RVs role (v :: vs) ws) (k : ∀ w ws, RV role v w → RVs role vs ws → Cs (w :: ws)) : Cs ws :=
  h.elim fun w h => h.elim fun us h => Eq.subst (motive := Cs) h.1.symm (k w us h.2.1 h.2.2)
@[elab_as_elim] theorem RVs.o1 {v : V} (h : RVs role [v] ws) (k : ∀ w, RV role v w → Cs [w]) : Cs ws := h.oCons fun w _ r h => h.oNil (Cs := fun us => Cs (w :: us)) (k w r)
@[elab_as_elim] theorem RVs.o2 {u v : V} (h : RVs role [u, v] ws) (k : ∀ w x, RV role u w → RV role v x → Cs [w, x]) : Cs ws := h.oCons fun w _ r h => h.o1 (Cs := fun us => Cs (w :: us)) fun x r' => k w x r r'
@[elab_as_elim] theorem RVs.o3 {u v t : V} (h : RVs role [u, v, t] ws) (k : ∀ w x y, RV role u w → RV role v x → RV role t y → Cs [w, x, y]) : Cs ws := h.oCons fun w _ r h => h.o2 (Cs := fun us => Cs (w :: us)) fun x y r' r'' => k w x y r r' r''
noncomputable def onBool (v : V) (K : Bool → Prop) : Prop := match v with | .bool b => K b | _ => False
noncomputable def onInt (v : V) (K : Int → Prop) : Prop := match v with | .int i => K i | _ => False
noncomputable def onStr (v : V) (K : List Nat → Prop) : Prop := match v with | .str s => K s | _ => False
noncomputable def onRef (v : V) (K : Nat → Prop) : Prop := match v with | .ref i => K i | _ => False
variable {v : V}
@[elab_as_elim] theorem onBool.run {K : Bool → Prop} (h : onBool v K) (r : RV role v w) (k : ∀ b, K b → C (.bool b)) : C w := by cases v with | bool b => exact r.oBool (k b h) | _ => exact h.elim
@[elab_as_elim] theorem onInt.run {K : Int → Prop} (h : onInt v K) (r : RV role v w) (k : ∀ i t, K i → C (.int i t)) : C w := by cases v with | int b => exact r.oInt fun t => k b t h | _ => exact h.elim
@[elab_as_elim] theorem onStr.run {K : List Nat → Prop} (h : onStr v K) (r : RV role v w) (k : ∀ s t, K s → C (.str ⟨s.toArray⟩ t)) : C w := by cases v with | str b => exact r.oStr fun t => k b t h | _ => exact h.elim
@[elab_as_elim] theorem onRef.run {K : Nat → Prop} (h : onRef v K) (r : RV role v w) (k : ∀ i a, role a = .obj i → K i → C (.ref a)) : C w := by cases v with | ref b => exact r.oRef fun a e => k b a e h | _ => exact h.elim
noncomputable def Grow (role role' : Roles) : Prop := ∀ a, role a ≠ .none → role' a = role a
theorem Grow.refl (role : Roles) : Grow role role := fun _ _ => rfl
theorem Grow.trans {r₁ r₂ r₃ : Roles} (h : Grow r₁ r₂) (h' : Grow r₂ r₃) : Grow r₁ r₃ := fun a ha =>
  have e := h a ha
  (h' a (e.symm ▸ ha)).trans e
theorem Grow.at {a : Addr} {x : Role} (h : Grow r r') (e : r a = x) (hx : x ≠ .none) : r' a = x := (h a (e.symm ▸ hx)).trans e
noncomputable def Most (role role' : Roles) : Prop := ∀ a, role a ≠ .none → role a ≠ .tmp → role' a = role a
theorem Grow.most (g : Grow r r') : Most r r' := fun a h _ => g a h
theorem Most.at {a : Addr} {x : Role} (h : Most r r') (e : r a = x) (hx : x ≠ .none) (ht : x ≠ .tmp) : r' a = x := (h a (e.symm ▸ hx) (e.symm ▸ ht)).trans e
theorem RV.most (g : Most r r') {v : V} (h : RV r v w) : RV r' v w := by
  cases v with
  | tup vs => exact h.oTup fun a ws e => RV.tup (g.at e (by simp) (by simp))
  | ref i => exact h.oRef fun a e => RV.ref (g.at e (by simp) (by simp))
  | _ => exact h
theorem RVs.most (g : Most r r') {vs : List V} : ∀ {ws : List Value}, RVs r vs ws → RVs r' vs ws := by
  induction vs with
  | nil => exact id
  | cons v vs ih => exact fun h => h.oCons fun w ws a t => .cons (a.most g) (ih t)
theorem RV.mono (g : Grow r r') {v : V} (h : RV r v w) : RV r' v w := h.most g.most
theorem RVs.mono (g : Grow r r') {vs : List V} (h : RVs r vs ws) : RVs r' vs ws := h.most g.most
theorem RVs.length {vs : List V} : ∀ {ws : List Value}, RVs r vs ws → vs.length = ws.length := by
  induction vs with
  | nil => exact fun h => h.oNil rfl
  | cons v vs ih => exact fun h => h.oCons fun w ws a t => congrArg (· + 1) (ih t)
end
inductive Slot where
  | loc (x : Str) | cel (x : Str) (c : Addr) | cmp (x : Str)
structure GC where
  prog : Program
  w : World
  K : Frag
  p : Program
  loose : List Str
  mean : ExcName → Option Value
  mg : Str → Option Value
  mb : Str → Option Value
  an : Nat → Str
  tabs : List (Addr × List V × List Value)
structure FC where
  g : GC
  n : Nat
  base : Heap
  h₀ : Heap
  outer : List Env
  A₀ : Around
  L : Addr
  a : Addr
  cn : Str
  cs : Scope
  ccd : Value
  cl : List (Str × Addr)
  comp : Option (Scope × Addr × List (Str × Addr))
  slots : List Slot
noncomputable abbrev FC.M (Γ : FC) : Model := model Γ.g.prog Γ.g.w
noncomputable def FC.fenv (Γ : FC) : Env := envX Γ.cn Γ.cs Γ.L Γ.a Γ.ccd Γ.cl
noncomputable def FC.env (Γ : FC) : Env := match Γ.comp with
  | none => Γ.fenv
  | some (sc, C, cl') => compEnvC sc cl' C Γ.fenv
noncomputable def Slot.key : Slot → Nat × Str
  | .loc x => (0, x)
  | .cel x _ => (1, x)
  | .cmp x => (2, x)
noncomputable def FC.cells (Γ : FC) : List Addr := Γ.slots.filterMap fun | .cel _ c => some c | _ => none
structure FOk (Γ : FC) : Prop where
  B : Below Γ.A₀ Γ.base Γ.outer Γ.h₀
  X : Γ.g.K.In Γ.h₀
  T : Top Γ.g.p Γ.g.loose Γ.g.mean Γ.g.mg Γ.g.mb Γ.h₀
  hk : Γ.cs.kind = .function
  hc : ∀ sc C cl', Γ.comp = some (sc, C, cl') → sc.kind = .function
  nd : (Γ.slots.map Slot.key).Nodup
  tabs : ∀ p ∈ Γ.g.tabs, (Γ.g.K.lookup p.1).isSome
  inj : ∀ i j, Γ.g.an i = Γ.g.an j → i = j
  ncmp : Γ.comp = none → ∀ x, Slot.cmp x ∉ Γ.slots
  apart : ∀ sc C cl', Γ.comp = some (sc, C, cl') → C ∉ Γ.cells
noncomputable abbrev tupObj (ws : List Value) : Obj := { cls := .type "tuple", data := .seq ws.toArray }
noncomputable def REnt (an : Nat → Str) (role : Roles) : List (Nat × V) → List DictEntry → Prop
  | [], es => es = []
  | p :: fs, es => ∃ hs t w r, es = ⟨hs, .str (an p.1) t, w⟩ :: r ∧ RV role p.2 w ∧ REnt an role fs r
noncomputable def RKv (role : Roles) : List (List Nat × V) → List (Str × Value) → Prop
  | [], es => es = []
  | p :: fs, es => ∃ w r, es = (⟨p.1.toArray⟩, w) :: r ∧ RV role p.2 w ∧ RKv role fs r
noncomputable def RObj (g : GC) (role : Roles) (h : Heap) (a : Addr) : HO → Prop
  | .list vs => ∃ ws, RVs role vs ws ∧ h.PlainList a ws.toArray
  | .inst c fs => ∃ dx es n, role dx = .dct a ∧ h.get? a = some (instObj c dx) ∧ h.get? dx = some (dictOf es n) ∧ REnt g.an role fs es
  | .dict kvs => a ≠ sysModules ∧ ∃ kws, h.DictOf (_root_.PySem.strKind g.prog g.w) a kws ∧ RKv role kvs kws
noncomputable def RLoc (role : Roles) (h : Heap) (m mc : Str → Option Value) (v : V) : Slot → Prop
  | .loc x => ∃ w, m x = some w ∧ RV role v w
  | .cel _ c => ∃ w o, h.get? c = some o ∧ o.data = .cell (some w) ∧ RV role v w
  | .cmp x => ∃ w, mc x = some w ∧ RV role v w
structure HSt (g : GC) (role : Roles) (H : Hp) (h : Heap) : Prop where
  obj : ∀ a i, role a = .obj i → ∃ o, H[i]? = some o ∧ RObj g role h a o
  inj : ∀ a a' i, role a = .obj i → role a' = .obj i → a = a'
  tup : ∀ a vs ws, role a = .tup vs ws → h.IsTuple a ws.toArray ∧ RVs role vs ws
  live : ∀ a, role a ≠ .none → ∃ o, h.get? a = some o
  stat : ∀ p ∈ g.tabs, role p.1 = .tup p.2.1 p.2.2
noncomputable def Own (g : GC) (h₀ : Heap) (L : Addr) (role : Roles) : Prop :=
  ∀ a, role a ≠ .none → (h₀.get? a = none ∧ a ≠ L) ∨ ((h₀.get? a).isSome ∧ ∃ x, (a, x) ∈ g.tabs)
noncomputable def At (s : Shared) (h : Heap) (t : Nat) : Shared := { s with heap := h, toks := t }
structure Pt where
  A : Around
  s : Shared
  role : Roles
  m : Str → Option Value
  mc : Str → Option Value
  ρ : Rho
  H : Hp
structure Nx where
  h : Heap
  t : Nat
  role : Roles
  H : Hp
noncomputable def Pt.to (p : Pt) (q : Nx) : Pt := ⟨p.A, At p.s q.h q.t, q.role, p.m, p.mc, p.ρ, q.H⟩
structure Cl (Γ : FC) (n : Nat) (p : Pt) : Prop where
  fr : p.A.frames = some (Γ.fenv :: Γ.outer)
  dep : p.A.depth + 4 * n + 4 < recursionLimit
  un : p.A.units + 16 * n + 16 < cLine
  hand : p.A.handled = none
  F : Fr Γ.h₀ Γ.L p.s.heap p.m
  own : Own Γ.g Γ.h₀ Γ.L p.role
  hs : HSt Γ.g p.role p.H p.s.heap
structure Ok (Γ : FC) (p : Pt) : Prop extends Cl Γ Γ.n p where
  loc : ∀ (i : Nat) (v : V), p.ρ[i]? = some (some v) → ∃ sl, Γ.slots[i]? = some sl ∧ RLoc p.role p.s.heap p.m p.mc v sl
  cel : ∀ x c, Slot.cel x c ∈ Γ.slots → p.role c = .tmp ∧ ∃ o v, p.s.heap.get? c = some o ∧ o.data = .cell v
  cmp : ∀ sc C cl', Γ.comp = some (sc, C, cl') → p.role C = .tmp ∧ p.s.heap.Ns C p.mc
structure Ext (own : List Addr) (role : Roles) (h : Heap) (role' : Roles) (h' : Heap) : Prop where
  grow : Grow role role'
  tmp : ∀ a o, role a = .tmp → a ∉ own → h.get? a = some o → h'.get? a = some o
theorem Ext.refl (own : List Addr) (role : Roles) (h : Heap) : Ext own role h role h := ⟨.refl _, fun _ _ _ _ e => e⟩
theorem Ext.trans {own : List Addr} {r₁ r₂ r₃ : Roles} {h₁ h₂ h₃ : Heap} (x : Ext own r₁ h₁ r₂ h₂) (y : Ext own r₂ h₂ r₃ h₃) : Ext own r₁ h₁ r₃ h₃ :=
  ⟨x.grow.trans y.grow, fun a o e n q => y.tmp a o (x.grow.at e (by simp)) n (x.tmp a o e n q)⟩
theorem Ext.weak {own own' : List Addr} {r₁ r₂ : Roles} {h₁ h₂ : Heap} (x : Ext own r₁ h₁ r₂ h₂) (hs : ∀ a ∈ own, a ∈ own') : Ext own' r₁ h₁ r₂ h₂ :=
  ⟨x.grow, fun a o e n q => x.tmp a o e (fun q' => n (hs a q')) q⟩
structure Ste (Γ : FC) (p : Pt) (q : Nx) : Prop where
  ok : Ok Γ (p.to q)
  X : Ext [] p.role p.s.heap q.role q.h
noncomputable abbrev QV := Value → Shared → Prop
noncomputable def ThenE (Γ : FC) (p : Pt) (K : KV) (Q : QV) : Prop := ∀ v q w, K v q.H → Ste Γ p q → RV q.role v w → Q w (p.to q).s
noncomputable def ThenT (Γ : FC) (p : Pt) (K : KB) (Q : Bool → Shared → Prop) : Prop := ∀ b q, K b q.H → Ste Γ p q → Q b (p.to q).s
noncomputable def ThenL (Γ : FC) (p : Pt) (K : KL) (Q : List Value → Shared → Prop) : Prop := ∀ v q w, K v q.H → Ste Γ p q → RVs q.role v w → Q w (p.to q).s
structure SoundE (Γ : FC) (e : Expr) (x : EX) : Prop where
  run : ∀ (p : Pt) (Q E : QV) (K : KV), Ok Γ p → x p.ρ p.H K → ThenE Γ p K Q → wpAny Γ.M p.A (eval e Γ.env) Q E p.s
structure SoundT (Γ : FC) (e : Expr) (x : TX) : Prop where
  run : ∀ (p : Pt) (Q : Bool → Shared → Prop) (E : QV) (K : KB), Ok Γ p → x p.ρ p.H K → ThenT Γ p K Q → wpAny Γ.M p.A (isTrue e Γ.env (eval e Γ.env)) Q E p.s
structure SoundL (Γ : FC) (es : List Expr) (x : LX) : Prop where
  run : ∀ (pos : Pos) (p : Pt) (Q : List Value → Shared → Prop) (E : QV) (K : KL), Ok Γ p → x p.ρ p.H K → ThenL Γ p K Q → wpAny Γ.M p.A (spliced (backTo pos (starEach es Γ.env))) Q E p.s
section
variable {Γ : FC} {p : Pt} {q : Nx}
theorem ThenE.step {K : KV} {Q : QV} (h : ThenE Γ p K Q) (st : Ste Γ p q) : ThenE Γ (p.to q) K Q := fun v q' w k st' r => h v q' w k ⟨st'.ok, st.X.trans st'.X⟩ r
theorem ThenT.step {K : KB} {Q : Bool → Shared → Prop} (h : ThenT Γ p K Q) (st : Ste Γ p q) : ThenT Γ (p.to q) K Q := fun v q' k st' => h v q' k ⟨st'.ok, st.X.trans st'.X⟩
theorem ThenL.step {K : KL} {Q : List Value → Shared → Prop} (h : ThenL Γ p K Q) (st : Ste Γ p q) : ThenL Γ (p.to q) K Q := fun v q' w k st' r => h v q' w k ⟨st'.ok, st.X.trans st'.X⟩ r
theorem Ste.trans {q' : Nx} (a : Ste Γ p q) (b : Ste Γ (p.to q) q') : Ste Γ p q' := ⟨b.ok, a.X.trans b.X⟩
noncomputable def Pt.keep (p : Pt) (h : Heap) (t : Nat) : Nx := ⟨h, t, p.role, p.H⟩
noncomputable abbrev Pt.tick (p : Pt) (t : Nat) : Nx := p.keep p.s.heap t
theorem Ok.tick (ok : Ok Γ p) (t : Nat) : Ste Γ p (p.tick t) := ⟨⟨⟨ok.fr, ok.dep, ok.un, ok.hand, ok.F, ok.own, ok.hs⟩, ok.loc, ok.cel, ok.cmp⟩, .refl ..⟩
end
noncomputable def onSome {α : Type} (o : Option α) (K : α → Prop) : Prop := match o with | some x => K x | none => False
theorem onSome.ex {α : Type} {o : Option α} {K : α → Prop} (h : onSome o K) : ∃ x, o = some x ∧ K x := match o, h with | some x, h => ⟨x, rfl, h⟩
noncomputable def lookR (o : Option (Option V)) (K : V → Prop) : Prop := match o with | some (some v) => K v | _ => False
theorem lookR.ex {o : Option (Option V)} {K : V → Prop} (h : lookR o K) : ∃ v, o = some (some v) ∧ K v := match o, h with | some (some v), h => ⟨v, rfl, h⟩
noncomputable def onNone (v : V) (P : Prop) : Prop := match v with | .none => P | _ => False
theorem onNone.ex {v : V} {P : Prop} (h : onNone v P) : v = .none ∧ P := match v, h with | .none, h => ⟨rfl, h⟩
noncomputable def onTup (v : V) (K : List V → Prop) : Prop := match v with | .tup vs => K vs | _ => False
theorem onTup.ex {v : V} {K : List V → Prop} (h : onTup v K) : ∃ vs, v = .tup vs ∧ K vs := match v, h with | .tup vs, h => ⟨vs, rfl, h⟩
noncomputable def on1 {α : Type} (l : List α) (K : α → Prop) : Prop := match l with | [x] => K x | _ => False
theorem on1.ex {α : Type} {l : List α} {K : α → Prop} (h : on1 l K) : ∃ x, l = [x] ∧ K x := match l, h with | [x], h => ⟨x, rfl, h⟩
noncomputable def cnd (A B : Prop) (c : Bool) : Prop := match c with | true => A | false => B
theorem cond_and {c : Bool} {A : Prop} (h : cnd A False c) : c = true ∧ A := match c, h with | true, h => ⟨rfl, h⟩
structure putAt (H : Hp) (i : Nat) (o : HO) (K : Hp → Prop) : Prop where
  run : K (H.set i o)
structure newAt (H : Hp) (o : HO) (K : KV) : Prop where
  run : K (.ref H.length) (H ++ [o])
structure callAt (f : FX) (vs : List V) (H : Hp) (K : KV) : Prop where
  run : f vs H K
open PySem PySem.W PySem.Calls PyProof.Rows
noncomputable def eLoc (i : Nat) : EX := fun ρ H K => lookR ρ[i]? fun v => K v H
noncomputable def eCon (v : V) : EX := fun _ H K => K v H
noncomputable def eOp2 (op : V → V → Hp → KV → Prop) (a b : EX) : EX := fun ρ H K => a ρ H fun x H => b ρ H fun y H => op x y H K
noncomputable def eOp1 (op : V → Hp → KV → Prop) (a : EX) : EX := fun ρ H K => a ρ H fun x H => op x H K
noncomputable def eIf (c : TX) (a b : EX) : EX := fun ρ H K => c ρ H fun t H => cnd (a ρ H K) (b ρ H K) t
noncomputable def tVal (a : EX) : TX := fun ρ H K => a ρ H fun v H => onBool v fun b => K b H
noncomputable def tNot (a : TX) : TX := fun ρ H K => a ρ H fun b H => K (!b) H
noncomputable def tAnd (a b : TX) : TX := fun ρ H K => a ρ H fun t H => cnd (b ρ H K) (K false H) t
noncomputable def tOr (a b : TX) : TX := fun ρ H K => a ρ H fun t H => cnd (K true H) (b ρ H K) t
noncomputable def tTrue : TX := fun _ H K => K true H
noncomputable def tFalse : TX := fun _ H K => K false H
noncomputable def eBool (t : TX) : EX := fun ρ H K => t ρ H fun b H => K (.bool b) H
noncomputable abbrev CX := V → V → Hp → (Bool → Prop) → Prop
noncomputable def tCmp (op : CX) (a b : EX) : TX := fun ρ H K => a ρ H fun x H => b ρ H fun y H => op x y H fun c => K c H
noncomputable def tCmp2 (op op' : CX) (a b c : EX) : TX := fun ρ H K => a ρ H fun x H => b ρ H fun y H => op x y H fun t => cnd (c ρ H fun z H => op' y z H fun c => K c H) (K false H) t
noncomputable def eAnd (a b : EX) : EX := fun ρ H K => a ρ H fun v H => onBool v fun t => cnd (b ρ H K) (K (.bool false) H) t
noncomputable def eOr (a b : EX) : EX := fun ρ H K => a ρ H fun v H => onBool v fun t => cnd (K (.bool true) H) (b ρ H K) t
noncomputable def lNil : LX := fun _ H K => K [] H
noncomputable def lCons (a : EX) (l : LX) : LX := fun ρ H K => a ρ H fun v H => l ρ H fun vs H => K (v :: vs) H
noncomputable def lenMax : Nat := 1048576
noncomputable def eTup (l : LX) : EX := fun ρ H K => l ρ H fun vs H => cnd (K (.tup vs) H) False (Nat.ble vs.length lenMax)
noncomputable def eLst (l : LX) : EX := fun ρ H K => l ρ H fun vs H => cnd (newAt H (.list vs) K) False (Nat.ble vs.length lenMax)
noncomputable def eFun (f : FX) (l : LX) : EX := fun ρ H K => l ρ H fun vs H => f vs H K
noncomputable def eCal (f : FX) (l : LX) : EX := fun ρ H K => l ρ H fun vs H => callAt f vs H K
section
variable {Γ : FC}
theorem lenMax_le {k : Nat} (h : k ≤ lenMax) : k ≤ sizeLine := by rw [sizeLine_eq]; exact Nat.le_trans h (by decide)
theorem env_kind (hO : FOk Γ) : Γ.env.scope.kind = .function := by
  unfold FC.env
  cases hc : Γ.comp with
  | none => exact hO.hk
  | some p => exact hO.hc p.1 p.2.1 p.2.2 hc
theorem env_globals : Γ.env.globals = mainGlobals := by
  unfold FC.env
  cases hc : Γ.comp <;> rfl
theorem env_builtins : Γ.env.builtins = builtinsNs := by
  unfold FC.env
  cases hc : Γ.comp <;> rfl
theorem env_of (hc : Γ.comp = none) : Γ.env = Γ.fenv := by unfold FC.env; rw [hc]
variable {k : Nat} {pos : Pos} {x y z : EX} {a b c d e : Expr} {t u : TX} {l : LX} {es : List Expr}
theorem E_int {i : Int} : SoundE Γ (.Constant (.int i) k pos) (eCon (.int i)) := ⟨fun p Q E K ok hx h => wpAny_Constant_int (h _ (p.tick _) _ hx (ok.tick _) .int)⟩
theorem E_str {i : Str} {l : List Nat} (hl : i = ⟨l.toArray⟩ := by kernel_rfl) : SoundE Γ (.Constant (.str i) k pos) (eCon (.str l)) := by
  subst hl; exact ⟨fun p Q E K ok hx h => wpAny_Constant_str (h _ (p.tick _) _ hx (ok.tick _) .str)⟩
theorem E_bytes {l : List UInt8} : SoundE Γ (.Constant (.bytes l) k pos) (eCon (.bytes l)) := ⟨fun p Q E K ok hx h =>
  (show wpAny Γ.M p.A (mkTextBytes l.toArray) Q E p.s from fun _ _ _ => h _ (p.tick _) _ hx (ok.tick _) .bytes)⟩
theorem E_bool {i : Bool} : SoundE Γ (.Constant (.bool i) k pos) (eCon (.bool i)) := ⟨fun p Q E K ok hx h => wpAny_Constant_bool (h _ (p.tick _) _ hx (ok.tick _) .bool)⟩
theorem E_none : SoundE Γ (.Constant .none k pos) (eCon .none) := ⟨fun p Q E K ok hx h => wpAny_Constant_none (h _ (p.tick _) _ hx (ok.tick _) .none)⟩
theorem slot_at {p : Pt} {K : KV} {i : Nat} {sl : Slot} {C : Prop} (ok : Ok Γ p) (hs : Γ.slots[i]? = some sl) (hx : eLoc i p.ρ p.H K) (k : ∀ v, K v p.H → RLoc p.role p.s.heap p.m p.mc v sl → C) : C :=
  (lookR.ex hx).elim fun v h => (ok.loc i v h.1).elim fun sl' h' => k v h.2 (Option.some.inj (h'.1.symm.trans hs) ▸ h'.2)
theorem E_loc {i : Nat} {n : Str} (hO : FOk Γ) (hs : Γ.slots[i]? = some (.loc n)) (hc : Γ.comp = none) (hx : Γ.fenv.kindOf n = some .local) (hd : (n == ("__debug__" : Str)) = false) : SoundE Γ (.Name n pos) (eLoc i) :=
  ⟨fun p Q E K ok hx' h => slot_at ok hs hx' fun v k r => r.elim fun w r => by
    rw [env_of hc]
    exact wpAny_Name (wpAny_loadName_local hO.hk hx ok.F.ns r.1 (h v (p.tick p.s.toks) w k (ok.tick _) r.2)) hd⟩
theorem cmp_ns {p : Pt} {sc : Scope} {C : Addr} {cl' : List (Str × Addr)} (ok : Ok Γ p) (hc : Γ.comp = some (sc, C, cl')) : p.s.heap.Ns Γ.env.locals p.mc := by
  have he : Γ.env.locals = C := by unfold FC.env; rw [hc]; rfl
  rw [he]; exact (ok.cmp sc C cl' hc).2
theorem E_cmp {i : Nat} {n : Str} {sc : Scope} {C : Addr} {cl' : List (Str × Addr)} (hO : FOk Γ) (hs : Γ.slots[i]? = some (.cmp n)) (hc : Γ.comp = some (sc, C, cl')) (hx : Γ.env.kindOf n = some .local)
    (hd : (n == ("__debug__" : Str)) = false) : SoundE Γ (.Name n pos) (eLoc i) :=
  ⟨fun p Q E K ok hx' h => slot_at ok hs hx' fun v k r => r.elim fun w r =>
    wpAny_Name (wpAny_loadName_local (env_kind hO) hx (cmp_ns ok hc) r.1 (h v (p.tick p.s.toks) w k (ok.tick _) r.2)) hd⟩
theorem E_cel {i : Nat} {n : Str} {c : Addr} (hO : FOk Γ) (hs : Γ.slots[i]? = some (.cel n c)) (hl : Γ.env.cells.lookup n = some c) (hx : Γ.env.kindOf n = some .cell)
    (hd : (n == ("__debug__" : Str)) = false) : SoundE Γ (.Name n pos) (eLoc i) :=
  ⟨fun p Q E K ok hx' h => slot_at ok hs hx' fun v k r => r.elim fun w r => r.elim fun o r =>
    wpAny_Name (wpAny_loadName_cell (env_kind hO) hx hl ⟨o, r.1, r.2.1⟩ (h v (p.tick p.s.toks) w k (ok.tick _) r.2.2)) hd⟩
theorem glob_at {n : Str} {w : Value} {p : Pt} {Q E : QV} (hO : FOk Γ) (ok : Ok Γ p)
    (e : nsIn Γ.g.K mainGlobals n = some (some w)) (hx : Γ.env.kindOf n = some .globalImplicit) (hd : (n == ("__debug__" : Str)) = false) (h : Q w p.s) : wpAny Γ.M p.A (eval (.Name n pos) Γ.env) Q E p.s :=
  Name_function_global (env_kind hO) hx (loadGlobal_global (by rw [env_globals]; exact hO.T.g.keeps ok.F.keep) (mg_of hO.X hO.T.g e) h) hd
theorem built_at {n : Str} {w : Value} {p : Pt} {Q E : QV} (hO : FOk Γ) (ok : Ok Γ p)
    (e : nsIn Γ.g.K mainGlobals n = some none) (hv : bootBuiltins n = some w) (hn : n ≠ "__name__") (hx : Γ.env.kindOf n = some .globalImplicit) (hd : (n == ("__debug__" : Str)) = false) (h : Q w p.s) :
    wpAny Γ.M p.A (eval (.Name n pos) Γ.env) Q E p.s :=
  Name_function_global (env_kind hO) hx (loadGlobal_builtin (by rw [env_globals]; exact hO.T.g.keeps ok.F.keep) (mg_none_of hO.X hO.T.g e) (by rw [env_builtins]; exact hO.T.b.keeps ok.F.keep)
    ((hO.T.builtins n hn).trans hv) h) hd
theorem E_glob {n : Str} {w : Value} {v : V} (hO : FOk Γ) (e : nsIn Γ.g.K mainGlobals n = some (some w))
    (hr : ∀ role : Roles, (∀ p ∈ Γ.g.tabs, role p.1 = .tup p.2.1 p.2.2) → RV role v w) (hx : Γ.env.kindOf n = some .globalImplicit := by kernel_rfl) (hd : (n == ("__debug__" : Str)) = false := by kernel_rfl) : SoundE Γ (.Name n pos) (eCon v) :=
  ⟨fun p Q E K ok hx' h => glob_at hO ok e hx hd (h v (p.tick p.s.toks) w hx' (ok.tick _) (hr p.role ok.hs.stat))⟩
theorem E_if (h1 : SoundT Γ a t) (h2 : SoundE Γ b x) (h3 : SoundE Γ c y) : SoundE Γ (.IfExp a b c pos) (eIf t x y) :=
  ⟨fun p Q E K ok hx h => wpAny_IfExp (h1.run p _ E _ ok hx fun b q k st => match b, k with
    | true, k => h2.run (p.to q) Q E K st.ok k (h.step st)
    | false, k => h3.run (p.to q) Q E K st.ok k (h.step st))⟩
structure SoundO2 (Γ : FC) (op : Value → Value → Sem Value) (x : V → V → Hp → KV → Prop) : Prop where
  run : ∀ (p : Pt) (Q E : QV) (K : KV) (a b : V) (wa wb : Value), Ok Γ p → RV p.role a wa → RV p.role b wb → x a b p.H K → ThenE Γ p K Q → wpAny Γ.M p.A (op wa wb) Q E p.s
structure SoundO1 (Γ : FC) (op : Value → Sem Value) (x : V → Hp → KV → Prop) : Prop where
  run : ∀ (p : Pt) (Q E : QV) (K : KV) (a : V) (wa : Value), Ok Γ p → RV p.role a wa → x a p.H K → ThenE Γ p K Q → wpAny Γ.M p.A (op wa) Q E p.s
structure SoundC (Γ : FC) (op : CmpOp) (x : CX) : Prop where
  run : ∀ (p : Pt) (Q E : QV) (K : Bool → Prop) (a b : V) (wa wb : Value), Ok Γ p → RV p.role a wa → RV p.role b wb → x a b p.H K →
    (∀ c, K c → Q (.bool c) p.s) → wpAny Γ.M p.A (compareOp op wa wb) Q E p.s
theorem E_bin {op : Operator} {o : V → V → Hp → KV → Prop} (h1 : SoundE Γ a x) (h2 : SoundE Γ b y) (h3 : SoundO2 Γ (binaryOp op) o) : SoundE Γ (.BinOp a op b pos) (eOp2 o x y) :=
  ⟨fun p Q E K ok hx h => wpAny_BinOp (h1.run p _ E _ ok hx fun v q w k st r => h2.run (p.to q) _ E _ st.ok k fun u q' w' k' st' r' =>
    h3.run _ Q E K v u w w' st'.ok (r.mono st'.X.grow) r' k' ((h.step st).step st'))⟩
theorem E_un {op : UnaryOp} {o : V → Hp → KV → Prop} (h1 : SoundE Γ a x) (h3 : SoundO1 Γ (unaryOp op) o) : SoundE Γ (.UnaryOp op a pos) (eOp1 o x) :=
  ⟨fun p Q E K ok hx h => wpAny_UnaryOp (h1.run p _ E _ ok hx fun v q w k st r => h3.run _ Q E K v w st.ok r k (h.step st))⟩
variable {o o' : CX} {op op' : CmpOp}
theorem T_cmp (h1 : SoundE Γ a x) (h2 : SoundE Γ b y) (h3 : SoundC Γ op o) (hm : behindInMarks op b = false := by rfl) : SoundT Γ (.Compare a [op] [b] pos) (tCmp o x y) :=
  ⟨fun p Q E K ok hx h => wpAny_isTrue_Compare1 (h1.run p _ E _ ok hx fun v q w k st r => h2.run _ _ E _ st.ok k fun u q' w' k' st' r' =>
    h3.run _ _ E _ v u w w' st'.ok (r.mono st'.X.grow) r' k' fun c k => wpAny_truthy_bool (h c q' k (st.trans st'))) hm⟩
theorem E_cmp1 (h1 : SoundE Γ a x) (h2 : SoundE Γ b y) (h3 : SoundC Γ op o) (hm : behindInMarks op b = false := by rfl) : SoundE Γ (.Compare a [op] [b] pos) (eBool (tCmp o x y)) :=
  ⟨fun p Q E K ok hx h => wpAny_Compare1 (h1.run p _ E _ ok hx fun v q w k st r => h2.run _ _ E _ st.ok k fun u q' w' k' st' r' =>
    h3.run _ _ E _ v u w w' st'.ok (r.mono st'.X.grow) r' k' fun c k => h _ q' _ k (st.trans st') .bool) hm⟩
theorem T_cmp2 (h1 : SoundE Γ a x) (h2 : SoundE Γ b y) (h2' : SoundE Γ c z) (h3 : SoundC Γ op o) (h3' : SoundC Γ op' o') (hm : lastMarks [op, op'] [b, c] = false := by rfl) : SoundT Γ (.Compare a [op, op'] [b, c] pos) (tCmp2 o o' x y z) :=
  ⟨fun p Q E K ok hx h => isTrue_chain (h1.run p _ E _ ok hx fun v q w k st r => test_link (h2.run _ _ E _ st.ok k fun u q' w' k' st' r' =>
    h3.run _ _ E _ v u w w' st'.ok (r.mono st'.X.grow) r' k' fun c k => wpAny_truthy_bool (match c, k with
    | false, k => h _ q' k (st.trans st')
    | true, k => test_last (h2'.run _ _ E _ st'.ok k fun v₂ q₂ w₂ k st₂ r₂ =>
      h3'.run _ _ E _ u v₂ w' w₂ st₂.ok (r'.mono st₂.X.grow) r₂ k fun c k => wpAny_truthy_bool (h _ q₂ k ((st.trans st').trans st₂)))))) hm⟩
theorem E_cmp2 (h1 : SoundE Γ a x) (h2 : SoundE Γ b y) (h2' : SoundE Γ c z) (h3 : SoundC Γ op o) (h3' : SoundC Γ op' o') (hm : lastMarks [op, op'] [b, c] = false := by rfl) : SoundE Γ (.Compare a [op, op'] [b, c] pos) (eBool (tCmp2 o o' x y z)) :=
  ⟨fun p Q E K ok hx h => Compare_chain (h1.run p _ E _ ok hx fun v q w k st r => chain_link (h2.run _ _ E _ st.ok k fun u q' w' k' st' r' =>
    h3.run _ _ E _ v u w w' st'.ok (r.mono st'.X.grow) r' k' fun c k => wpAny_truthy_bool (match c, k with
    | false, k => h _ q' _ k (st.trans st') .bool
    | true, k => chain_last (h2'.run _ _ E _ st'.ok k fun v₂ q₂ w₂ k st₂ r₂ =>
      h3'.run _ _ E _ u v₂ w' w₂ st₂.ok (r'.mono st₂.X.grow) r₂ k fun c k => h _ q₂ _ k ((st.trans st').trans st₂) .bool)))) hm⟩
theorem T_val (h1 : SoundE Γ a x) (he : ∀ (env : Env) (whole : Sem Value), isTrue a env whole = (do let v ← whole; standAt a.pos; holding [v] (truthy v)) := by exact fun _ _ => rfl) : SoundT Γ a (tVal x) :=
  ⟨fun p Q E K ok hx h => wpAny_isTrue_value (h1.run p _ E _ ok hx fun v q w k st r => k.run r fun b k => wpAny_truthy_bool (h b q k st)) (he _ _)⟩
theorem T_not (h1 : SoundT Γ a t) : SoundT Γ (.UnaryOp .Not a pos) (tNot t) := ⟨fun p Q E K ok hx h => wpAny_isTrue_Not (h1.run p _ E _ ok hx fun b q k st => h _ q k st)⟩
structure SoundAll (Γ : FC) (op : BoolOp) (es : List Expr) (x : TX) : Prop where
  run : ∀ (p : Pt) (Q : Bool → Shared → Prop) (E : QV) (K : KB), Ok Γ p → x p.ρ p.H K → ThenT Γ p K Q → wpAny Γ.M p.A (allTrue op es Γ.env) Q E p.s
theorem T_bool {op : BoolOp} (h1 : SoundAll Γ op es t) : SoundT Γ (.BoolOp op es pos) t := ⟨fun p Q E K ok hx h => wpAny_isTrue_BoolOp (h1.run p Q E K ok hx h)⟩
theorem A_and_nil : SoundAll Γ .And [] tTrue := ⟨fun p Q E K ok hx h => wpAny_allTrue_And_nil (h _ (p.tick p.s.toks) hx (ok.tick _))⟩
theorem A_or_nil : SoundAll Γ .Or [] tFalse := ⟨fun p Q E K ok hx h => wpAny_allTrue_Or_nil (h _ (p.tick p.s.toks) hx (ok.tick _))⟩
theorem A_and (h1 : SoundT Γ a t) (h2 : SoundAll Γ .And es u) : SoundAll Γ .And (a :: es) (tAnd t u) :=
  ⟨fun p Q E K ok hx h => wpAny_allTrue_And_cons (h1.run p _ E _ ok hx fun b q k st => match b, k with
    | true, k => h2.run _ Q E K st.ok k (h.step st)
    | false, k => h _ q k st)⟩
theorem A_or (h1 : SoundT Γ a t) (h2 : SoundAll Γ .Or es u) : SoundAll Γ .Or (a :: es) (tOr t u) :=
  ⟨fun p Q E K ok hx h => wpAny_allTrue_Or_cons (h1.run p _ E _ ok hx fun b q k st => match b, k with
    | true, k => h _ q k st
    | false, k => h2.run _ Q E K st.ok k (h.step st))⟩
theorem E_and1 {op : BoolOp} (h1 : SoundE Γ a x) : SoundE Γ (.BoolOp op [a] pos) x := ⟨fun p Q E K ok hx h => BoolOp_one (h1.run p Q E K ok hx h)⟩
theorem E_and (h1 : SoundE Γ a x) (h2 : SoundE Γ (.BoolOp .And (b :: es) pos) y) : SoundE Γ (.BoolOp .And (a :: b :: es) pos) (eAnd x y) :=
  ⟨fun p Q E K ok hx h => BoolOp_and (h1.run p _ E _ ok hx fun v q w k st r => k.run r fun t k => wpAny_truthy_bool (match t, k with
    | true, k => h2.run _ Q E K st.ok k (h.step st)
    | false, k => h _ q _ k st .bool))⟩
theorem E_or (h1 : SoundE Γ a x) (h2 : SoundE Γ (.BoolOp .Or (b :: es) pos) y) : SoundE Γ (.BoolOp .Or (a :: b :: es) pos) (eOr x y) :=
  ⟨fun p Q E K ok hx h => BoolOp_or (h1.run p _ E _ ok hx fun v q w k st r => k.run r fun t k => wpAny_truthy_bool (match t, k with
    | true, k => h _ q _ k st .bool
    | false, k => h2.run _ Q E K st.ok k (h.step st)))⟩
theorem L_nil : SoundL Γ [] lNil := ⟨fun pos p Q E K ok hx h => args_nil (h [] (p.tick p.s.toks) [] hx (ok.tick _) .nil)⟩
theorem L_cons (h1 : SoundE Γ a x) (h2 : SoundL Γ es l) (he : ∀ env, starEach (a :: es) env = (false, eval a env) :: starEach es env := by exact fun _ => rfl) : SoundL Γ (a :: es) (lCons x l) :=
  ⟨fun pos p Q E K ok hx h => args_cons (h1.run p _ E _ ok hx fun v q w k st r => h2.run pos _ _ E _ st.ok k fun vs q' ws k' st' r' => h _ q' _ k' (st.trans st') (.cons (r.mono st'.X.grow) r')) (he _)⟩
end
open PySem PySem.W PySem.Calls PyProof.Rows
noncomputable def upd (role : Roles) (a : Addr) (r : Role) : Roles := fun b => if b = a then r else role b
theorem upd_self (role : Roles) (a : Addr) (r : Role) : upd role a r a = r := if_pos rfl
theorem upd_ne {role : Roles} {a b : Addr} {r : Role} (h : b ≠ a) : upd role a r b = role b := if_neg h
theorem upd_at {role : Roles} {a b : Addr} {r : Role} {C : Role → Prop} (h1 : b = a → C r) (h2 : b ≠ a → C (role b)) : C (upd role a r b) := by
  by_cases e : b = a
  · rw [e, upd_self]; exact h1 e
  · rw [upd_ne e]; exact h2 e
theorem Grow.upd {role : Roles} {a : Addr} {r : Role} (h : role a = .none) : Grow role (upd role a r) := fun b hb => upd_ne fun e => hb (e ▸ h)
noncomputable abbrev Kept (role : Roles) (h h' : Heap) : Prop := ∀ a o, role a ≠ .none → h.get? a = some o → h'.get? a = some o
noncomputable abbrev Same (a : Addr) (h h' : Heap) : Prop := ∀ o, h.get? a = some o → h'.get? a = some o
theorem isTup_kept {h h' : Heap} {a : Addr} {its : Array Value} (k : Same a h h') (x : h.IsTuple a its) : h'.IsTuple a its := x.elim fun o x => ⟨o, k o x.1, x.2⟩
theorem dictOf_kept {K : Type} [DecidableEq K] {prog : Program} {w : World} {knd : _root_.PySem.KeyKind prog w K} {h h' : Heap} {a : Addr} {kvs : List (K × Value)} (k : Same a h h') (x : h.DictOf knd a kvs) : h'.DictOf knd a kvs :=
  let ⟨o, es, ep, e, r⟩ := x; ⟨o, es, ep, k o e, r⟩
theorem REnt.most {an : Nat → Str} {r r' : Roles} (g : Most r r') {fs : List (Nat × V)} : ∀ {es : List DictEntry}, REnt an r fs es → REnt an r' fs es := by
  induction fs with
  | nil => exact id
  | cons p fs ih => exact fun ⟨hs, t, w, q, e, a, b⟩ => ⟨hs, t, w, q, e, a.most g, ih b⟩
theorem RKv.most {r r' : Roles} (g : Most r r') {fs : List (List Nat × V)} : ∀ {es : List (Str × Value)}, RKv r fs es → RKv r' fs es := by
  induction fs with
  | nil => exact id
  | cons p fs ih => exact fun ⟨w, q, e, a, b⟩ => ⟨w, q, e, a.most g, ih b⟩
theorem RObj.same {g : GC} {role role' : Roles} {h h' : Heap} {a : Addr} {o : HO} (gr : Most role role') (ka : Same a h h') (kd : ∀ d, role d = .dct a → Same d h h') (x : RObj g role h a o) : RObj g role' h' a o := by
  cases o with
  | list vs => exact x.elim fun ws x => ⟨ws, x.1.most gr, x.2.at ka⟩
  | inst c fs => exact x.elim fun dx x => x.elim fun es x => x.elim fun n x => ⟨dx, es, n, gr.at x.1 (by simp) (by simp), ka _ x.2.1, kd dx x.1 _ x.2.2.1, x.2.2.2.most gr⟩
  | dict kvs => exact ⟨x.1, x.2.elim fun kws x => ⟨kws, dictOf_kept ka x.1, x.2.most gr⟩⟩
theorem RObj.kept {g : GC} {role role' : Roles} {h h' : Heap} {a : Addr} {o : HO} (gr : Grow role role') (ha : role a ≠ .none) (k : Kept role h h') (x : RObj g role h a o) : RObj g role' h' a o :=
  x.same gr.most (fun o => k a o ha) fun d e o => k d o (by rw [e]; simp)
theorem HSt.kept {g : GC} {role : Roles} {H : Hp} {h h' : Heap} (x : HSt g role H h) (k : Kept role h h') : HSt g role H h' where
  obj a i e := (x.obj a i e).elim fun o y => ⟨o, y.1, y.2.kept (.refl _) (by rw [e]; simp) k⟩
  inj := x.inj
  tup a vs ws e := ⟨isTup_kept (fun o => k a o (by rw [e]; simp)) (x.tup a vs ws e).1, (x.tup a vs ws e).2⟩
  live a ha := (x.live a ha).elim fun o e => ⟨o, k a o ha e⟩
  stat := x.stat
theorem RLoc.kept {role role' : Roles} {h h' : Heap} {m mc : Str → Option Value} {v : V} {sl : Slot} (gr : Most role role') (k : ∀ x c, sl = .cel x c → Same c h h') (x : RLoc role h m mc v sl) : RLoc role' h' m mc v sl := by
  cases sl with
  | loc y => exact x.elim fun w x => ⟨w, x.1, x.2.most gr⟩
  | cmp y => exact x.elim fun w x => ⟨w, x.1, x.2.most gr⟩
  | cel y c => exact x.elim fun w x => x.elim fun o x => ⟨w, o, k y c rfl o x.1, x.2.1, x.2.2.most gr⟩
structure StF (Γ : FC) (p : Pt) (q : Nx) : Prop where
  F : Fr Γ.h₀ Γ.L q.h p.m
  own : Own Γ.g Γ.h₀ Γ.L q.role
  hs : HSt Γ.g q.role q.H q.h
  X : Ext [] p.role p.s.heap q.role q.h
section
variable {g : GC} {Γ : FC} {role role' : Roles} {H H' : Hp} {h h' : Heap} {p : Pt} {q : Nx} {n : Nat}
theorem Ext.tmpAt {a : Addr} (x : Ext [] role h role' h') (e : role a = .tmp) : Same a h h' := fun o => x.tmp a o e (by simp)
theorem Cl.to (ok : Cl Γ n p) (st : StF Γ p q) : Cl Γ n (p.to q) := ⟨ok.fr, ok.dep, ok.un, ok.hand, st.F, st.own, st.hs⟩
theorem Ok.ste (ok : Ok Γ p) (st : StF Γ p q) : Ste Γ p q where
  X := st.X
  ok :=
  { toCl := ok.toCl.to st
    loc := fun i v e => (ok.loc i v e).elim fun sl y => ⟨sl, y.1, y.2.kept st.X.grow.most fun x c hc => st.X.tmpAt (ok.cel x c (hc ▸ List.mem_of_getElem? y.1)).1⟩
    cel := fun y c hc => ⟨st.X.grow.at (ok.cel y c hc).1 (by simp), (ok.cel y c hc).2.elim fun o z => z.elim fun v z => ⟨o, v, st.X.tmpAt (ok.cel y c hc).1 o z.1, z.2⟩⟩
    cmp := fun sc C cl' hc => ⟨st.X.grow.at (ok.cmp sc C cl' hc).1 (by simp), (ok.cmp sc C cl' hc).2.at' (st.X.tmpAt (ok.cmp sc C cl' hc).1)⟩ }
theorem StF.trans {q' : Nx} (a : StF Γ p q) (b : StF Γ (p.to q) q') : StF Γ p q' := ⟨b.F, b.own, b.hs, a.X.trans b.X⟩
theorem Ste.f (st : Ste Γ p q) : StF Γ p q := ⟨st.ok.F, st.ok.own, st.ok.hs, st.X⟩
theorem Ext.kept (k : Kept role h h') : Ext [] role h role h' := ⟨.refl _, fun a o e _ q => k a o (by rw [e]; simp) q⟩
theorem Cl.keep (ok : Cl Γ n p) (F : Fr Γ.h₀ Γ.L h' p.m) (k : Kept p.role p.s.heap h') (t : Nat) : StF Γ p (p.keep h' t) := ⟨F, ok.own, ok.hs.kept k, .kept k⟩
theorem Ok.keep (ok : Ok Γ p) (F : Fr Γ.h₀ Γ.L h' p.m) (k : Kept p.role p.s.heap h') (t : Nat) : Ste Γ p (p.keep h' t) := ok.ste (ok.toCl.keep F k t)
theorem fresh_none (x : HSt g role H h) {a : Addr} (e : h.objs.size ≤ a) : role a = .none := Decidable.byContradiction (dec := Classical.propDecidable _) fun q => (x.live a q).elim fun o ho => absurd (Heap.lt_size ho) (Nat.not_lt.mpr e)
theorem Own.upd (x : Own g Γ.h₀ Γ.L role) {a : Addr} {r : Role} (h : Γ.h₀.get? a = none ∧ a ≠ Γ.L) : Own g Γ.h₀ Γ.L (upd role a r) := fun b hb => by
  by_cases e : b = a
  · exact .inl (e ▸ h)
  · rw [upd_ne e] at hb; exact x b hb
theorem frFresh {m : Str → Option Value} (F : Fr Γ.h₀ Γ.L h m) {a : Addr} (e : h.objs.size ≤ a) : Γ.h₀.get? a = none ∧ a ≠ Γ.L :=
  ⟨Option.eq_none_iff_forall_ne_some.2 fun o q => absurd (Heap.lt_size (F.keep a o q)) (Nat.not_lt.mpr e), fun q => absurd F.ns.lt (Nat.not_lt.mpr (q ▸ e))⟩
theorem stat_upd {a : Addr} {r : Role} (x : HSt g role H h) (hn : role a = .none) : ∀ p ∈ g.tabs, upd role a r p.1 = .tup p.2.1 p.2.2 := fun p hp =>
  (upd_ne fun q => by have := x.stat p hp; rw [q, hn] at this; cases this).trans (x.stat p hp)
theorem HSt.new {a : Addr} {r : Role} {ob : Obj} (x : HSt g role H h) (hn : role a = .none) (k : Kept role h h') (hob : h'.get? a = some ob)
    (hH : ∀ i : Nat, (∃ o : HO, H[i]? = some o) → H'[i]? = H[i]?) (ho : ∀ i, r = .obj i → H[i]? = none ∧ ∃ o, H'[i]? = some o ∧ RObj g (upd role a r) h' a o)
    (ht : ∀ vs ws, r = .tup vs ws → h'.IsTuple a ws.toArray ∧ RVs role vs ws) : HSt g (upd role a r) H' h' where
  obj b i e := by
    by_cases q : b = a
    · rw [q, upd_self] at e; rw [q]; exact (ho i e).2
    · rw [upd_ne q] at e
      exact (x.obj b i e).elim fun o y => ⟨o, (hH i ⟨o, y.1⟩).trans y.1, y.2.kept (.upd hn) (by rw [e]; simp) k⟩
  inj b b' i e e' := by
    have no : ∀ c, role c = .obj i → r ≠ .obj i := fun c hc q => (x.obj c i hc).elim fun o y => by rw [(ho i q).1] at y; cases y.1
    by_cases q : b = a <;> by_cases q' : b' = a
    · rw [q, q']
    · rw [q, upd_self] at e; rw [upd_ne q'] at e'; exact absurd e (no _ e')
    · rw [q', upd_self] at e'; rw [upd_ne q] at e; exact absurd e' (no _ e)
    · rw [upd_ne q] at e; rw [upd_ne q'] at e'; exact x.inj b b' i e e'
  tup b vs ws e := by
    by_cases q : b = a
    · rw [q, upd_self] at e; rw [q]; exact ⟨(ht vs ws e).1, (ht vs ws e).2.mono (.upd hn)⟩
    · rw [upd_ne q] at e; exact ⟨isTup_kept (fun o => k b o (by rw [e]; simp)) (x.tup b vs ws e).1, (x.tup b vs ws e).2.mono (.upd hn)⟩
  live b hb := by
    by_cases q : b = a
    · rw [q]; exact ⟨ob, hob⟩
    · rw [upd_ne q] at hb; exact (x.live b hb).elim fun o e => ⟨o, k b o hb e⟩
  stat := stat_upd x hn
theorem HSt.alloc {a : Addr} {o : HO} {ob : Obj} (x : HSt g role H h) (hn : role a = .none) (k : Kept role h h') (hob : h'.get? a = some ob) (ho : RObj g (upd role a (.obj H.length)) h' a o) :
    HSt g (upd role a (.obj H.length)) (H ++ [o]) h' :=
  x.new hn k hob (fun i e => e.elim fun o e => List.getElem?_append_left (List.getElem?_eq_some_iff.mp e).1) (fun i e => by cases e; exact ⟨by simp, o, by simp, ho⟩) (fun _ _ e => nomatch e)
theorem HSt.mark {a : Addr} {r : Role} {ob : Obj} (x : HSt g role H h) (hn : role a = .none) (k : Kept role h h') (hob : h'.get? a = some ob) (hr : ∀ i, r ≠ .obj i)
    (ht : ∀ vs ws, r = .tup vs ws → h'.IsTuple a ws.toArray ∧ RVs role vs ws) : HSt g (upd role a r) H h' := x.new hn k hob (fun _ _ => rfl) (fun i e => absurd e (hr i)) ht
theorem Ext.upd {a : Addr} {r : Role} (hn : role a = .none) (k : Kept role h h') : Ext [] role h (upd role a r) h' := ⟨.upd hn, fun b o e _ q => k b o (by rw [e]; simp) q⟩
theorem kept_push (o : Obj) : Kept role h (h.push o) := fun _ _ _ e => Heap.get?_push_of_some _ e
theorem HSt.change {a c : Addr} {i : Nat} {o : HO} {ob : Obj} (x : HSt g role H h) (hr : role a = .obj i) (hc : c = a ∨ role c = .dct a) (k : ∀ b ob, role b ≠ .none → b ≠ c → h.get? b = some ob → h'.get? b = some ob)
    (hob : h'.get? c = some ob) (ho : RObj g role h' a o) : HSt g role (H.set i o) h' := by
  have ne : ∀ b j, role b = .obj j → b ≠ a → b ≠ c := fun b j e q z => hc.elim (fun hc => q (z.trans hc)) fun hc => by rw [← z, e] at hc; cases hc
  have nd : ∀ b d, role d = .dct b → b ≠ a → d ≠ c := fun b d e q z => by
    rw [z] at e; exact hc.elim (fun hc => by rw [hc, hr] at e; cases e) fun hc => by rw [hc] at e; cases e; exact q rfl
  exact {
    obj := fun b j e => by
      by_cases q : b = a
      · rw [q, hr] at e; cases e
        exact (x.obj a i hr).elim fun o' y => ⟨o, List.getElem?_set_self (List.getElem?_eq_some_iff.mp y.1).1, q ▸ ho⟩
      · exact (x.obj b j e).elim fun o' y => ⟨o', (List.getElem?_set_ne fun z : i = j => q (x.inj b a j e (by rw [← z]; exact hr))).trans y.1,
          y.2.same (Grow.refl _).most (fun o => k b o (by rw [e]; simp) (ne b j e q)) fun d e' o => k d o (by rw [e']; simp) (nd b d e' q)⟩
    inj := x.inj
    tup := fun b vs ws e => ⟨isTup_kept (fun o => k b o (by rw [e]; simp) fun z => hc.elim (fun hc => by rw [z, hc, hr] at e; cases e) fun hc => by rw [z, hc] at e; cases e) (x.tup b vs ws e).1, (x.tup b vs ws e).2⟩
    live := fun b hb => by
      by_cases q : b = c
      · rw [q]; exact ⟨ob, hob⟩
      · exact (x.live b hb).elim fun o e => ⟨o, k b o hb q e⟩
    stat := x.stat }
noncomputable def newsOf (role : Roles) (h₀ h : Heap) (L : Addr) : List (Addr × Obj) := by
  classical exact (List.range h.objs.size).filterMap fun a => if role a ≠ .none ∧ h₀.get? a = none ∧ a ≠ L then (h.get? a).map (a, ·) else none
theorem mem_newsOf {h₀ : Heap} {L : Addr} {a : Addr} {o : Obj} : (a, o) ∈ newsOf role h₀ h L ↔ (role a ≠ .none ∧ h₀.get? a = none ∧ a ≠ L) ∧ h.get? a = some o := by
  classical
  unfold newsOf
  rw [List.mem_filterMap]
  constructor
  · rintro ⟨b, hb, e⟩
    split at e
    · rename_i q
      obtain ⟨o', ho', e'⟩ := Option.map_eq_some_iff.mp e
      cases e'
      exact ⟨q, ho'⟩
    · cases e
  · rintro ⟨q, e⟩
    exact ⟨a, List.mem_range.mpr (Heap.lt_size e), by rw [if_pos q, e]; rfl⟩
theorem news_newsOf (L : Addr) (h₀ : Heap) : News h₀ L h (newsOf role h₀ h L) := fun p hp =>
  have q := mem_newsOf.mp hp
  ⟨q.2, q.1.2.2, q.1.2.1⟩
theorem kept_of_news {h₀ g' : Heap} {L L' : Addr} (own : Own g h₀ L role) (F : ∀ b o, h₀.get? b = some o → h.get? b = some o) (F' : ∀ b o, h₀.get? b = some o → h'.get? b = some o)
    (N' : News g' L' h' (newsOf role h₀ h L)) : Kept role h h' := fun a o hr ho => by
  rcases own a hr with q | ⟨q, _⟩
  · exact (N' (a, o) (mem_newsOf.mpr ⟨⟨hr, q⟩, ho⟩)).1
  · obtain ⟨o', e⟩ := Option.isSome_iff_exists.mp q
    have := F a o' e
    rw [ho] at this; cases this
    exact F' a o e
theorem Cl.fresh (ok : Cl Γ n p) {a : Addr} (h0 : Γ.h₀.get? a = none) (lt : ∀ o, (a, o) ∉ newsOf p.role Γ.h₀ p.s.heap Γ.L) : p.role a = .none := by
  refine Decidable.byContradiction (dec := Classical.propDecidable _) fun hr => ?_
  rcases ok.own a hr with q1 | ⟨q1, _⟩
  · exact (ok.hs.live a hr).elim fun o ho => lt o (mem_newsOf.mpr ⟨⟨hr, q1⟩, ho⟩)
  · rw [h0] at q1; cases q1
theorem E_tup {es : List Expr} {k : Nat} {pos : Pos} {x : LX} (h1 : SoundL Γ es x) : SoundE Γ (.Tuple es k pos) (eTup x) :=
  ⟨fun p Q E K ok hx h => wpAny_Tuple (h1.run pos p _ E _ ok hx fun vs q ws k st r => have k := cond_and k
  ⟨lenMax_le (r.length ▸ Nat.le_of_ble_eq_true k.1), by
    have fr := fresh_none st.ok.hs (Nat.le_refl q.h.objs.size)
    refine h _ ⟨q.h.push (tupObj ws), q.t, upd q.role q.h.objs.size (.tup vs ws), q.H⟩ _ k.2 (st.trans (st.ok.ste ⟨st.ok.F.push _, st.ok.own.upd (frFresh st.ok.F (Nat.le_refl _)), ?_, .upd fr (kept_push _)⟩)) (.tup (upd_self ..))
    exact st.ok.hs.mark fr (kept_push _) (Heap.get?_push_size _ rfl) (by simp) fun us ws' e => by cases e; exact ⟨⟨_, Heap.get?_push_size _ rfl, rfl, 0, rfl⟩, r⟩⟩)⟩
theorem E_lst {es : List Expr} {pos : Pos} {x : LX} (h1 : SoundL Γ es x) : SoundE Γ (.List es pos) (eLst x) :=
  ⟨fun p Q E K ok hx h => wpAny_List (h1.run pos p _ E _ ok hx fun vs q ws k st r => have k := cond_and k
  ⟨lenMax_le (r.length ▸ Nat.le_of_ble_eq_true k.1), by
    have fr := fresh_none st.ok.hs (Nat.le_refl q.h.objs.size)
    refine h _ ⟨q.h.push (listOf ws.toArray 0), q.t, upd q.role q.h.objs.size (.obj q.H.length), q.H ++ [.list vs]⟩ _ k.2.run (st.trans (st.ok.ste ⟨st.ok.F.push _, st.ok.own.upd (frFresh st.ok.F (Nat.le_refl _)), ?_, .upd fr (kept_push _)⟩)) (.ref (upd_self ..))
    exact st.ok.hs.alloc fr (kept_push _) (Heap.get?_push_size _ rfl) ⟨ws, r.mono (.upd fr), 0, Heap.get?_push_size _ rfl⟩⟩)⟩
end
structure atList (H : Hp) (i : Nat) (K : List V → Prop) : Prop where
  ex : ∃ vs, H[i]? = some (.list vs) ∧ K vs
structure atInst (H : Hp) (i C : Nat) (K : List (Nat × V) → Prop) : Prop where
  ex : ∃ fs, H[i]? = some (.inst C fs) ∧ K fs
structure atDict (H : Hp) (i : Nat) (K : List (List Nat × V) → Prop) : Prop where
  ex : ∃ kvs, H[i]? = some (.dict kvs) ∧ K kvs
section
variable {g : GC} {role : Roles} {H : Hp} {h : Heap} {i : Nat} {a : Addr} {C : Prop}
theorem HSt.at (S : HSt g role H h) (e : role a = .obj i) {o : HO} (e' : H[i]? = some o) : RObj g role h a o := (S.obj a i e).elim fun o' y => Option.some.inj (y.1.symm.trans e') ▸ y.2
theorem atList.run {K : List V → Prop} (k : atList H i K) (S : HSt g role H h) (e : role a = .obj i)
    (c : ∀ vs ws, H[i]? = some (.list vs) → RVs role vs ws → h.PlainList a ws.toArray → K vs → C) : C := k.ex.elim fun vs y => (S.at e y.1).elim fun ws z => c vs ws y.1 z.1 z.2 y.2
theorem atInst.run {Cl : Nat} {K : List (Nat × V) → Prop} (k : atInst H i Cl K) (S : HSt g role H h) (e : role a = .obj i)
    (c : ∀ fs dx es n, H[i]? = some (.inst Cl fs) → role dx = .dct a → h.get? a = some (instObj Cl dx) → h.get? dx = some (dictOf es n) → REnt g.an role fs es → K fs → C) : C :=
  k.ex.elim fun fs y => (S.at e y.1).elim fun dx z => z.elim fun es z => z.elim fun n z => c fs dx es n y.1 z.1 z.2.1 z.2.2.1 z.2.2.2 y.2
theorem atDict.run {K : List (List Nat × V) → Prop} (k : atDict H i K) (S : HSt g role H h) (e : role a = .obj i)
    (c : ∀ kvs kws, H[i]? = some (.dict kvs) → a ≠ sysModules → h.DictOf (_root_.PySem.strKind g.prog g.w) a kws → RKv role kvs kws → K kvs → C) : C :=
  k.ex.elim fun kvs y => have q := S.at e y.1
    q.2.elim fun kws z => c kvs kws y.1 q.1 z.1 z.2 y.2
end
open PySem PySem.W PySem.Calls PyProof.Rows
noncomputable def getF (k : Nat) : List (Nat × V) → Option V
  | [] => none
  | p :: r => if Nat.beq p.1 k then some p.2 else getF k r
noncomputable def setF (k : Nat) (v : V) : List (Nat × V) → List (Nat × V)
  | [] => [(k, v)]
  | p :: r => if Nat.beq p.1 k then (p.1, v) :: r else p :: setF k v r
noncomputable def vAttr (C k : Nat) (o : V) (H : Hp) (K : KV) : Prop := onRef o fun i => atInst H i C fun fs => onSome (getF k fs) fun v => K v H
noncomputable def vSetAttr (C k : Nat) (o v : V) (H : Hp) (K : Hp → Prop) : Prop := onRef o fun i => atInst H i C fun fs => cnd (putAt H i (.inst C (setF k v fs)) K) False (Nat.ble fs.length 100)
structure AttrOk (g : GC) (C : Addr) (k : Nat) : Prop where
  get : plainGet g.K C (g.an k) = true
  cls : ∃ attr, findIn g.K (.ref C) (g.an k) = some attr ∧ noGet g.K attr = true
  dict : hasDictIn g.K C = true
structure SetOk (g : GC) (C : Addr) (k : Nat) : Prop where
  set : findIn g.K (.ref C) "__setattr__" = some (some (.builtin "object.__setattr__"))
  over : plainOver g.K C = true
  take : takerIn g.K C (g.an k) = some none
  dict : hasDictIn g.K C = true
theorem handed {role : Roles} {v : V} {w : Value} (r : RV role v w) : handedIn w = true := by
  cases v with
  | none => exact Eq.symm r ▸ rfl
  | bool b => exact r.oBool rfl
  | int i => exact r.oInt fun _ => rfl
  | str s => exact r.oStr fun _ => rfl
  | bytes s => exact r.oBytes fun _ => rfl
  | tup vs => exact r.oTup fun _ _ _ => rfl
  | ref i => exact r.oRef fun _ _ => rfl
section
variable {an : Nat → Str} {role : Roles}
theorem nbeq_ne {j k : Nat} (q : j ≠ k) : Nat.beq j k = false := Bool.eq_false_iff.2 fun e => q (Nat.eq_of_beq_eq_true e)
theorem REnt.length {fs : List (Nat × V)} : ∀ {es : List DictEntry}, REnt an role fs es → es.length = fs.length := by
  induction fs with
  | nil => rintro es rfl; rfl
  | cons p fs ih => rintro es ⟨hs, t, w, r, rfl, a, b⟩; exact congrArg (· + 1) (ih b)
theorem getL_cons {name n : Str} {hs : Int} {t : Tok} {w : Value} {es : List DictEntry} : getL name (⟨hs, .str n t, w⟩ :: es) = if n == name then some (some w) else getL name es := by
  unfold getL
  rw [List.find?_cons, List.any_cons]
  show (match (match n == name with | true => some (⟨hs, .str n t, w⟩ : DictEntry) | false => es.find? (·.key.isStr name)) with | some e => some (some e.val) | none => if (false || es.any (·.refKey)) = true then none else some none) = _
  cases n == name <;> rfl
theorem getL_rel (inj : ∀ i j, an i = an j → i = j) (k : Nat) {fs : List (Nat × V)} : ∀ {es : List DictEntry}, REnt an role fs es →
    (getF k fs = none ∧ getL (an k) es = some none) ∨ ∃ v w, getF k fs = some v ∧ getL (an k) es = some (some w) ∧ RV role v w := by
  induction fs with
  | nil => rintro es rfl; exact .inl ⟨rfl, rfl⟩
  | cons p fs ih =>
    rintro es ⟨hs, t, w, r, rfl, a, b⟩
    rw [getL_cons, getF]
    by_cases q : p.1 = k
    · rw [q, Nat.beq_refl, beq_self_eq_true]; exact .inr ⟨p.2, w, rfl, rfl, a⟩
    · rw [nbeq_ne q, beq_eq_false_iff_ne.2 fun z => q (inj _ _ z)]; exact ih b
theorem getL_is (inj : ∀ i j, an i = an j → i = j) (k : Nat) {fs : List (Nat × V)} {es : List DictEntry} (re : REnt an role fs es) : (getL (an k) es).isSome = true :=
  (getL_rel inj k re).elim (fun z => z.2 ▸ rfl) fun z => z.elim fun _ z => z.elim fun _ z => z.2.1 ▸ rfl
theorem put_of (inj : ∀ i j, an i = an j → i = j) {k : Nat} {v : V} {w : Value} {hs : Int} {t : Tok} (rv : RV role v w) {fs : List (Nat × V)} : ∀ {es : List DictEntry}, REnt an role fs es →
    REnt an role (setF k v fs) (putL (an k) hs (.str (an k) t) w es) ∧ (putL (an k) hs (.str (an k) t) w es).length ≤ fs.length + 1 := by
  induction fs with
  | nil => rintro es rfl; exact ⟨⟨hs, t, w, [], rfl, rv, rfl⟩, Nat.le_refl _⟩
  | cons p fs ih =>
    rintro es ⟨hs', t', w', r, rfl, a, b⟩
    have l := ih b
    rw [setF, putL]
    show REnt an role (if _ then _ else _) (if an p.1 == an k then _ else _) ∧ (if an p.1 == an k then _ else _ : List DictEntry).length ≤ _
    by_cases q : p.1 = k
    · rw [q, Nat.beq_refl, beq_self_eq_true]; exact ⟨⟨hs', t', w, r, rfl, rv, b⟩, Nat.succ_le_succ (Nat.le_trans (Nat.le_of_eq b.length) (Nat.le_succ _))⟩
    · rw [nbeq_ne q, beq_eq_false_iff_ne.2 fun z => q (inj _ _ z)]; exact ⟨⟨hs', t', w', _, rfl, a, l.1⟩, Nat.succ_le_succ l.2⟩
end
section
variable {g : GC} {Γ : FC} {role : Roles} {p : Pt}
theorem E_attr {o : Expr} {C k : Nat} {name : Str} {pos : Pos} {x : EX} (hO : FOk Γ) (hn : Γ.g.an k = name) (hc : AttrOk Γ.g C k) (h1 : SoundE Γ o x)
    (he : ∀ env, eval (.Attribute o name pos) env = (do
      let v ← eval o env
      standAt pos.atName
      let r ← holding [v] (getAttr v name true)
      letTemporaryGo o v r
      pure r) := by exact fun _ => rfl) : SoundE Γ (.Attribute o name pos) (eOp1 (vAttr C k) x) := by
  subst hn
  exact ⟨fun p Q E K ok hx h => Attribute_any_ (h1.run p _ E _ ok hx fun v q w kk st r => kk.run r fun i a e kk => kk.run st.ok.hs e fun fs dx es n _ _ hx hd re kk => (onSome.ex kk).elim fun u kk => by
    rcases getL_rel hO.inj k re with z | ⟨v', w', z1, z2, rv⟩
    · rw [z.1] at kk; cases kk.1
    · rw [z1] at kk; cases kk.1
      exact hc.cls.elim fun attr c => get_own st.ok.F hO.X ⟨hx, rfl, rfl, hd⟩ hc.get hc.dict c.1 c.2 z2 (handed rv) (h _ ⟨q.h, _, q.role, q.H⟩ _ kk.2 (st.trans (st.ok.tick _)) rv)) (he _)⟩
theorem newsOf_split {h₀ h : Heap} {L a : Addr} {o : Obj} (hm : (a, o) ∈ newsOf role h₀ h L) : ∃ pre post, newsOf role h₀ h L = pre ++ (a, o) :: post ∧ (∀ p ∈ pre, p.1 ≠ a) ∧ ∀ p ∈ post, p.1 ≠ a := by
  classical
  have nd : (newsOf role h₀ h L).Pairwise fun p q => p.1 ≠ q.1 := by
    unfold newsOf
    refine List.Pairwise.filterMap _ (fun x y hxy p hp q hq => ?_) List.nodup_range
    split at hp
    · split at hq
      · obtain ⟨_, _, rfl⟩ := Option.map_eq_some_iff.mp hp
        obtain ⟨_, _, rfl⟩ := Option.map_eq_some_iff.mp hq
        exact hxy
      · cases hq
    · cases hp
  obtain ⟨pre, post, e⟩ := List.append_of_mem hm
  rw [e, List.pairwise_append, List.pairwise_cons] at nd
  exact ⟨pre, post, e, fun p hp => nd.2.2 p hp _ (.head _), fun p hp => Ne.symm (nd.2.1.1 p hp)⟩
theorem kept_split {h₀ h h' : Heap} {L a : Addr} {o o' : Obj} {pre post : List (Addr × Obj)} (own : Own g h₀ L role) (F : ∀ b o, h₀.get? b = some o → h.get? b = some o) (F' : ∀ b o, h₀.get? b = some o → h'.get? b = some o)
    (e : newsOf role h₀ h L = pre ++ (a, o) :: post) (N' : News h₀ L h' (pre ++ (a, o') :: post)) :
    (∀ b ob, role b ≠ .none → b ≠ a → h.get? b = some ob → h'.get? b = some ob) ∧ h'.get? a = some o' := by
  refine ⟨fun b ob hr hb ho => ?_, (N' (a, o') (by simp)).1⟩
  rcases own b hr with q | ⟨q, _⟩
  · have hm : (b, ob) ∈ newsOf role h₀ h L := mem_newsOf.mpr ⟨⟨hr, q⟩, ho⟩
    rw [e, List.mem_append, List.mem_cons] at hm
    refine (N' (b, ob) (List.mem_append.2 ?_)).1
    exact hm.imp id fun hm => .tail _ (hm.resolve_left fun z => hb (congrArg Prod.fst z))
  · obtain ⟨o₁, e₁⟩ := Option.isSome_iff_exists.mp q
    have := F b o₁ e₁
    rw [ho] at this; cases this
    exact F' b ob e₁
theorem Cl.news {n : Nat} (ok : Cl Γ n p) {a : Addr} (hr : p.role a ≠ .none) (ht : ∀ vs ws, p.role a ≠ .tup vs ws) : Γ.h₀.get? a = none ∧ a ≠ Γ.L :=
  (ok.own a hr).resolve_right fun z => z.2.elim fun x z => ht _ _ (ok.hs.stat _ z)
theorem setAttr_at {C k : Nat} {Q : Unit → Shared → Prop} {E : QV} {o v : V} {wo w : Value} {K : Hp → Prop}
    (hO : FOk Γ) (hc : SetOk Γ.g C k) (ok : Ok Γ p) (ro : RV p.role o wo) (rv : RV p.role v w) (hx : vSetAttr C k o v p.H K)
    (h : ∀ q, K q.H → Ste Γ p q → Q () (p.to q).s) : wpAny Γ.M p.A (setAttr wo (Γ.g.an k) w) Q E p.s :=
  hx.run ro fun i a ha kk => kk.run ok.hs ha fun fs dx es nn _ hdx hx' hd' re kk => by
    have kk := cond_and kk
    have hdm : (dx, dictOf es nn) ∈ newsOf p.role Γ.h₀ p.s.heap Γ.L := mem_newsOf.mpr ⟨⟨by rw [hdx]; simp, ok.news (by rw [hdx]; simp) (by rw [hdx]; simp)⟩, hd'⟩
    obtain ⟨pre, post, e, ha1, ha2⟩ := newsOf_split hdm
    have pt := put_of hO.inj (k := k) (hs := PyData.keyHash Γ.g.w.params (Γ.g.an k)) (t := p.s.toks + 1) rv re
    have I : InstAt p.s.heap a (instObj C dx) C (some (dictOf es nn)) := ⟨hx', rfl, rfl, hd'⟩
    refine set_plain (hO.X.keeps ok.F.keep) I hc.set (osa_dict (s := { p.s with toks := p.s.toks + 1 }) ok.F (e ▸ news_newsOf Γ.L Γ.h₀) (hO.X.keeps ok.F.keep) I rfl hc.over hc.take hc.dict (getL_is hO.inj k re) ha1 ha2
      (putName_dict ..) rfl (Nat.le_trans pt.2 (Nat.le_trans (Nat.succ_le_succ (Nat.le_of_ble_eq_true kk.1)) (by decide))) fun h' F' N' => ?_)
    have kp := kept_split ok.own ok.F.keep F'.keep e N'
    exact h ⟨h', _, p.role, _⟩ kk.2.run (ok.ste ⟨F', ok.own, ok.hs.change ha (.inr hdx) kp.1 kp.2 ⟨dx, _, _, hdx, kp.1 a _ (by rw [ha]; simp) (fun z => by rw [z, hdx] at ha; cases ha) hx', kp.2, pt.1⟩,
      .refl _, fun b ob hb _ q => kp.1 b ob (by rw [hb]; simp) (fun z => by rw [z, hdx] at hb; cases hb) q⟩)
end
open PySem PySem.W PySem.Calls PyProof.Rows
noncomputable def pyIdx (k : Int) (n : Nat) : Option Nat := match k with
  | .ofNat j => if j < 1048576 then some j else none
  | .negSucc j => if j < 1048576 ∧ j < n then some (n - 1 - j) else none
noncomputable def atI {α : Type} (l : List α) (k : Int) (K : α → Prop) : Prop := onSome (pyIdx k l.length) fun j => onSome l[j]? K
noncomputable def vIdx (o i : V) (H : Hp) (K : KV) : Prop := onInt i fun k => match o with
  | .tup vs => atI vs k fun v => K v H
  | .str cs => atI cs k fun c => K (.str [c]) H
  | .ref a => atList H a fun vs => atI vs k fun v => K v H
  | _ => False
noncomputable def cutL {α : Type} (l : List α) (a b : Nat) : List α := (l.drop a).take (b - a)
noncomputable def eSlice (o lo hi : EX) : EX := fun ρ H K => o ρ H fun x H => lo ρ H fun y H => hi ρ H fun z H => onStr x fun cs => onInt y fun a => onInt z fun b => cs.length ≤ lenMax ∧ 0 ≤ a ∧ 0 ≤ b ∧ K (.str (cutL cs a.toNat b.toNat)) H
theorem i63 {k : Int} (h : -1048576 ≤ k ∧ k ≤ 1048576) : -(2 ^ 63) ≤ k ∧ k < 2 ^ 63 := ⟨Int.le_trans (by decide) h.1, Int.lt_of_le_of_lt h.2 (by decide)⟩
theorem pyIdx_int {k : Int} {n j : Nat} (h : pyIdx k n = some j) (hj : j < n) : -1048576 ≤ k ∧ k ≤ 1048576 ∧ (if k < 0 then k + n else k) = (j : Int) := by
  cases k with
  | ofNat i =>
    unfold pyIdx at h
    dsimp only at h
    split at h
    · rename_i q; cases h; exact ⟨Int.le_trans (by decide) (Int.natCast_nonneg j), Int.ofNat_le.2 (Nat.le_of_lt q), if_neg (Int.not_lt.2 (Int.natCast_nonneg j))⟩
    · cases h
  | negSucc i =>
    unfold pyIdx at h
    dsimp only at h
    split at h
    · rename_i q; cases h
      refine ⟨by omega, Int.le_trans (Int.le_of_lt (Int.negSucc_lt_zero i)) (by decide), (if_pos (Int.negSucc_lt_zero i)).trans (by omega)⟩
    · cases h
theorem pyIdx_seq {k : Int} {n j : Nat} (h : pyIdx k n = some j) (hj : j < n) : seqIndex? k n = some j := by
  unfold seqIndex?
  dsimp only
  rw [(pyIdx_int h hj).2.2, if_pos]
  · rfl
  · rw [decide_eq_true (Int.natCast_nonneg j), decide_eq_true (Int.ofNat_lt.2 hj)]; rfl
section
variable {Γ : FC}
theorem tail_gen {prog : Program} {w : World} {A : Around} {E : QV} {s : Shared} {value slice : Expr} {o i : Value} {T id : String} {Q : QV} (hT : s.TypeIs o T)
    (hl : typeLookup (.type T) "__getitem__" = pure (some (.builtin id))) (h : wpAny (model prog w) A (getItem o i) Q E s)
    (hs : subscripted slice false o i = operate [o, i] (getItem o i)) :
    wpAny (model prog w) A (subscriptTail value slice o i) Q E s := by
  unfold subscriptTail
  refine wpAny_bind ?_
  rw [getitemInPython_of_ne hT.not_modules]
  refine wpAny_bind (wpAny_specialOf hT hl ?_)
  have fin : wpAny (model prog w) A (subscripted slice false o i) (fun r s₃ => wpAny (model prog w) A (letTemporaryGo value o r >>= fun _ => pure r) Q E s₃) E s := by
    rw [hs]
    exact wpAny_operating (wpAny_mono h (fun r s₃ h₃ => wpAny_bind (wpAny_letTemporaryGo (wpAny_pure h₃))) fun _ _ x => x)
  first
    | exact wpAny_pure (wpAny_bind fin)
    | exact wpAny_bind (wpAny_pure (wpAny_bind fin))
    | exact wpAny_bind fin
theorem RVs.get {role : Roles} {vs : List V} : ∀ {ws : List Value}, RVs role vs ws → ∀ (i : Nat) (v : V), vs[i]? = some v → ∃ w, ws.toArray[i]? = some w ∧ RV role v w := by
  induction vs with
  | nil => exact fun _ _ _ e => nomatch e
  | cons u vs ih =>
    intro ws h i v e
    refine h.oCons fun w ws a t => ?_
    cases i with
    | zero => exact ⟨w, by simp, Option.some.inj e ▸ a⟩
    | succ i => exact (ih t i v e).elim fun x y => ⟨x, by simpa using y.1, y.2⟩
theorem atI.ex {α : Type} {l : List α} {k : Int} {K : α → Prop} (h : atI l k K) : ∃ j x, pyIdx k l.length = some j ∧ l[j]? = some x ∧ K x := (onSome.ex h).elim fun j h => (onSome.ex h.2).elim fun x z => ⟨j, x, h.1, z⟩
theorem atI.run {role : Roles} {vs : List V} {ws : List Value} {k : Int} {K : V → Prop} {C : Prop} (r : RVs role vs ws) (h : atI vs k K) (c : ∀ j v w, pyIdx k vs.length = some j → j < vs.length → seqIndex? k ws.toArray.size = some j → ws.toArray[j]? = some w → RV role v w → K v → C) : C :=
  (atI.ex h).elim fun j h => h.elim fun v h => have l := (List.getElem?_eq_some_iff.mp h.2.1).1
    (r.get j v h.2.1).elim fun w y => c j v w h.1 l ((congrArg (seqIndex? k) (show ws.toArray.size = vs.length from r.length.symm)).trans (pyIdx_seq h.1 l)) y.1 y.2 h.2.2
theorem idx_at {p : Pt} {Q E : QV} {K : KV} {o : Expr} {i : Expr} {a b : V} {wa wb : Value} (hs : ∀ a b, subscripted i false a b = operate [a, b] (getItem a b)) (ok : Ok Γ p) (r : RV p.role a wa) (r' : RV p.role b wb) (hx : vIdx a b p.H K) (h : ThenE Γ p K Q) :
    wpAny Γ.M p.A (subscriptTail o i wa wb) Q E p.s := hx.run r' fun k t kk => by
  have fin := fun v w kk r => h v (p.tick p.s.toks) w kk (ok.tick _) r
  cases a with
  | tup vs => exact r.oTup fun a ws ha => atI.run (ok.hs.tup a vs ws ha).2 kk fun j v w e l e1 e2 rw kk =>
      have ht := (ok.hs.tup a vs ws ha).1
      tail_gen (IsTup.typeIs ht) slot_tuple_getitem.lookup (getItem_tuple ht (i63 ⟨(pyIdx_int e l).1, (pyIdx_int e l).2.1⟩).1 (i63 ⟨(pyIdx_int e l).1, (pyIdx_int e l).2.1⟩).2 e1 e2 (fin v w kk rw)) (hs _ _)
  | str cs =>
    exact r.oStr fun t' => (atI.ex kk).elim fun j kk => kk.elim fun c kk => by
      have l := (List.getElem?_eq_some_iff.mp kk.2.1).1
      have b := i63 ⟨(pyIdx_int kk.1 l).1, (pyIdx_int kk.1 l).2.1⟩
      refine tail_gen (typeIs_str _ _ _) slot_str_getitem.lookup (getItem_str (c := c) (by rw [decide_eq_false (Int.not_lt.2 b.1), decide_eq_false (Int.not_le.2 b.2)]; rfl) ?_ (h _ (p.tick _) _ kk.2.2 (ok.tick _) .str)) (hs _ _)
      show (seqIndex? k (cs.toArray.size)).bind _ = _
      rw [List.size_toArray, pyIdx_seq kk.1 l]; simpa using kk.2.1
  | ref i =>
    exact r.oRef fun a ha => atList.run kk ok.hs ha fun vs ws _ rs hl kk => atI.run rs kk fun j v w e l e1 e2 rw kk => by
      have b := pyIdx_int e l
      refine tail_gen hl.isList.typeIs slot_list_getitem.lookup ?_ (hs _ _)
      by_cases k0 : 0 ≤ k
      · rw [if_neg (Int.not_lt.2 k0)] at b
        exact wpAny_getItem_list hl.isList k0 (i63 ⟨b.1, b.2.1⟩).2 (by rw [b.2.2]; exact e2) (fin v w kk rw)
      · have k1 := Int.not_le.1 k0
        rw [if_pos k1] at b
        have hn : (ws.toArray.size : Int) = (vs.length : Int) := congrArg Nat.cast rs.length.symm
        exact wpAny_getItem_list_neg hl.isList k1 (by rw [hn]; omega) (i63 ⟨b.1, b.2.1⟩).1 (by rw [hn, b.2.2]; exact e2) (fin v w kk rw)
  | _ => exact kk.elim
theorem E_idx {o i : Expr} {pos : Pos} {x y : EX} (h1 : SoundE Γ o x) (h2 : SoundE Γ i y) (hs : ∀ a b, subscripted i false a b = operate [a, b] (getItem a b) := by exact fun _ _ => rfl) :
    SoundE Γ (.Subscript o i pos) (eOp2 vIdx x y) :=
  ⟨fun p Q E K ok hx h => Subscript_ (h1.run p _ E _ ok hx fun a q w kk st r => h2.run _ _ E _ st.ok kk fun b q' w' kk st' r' => idx_at hs st'.ok (r.mono st'.X.grow) r' kk ((h.step st).step st'))⟩
theorem clip_nat (a n : Nat) : max 0 (min (a : Int) n) = ((min a n : Nat) : Int) := by rw [Int.max_eq_right (Int.le_min.2 ⟨Int.natCast_nonneg _, Int.natCast_nonneg _⟩)]; exact (Lean.Omega.Int.ofNat_min a n).symm
theorem cut_rng (a b n : Nat) : Builtin.Str.strSliceIndices (some (a : Int)) (some (b : Int)) 1 n = (List.range (min b n - min a n)).map (min a n + ·) := by
  rw [← sliceRange_one, ← clip_nat, ← clip_nat]
  rfl
theorem cut_min (cs : List Nat) (a b : Nat) : (cs.drop (min a cs.length)).take (min b cs.length - min a cs.length) = cutL cs a b := by
  unfold cutL
  rcases Nat.le_total a cs.length with h | h
  · rw [Nat.min_eq_left h, List.take_eq_take_min (i := b - a), List.length_drop, Nat.sub_min_sub_right]
  · rw [Nat.min_eq_right h, List.drop_length, List.drop_eq_nil_of_le h, List.take_nil, List.take_nil]
theorem cut_idx (cs : List Nat) (a b : Nat) : (Builtin.Str.strSliceIndices (some (a : Int)) (some (b : Int)) 1 cs.length).filterMap (cs.toArray[·]?) = cutL cs a b := by
  rw [cut_rng, pick_run]; exact cut_min cs a b
theorem cut_whole (cs : List Nat) (a b : Nat) (hl : (Builtin.Str.strSliceIndices (some (a : Int)) (some (b : Int)) 1 cs.length).length = cs.length) : cutL cs a b = cs := by
  rw [cut_rng, List.length_map, List.length_range] at hl
  have : min a cs.length = 0 := by omega
  rw [← cut_min, hl, this, List.drop_zero, List.take_length]
theorem slice_at {p : Pt} {Q : QV} {K : KV} {cs : List Nat} {i j : Int} {t t' t'' : Tok} (ok : Ok Γ p) (k : cs.length ≤ lenMax ∧ 0 ≤ i ∧ 0 ≤ j ∧ K (.str (cutL cs i.toNat j.toNat)) p.H) (h : ThenE Γ p K Q) :
    (sliceMade ⟨cs.toArray⟩ t (some (i, t')) (some (j, t'')) none).post Q { p.s with heap := p.s.heap.push { cls := .type "slice", data := .fields #[.int i t', .int j t'', .none] } } := by
  obtain ⟨hl, ha, hb, k⟩ := k
  obtain ⟨i, rfl⟩ := Int.eq_ofNat_of_zero_le ha
  obtain ⟨j, rfl⟩ := Int.eq_ofNat_of_zero_le hb
  have sk := fun tk => ok.keep (ok.F.push { cls := .type "slice", data := .fields #[.int i t', .int j t'', .none] }) (kept_push _) tk
  unfold sliceMade
  split
  · rename_i e
    rw [Int.toNat_natCast, Int.toNat_natCast, cut_whole cs i j (eq_of_beq (Bool.and_eq_true_iff.1 e).2)] at k
    exact h _ _ _ k (sk p.s.toks) .str
  · have e : (slicePicked ⟨cs.toArray⟩ (some (↑i, t')) (some (↑j, t'')) none).filterMap (cs.toArray[·]?) = cutL cs i j := cut_idx cs i j
    show (Made.str ⟨((slicePicked ⟨cs.toArray⟩ (some (↑i, t')) (some (↑j, t'')) none).filterMap (cs.toArray[·]?)).toArray⟩).post Q _
    rw [e]
    exact ⟨lenMax_le (Nat.le_trans (by show (cutL cs i j).toArray.size ≤ _; rw [List.size_toArray]; exact ((List.take_sublist _ _).trans (List.drop_sublist _ _)).length_le) hl), h _ _ _ k (sk _) .str⟩
theorem E_slice {o lo hi : Expr} {pp pos : Pos} {x y z : EX} (h1 : SoundE Γ o x) (h2 : SoundE Γ lo y) (h3 : SoundE Γ hi z) (ht : ∀ a b, letTemporaryGo o a b = pure () := by exact fun _ _ => rfl) :
    SoundE Γ (.Subscript o (.Slice (some lo) (some hi) none pp) pos) (eSlice x y z) :=
  ⟨fun p Q E K ok hx h => wpAny_Subscript_str_slice (h1.run p _ E _ ok hx fun a q w k st r => h2.run _ _ E _ st.ok k fun b q' w' k st' r' => h3.run _ _ E _ st'.ok k fun c q'' w'' k st'' r'' =>
    k.run (r.mono (st'.trans st'').X.grow) fun cs t k => k.run (r'.mono st''.X.grow) fun i t' k => k.run r'' fun j t'' k =>
      ⟨⟨cs.toArray⟩, t, some (i, t'), some (j, t''), rfl, rfl, rfl, slice_at st''.ok k (((h.step st).step st').step st'')⟩) ht⟩
end
open PySem PySem.W PySem.Calls PyProof.Rows
noncomputable def sRet (x : EX) : SX := fun ρ H _ R => x ρ H R
noncomputable def sIf (t : TX) (a b : SX) : SX := fun ρ H N R => t ρ H fun c H => cnd (a ρ H N R) (b ρ H N R) c
noncomputable def sExpr (x : EX) : SX := fun ρ H N _ => x ρ H fun v H => onNone v (N ρ H)
noncomputable def sSet (i : Nat) (x : EX) : SX := fun ρ H N _ => x ρ H fun v H => N (ρ.set i (some v)) H
noncomputable def sSetAttr (C k : Nat) (o x : EX) : SX := fun ρ H N _ => x ρ H fun v H => o ρ H fun u H => vSetAttr C k u v H fun H => N ρ H
noncomputable def sNil : SX := fun ρ H N _ => N ρ H
noncomputable def sSeq (a b : SX) : SX := fun ρ H N R => a ρ H (fun ρ H => b ρ H N R) R
noncomputable def sBad : SX := fun _ _ _ _ => False
noncomputable def runF (k : Nat) (pad : List V → Option (List V)) (b : SX) : FX := fun vs H K => onSome (pad vs) fun us => b (us.map some ++ List.replicate k none) H (fun _ H => K .none H) K
structure Nxs where
  h : Heap
  t : Nat
  role : Roles
  m : Str → Option Value
  ρ : Rho
  H : Hp
noncomputable def Pt.tos (p : Pt) (q : Nxs) : Pt := ⟨p.A, At p.s q.h q.t, q.role, q.m, p.mc, q.ρ, q.H⟩
noncomputable def Pt.ups (p : Pt) (q : Nx) : Nxs := ⟨q.h, q.t, q.role, p.m, p.ρ, q.H⟩
structure Sts (Γ : FC) (p : Pt) (q : Nxs) : Prop where
  ok : Ok Γ (p.tos q)
  X : Ext Γ.cells p.role p.s.heap q.role q.h
noncomputable abbrev QF := Flow → Shared → Prop
noncomputable def ThenN (Γ : FC) (p : Pt) (N : KN) (Q : QF) : Prop := ∀ q, N q.ρ q.H → Sts Γ p q → Q .next (p.tos q).s
noncomputable def ThenR (Γ : FC) (p : Pt) (R : KV) (Q : QF) : Prop := ∀ v q w, R v q.H → Sts Γ p q → RV q.role v w → Q (.ret w) (p.tos q).s
structure SoundS (Γ : FC) (st : Stmt) (x : SX) : Prop where
  run : ∀ (p : Pt) (Q : QF) (E : QV) (N : KN) (R : KV), Ok Γ p → x p.ρ p.H N R → ThenN Γ p N Q → ThenR Γ p R Q → wpAny Γ.M p.A (exec st Γ.env) Q E p.s
structure SoundB (Γ : FC) (sts : List Stmt) (x : SX) : Prop where
  run : ∀ (p : Pt) (Q : QF) (E : QV) (N : KN) (R : KV), Ok Γ p → x p.ρ p.H N R → ThenN Γ p N Q → ThenR Γ p R Q → wpAny Γ.M p.A (execs sts Γ.env) Q E p.s
structure SoundF (g : GC) (n : Nat) (f : Addr) (x : FX) : Prop where
  run : ∀ (Γ : FC) (p : Pt) (R : Result → Shared → Prop) (K : KV) (vs : List V) (ws : List Value), Γ.g = g → FOk Γ → Cl Γ n p → RVs p.role vs ws → x vs p.H K →
    (∀ v q w, K v q.H → StF Γ p q → RV q.role v w → R (.ok (.ret w)) (p.to q).s) → codeAny Γ.M p.A (.call (.ref f) ⟨ws, []⟩) R p.s
section
variable {Γ : FC} {p : Pt} {q : Nx} {st : Stmt} {sts : List Stmt} {a b : SX} {t : TX} {x y : EX} {e o : Expr} {pos pp : Pos}
theorem Ste.s (s : Ste Γ p q) : Sts Γ p (p.ups q) := ⟨s.ok, s.X.weak fun _ h => nomatch h⟩
theorem Sts.trans {q q' : Nxs} (a : Sts Γ p q) (b : Sts Γ (p.tos q) q') : Sts Γ p q' := ⟨b.ok, a.X.trans b.X⟩
theorem ThenN.step {N : KN} {Q : QF} {q : Nxs} (h : ThenN Γ p N Q) (st : Sts Γ p q) : ThenN Γ (p.tos q) N Q := fun q' n s => h q' n (st.trans s)
theorem ThenR.step {R : KV} {Q : QF} {q : Nxs} (h : ThenR Γ p R Q) (st : Sts Γ p q) : ThenR Γ (p.tos q) R Q := fun v q' w n s r => h v q' w n (st.trans s) r
theorem S_bad : SoundS Γ st sBad := ⟨fun _ _ _ _ _ _ h => h.elim⟩
theorem B_bad : SoundB Γ sts sBad := ⟨fun _ _ _ _ _ _ h => h.elim⟩
theorem S_ret (h1 : SoundE Γ e x) : SoundS Γ (.Return (some e) pos) (sRet x) := ⟨fun p Q E N R ok hx _ h => wpAny_Return_some (h1.run p _ E _ ok hx fun v q w k s r => h v (p.ups q) w k s.s r)⟩
theorem S_ret0 : SoundS Γ (.Return none pos) (sRet (eCon .none)) := ⟨fun p Q E N R ok hx _ h => wpAny_Return_none (h .none (p.ups (p.tick p.s.toks)) .none hx (ok.tick _).s .none)⟩
theorem S_if {l l' : List Stmt} (h1 : SoundT Γ e t) (h2 : SoundB Γ l a) (h3 : SoundB Γ l' b) : SoundS Γ (.If e l l' pos) (sIf t a b) :=
  ⟨fun p Q E N R ok hx n r => wpAny_If (h1.run p _ E _ ok hx fun c q k s => match c, k with
    | true, k => h2.run (p.tos (p.ups q)) Q E N R s.ok k (n.step s.s) (r.step s.s)
    | false, k => h3.run (p.tos (p.ups q)) Q E N R s.ok k (n.step s.s) (r.step s.s))⟩
theorem S_expr (h1 : SoundE Γ e x) (hi : interactive Γ.env = false := by kernel_rfl) (hs : swapsWith e none pos.line Γ.env = pure false := by kernel_rfl) : SoundS Γ (.Expr e pos) (sExpr x) :=
  ⟨fun p Q E N R ok hx n _ => wpAny_Expr (h1.run p _ E _ ok hx fun v q w k s r => by
    obtain ⟨rfl, k⟩ := onNone.ex k
    exact Eq.symm r ▸ n (p.ups q) k s.s) hi hs⟩
theorem B_nil : SoundB Γ [] sNil := ⟨fun p Q E N R ok hx n _ => wpAny_execs_nil (n (p.ups (p.tick p.s.toks)) hx (ok.tick _).s)⟩
theorem B_cons (h1 : SoundS Γ st a) (h2 : SoundB Γ sts b) : SoundB Γ (st :: sts) (sSeq a b) :=
  ⟨fun p Q E N R ok hx n r => wpAny_execs_cons (h1.run p _ E _ R ok hx (fun q k s => h2.run _ Q E N R s.ok k (n.step s) (r.step s)) fun v q w k s rv => r v q w k s rv)⟩
theorem key_unique {l : List Slot} (nd : (l.map Slot.key).Nodup) {i j : Nat} {a b : Slot} (hi : l[i]? = some a) (hj : l[j]? = some b) (hk : a.key = b.key) : i = j := by
  have h1 : (l.map Slot.key)[i]? = some a.key := by rw [List.getElem?_map, hi]; rfl
  have h2 : (l.map Slot.key)[j]? = some a.key := by rw [List.getElem?_map, hj, hk]; rfl
  exact (List.getElem_inj nd).mp ((List.getElem?_eq_some_iff.mp h1).2.trans (List.getElem?_eq_some_iff.mp h2).2.symm)
structure SoundSt (Γ : FC) (i : Nat) (x : Str) : Prop where
  run : ∀ (p : Pt) (Q : Unit → Shared → Prop) (E : QV) (v : V) (w : Value), Ok Γ p → RV p.role v w →
    (∀ h t m, Sts Γ p ⟨h, t, p.role, m, p.ρ.set i (some v), p.H⟩ → Q () (At p.s h t)) → wpAny Γ.M p.A (storeName Γ.env x w) Q E p.s
theorem cells_mem {c : Addr} : c ∈ Γ.cells ↔ ∃ x, Slot.cel x c ∈ Γ.slots := by
  unfold FC.cells
  rw [List.mem_filterMap]
  constructor
  · rintro ⟨sl, hs, e⟩
    cases sl with
    | cel x c' => cases e; exact ⟨x, hs⟩
    | _ => cases e
  · rintro ⟨x, hs⟩
    exact ⟨_, hs, rfl⟩
theorem loc_set {i : Nat} {sl : Slot} {v : V} {ρ : Rho} {P : V → Slot → Prop} {P' : V → Slot → Prop} (hs : Γ.slots[i]? = some sl) (h : ∀ (j : Nat) (u : V), ρ[j]? = some (some u) → ∃ sl, Γ.slots[j]? = some sl ∧ P u sl)
    (h1 : P' v sl) (h2 : ∀ j u sl', j ≠ i → Γ.slots[j]? = some sl' → P u sl' → P' u sl') : ∀ (j : Nat) (u : V), (ρ.set i (some v))[j]? = some (some u) → ∃ sl, Γ.slots[j]? = some sl ∧ P' u sl := fun j u hj => by
  by_cases q : i = j
  · refine ⟨sl, q ▸ hs, ?_⟩
    rw [List.getElem?_set, if_pos q] at hj
    split at hj
    · cases hj; exact h1
    · cases hj
  · rw [List.getElem?_set_ne q] at hj
    exact (h j u hj).elim fun sl' y => ⟨sl', y.1, h2 j u sl' (Ne.symm q) y.1 y.2⟩
theorem St_loc {i : Nat} {x : Str} (hO : FOk Γ) (hs : Γ.slots[i]? = some (.loc x)) (hc : Γ.comp = none) (hx : Γ.fenv.kindOf x = some .local) : SoundSt Γ i x := ⟨fun p Q E v w ok rv h => by
  rw [env_of hc]
  refine wpAny_storeName_local hx ok.F.ns (fun h' hn hs' => ?_) (by show (Γ.cs.kind == .class || (Γ.cs.kind == .module && Γ.L != mainGlobals)) = false; rw [hO.hk]; rfl)
  have neL : ∀ a, p.role a ≠ .none → a ≠ Γ.L := fun a ha => (ok.own a ha).elim (·.2) fun q z => (Option.isSome_iff_exists.mp q.1).elim fun o e => absurd (Heap.lt_size e) (Nat.not_lt.mpr (z ▸ ok.F.above))
  have k : Kept p.role p.s.heap h' := fun a o ha ho => (hs'.2 a (neL a ha)).trans ho
  have kc : ∀ y c, Slot.cel y c ∈ Γ.slots → Same c p.s.heap h' := fun y c hc o => k c o (by rw [(ok.cel y c hc).1]; simp)
  exact h h' (p.s.toks + 1) _ ⟨⟨⟨ok.fr, ok.dep, ok.un, ok.hand, ok.F.set hn hs', ok.own, ok.hs.kept k⟩,
    loc_set hs ok.loc ⟨w, if_pos rfl, rv⟩ fun j u sl' hj hsl r => by
      cases sl' with
      | loc y => exact r.elim fun w' r => ⟨w', (if_neg fun q => hj (key_unique hO.nd hsl hs (congrArg (Prod.mk 0) q))).trans r.1, r.2⟩
      | cel y c => exact r.elim fun w' r => r.elim fun o r => ⟨w', o, kc y c (List.mem_of_getElem? hsl) o r.1, r.2⟩
      | cmp y => exact r,
    fun y c hc' => ⟨(ok.cel y c hc').1, (ok.cel y c hc').2.elim fun o z => z.elim fun u z => ⟨o, u, kc y c hc' o z.1, z.2⟩⟩, fun sc C cl' hc' => by rw [hc] at hc'; cases hc'⟩, (Ext.kept k).weak fun _ q => nomatch q⟩⟩
theorem St_cel {i : Nat} {x : Str} {c : Addr} (hO : FOk Γ) (hs : Γ.slots[i]? = some (.cel x c)) (hc : Γ.comp = none) (hx : Γ.fenv.kindOf x = some .cell) (hl : Γ.cl.lookup x = some c)
    (hcd : ∀ j y, Γ.slots[j]? = some (.cel y c) → j = i) : SoundSt Γ i x := ⟨fun p Q E v w ok rv h => by
  rw [env_of hc]
  have rc := (ok.cel x c (List.mem_of_getElem? hs)).1
  refine (ok.cel x c (List.mem_of_getElem? hs)).2.elim fun o z => z.elim fun v₀ z => wpAny_storeName_cell hO.hk hx hl ⟨o, z.1, z.2⟩ fun h' hv hs' => hv.elim fun o' ho' => ?_
  have hc0 := ok.news (a := c) (by rw [rc]; simp) (by rw [rc]; simp)
  have F' : Fr Γ.h₀ Γ.L h' p.m := ⟨ok.F.ns.sameBut hs' (Ne.symm hc0.2), fun b ob e => (hs'.2 b (fun q => by rw [q, hc0.1] at e; cases e)).trans (ok.F.keep b ob e), ok.F.above⟩
  have k1 : ∀ a, a ≠ c → Same a p.s.heap h' := fun a ha ob e => (hs'.2 a ha).trans e
  have ne : ∀ a r, p.role a = r → r ≠ .tmp → a ≠ c := fun a r e h2 q => h2 (by rw [← e, q, rc])
  have hsH : HSt Γ.g p.role p.H h' :=
    { obj := fun a j e => (ok.hs.obj a j e).elim fun ob y => ⟨ob, y.1, y.2.same (Grow.refl _).most (k1 a (ne a _ e (by simp))) fun d e' => k1 d (ne d _ e' (by simp))⟩
      inj := ok.hs.inj
      tup := fun a vs ws e => ⟨isTup_kept (k1 a (ne a _ e (by simp))) (ok.hs.tup a vs ws e).1, (ok.hs.tup a vs ws e).2⟩
      live := fun a ha => by
        by_cases q : a = c
        · exact ⟨o', q ▸ ho'.1⟩
        · exact (ok.hs.live a ha).elim fun ob e => ⟨ob, k1 a q ob e⟩
      stat := ok.hs.stat }
  exact h h' p.s.toks p.m ⟨⟨⟨ok.fr, ok.dep, ok.un, ok.hand, F', ok.own, hsH⟩,
    loc_set hs ok.loc ⟨w, o', ho'.1, ho'.2, rv⟩ fun j u sl' hj hsl r => by
      cases sl' with
      | cel y c' => exact r.elim fun w' r => r.elim fun ob r => ⟨w', ob, k1 c' (fun q => hj (hcd j y (q ▸ hsl))) ob r.1, r.2⟩
      | _ => exact r,
    fun y c' hc' => ⟨(ok.cel y c' hc').1, by
      by_cases q : c' = c
      · exact ⟨o', some w, q ▸ ho'.1, ho'.2⟩
      · exact (ok.cel y c' hc').2.elim fun ob z => z.elim fun u z => ⟨ob, u, k1 c' q ob z.1, z.2⟩⟩, fun sc C cl' hc' => by rw [hc] at hc'; cases hc'⟩,
    .refl _, fun a ob _ hn e => k1 a (fun q => hn (q ▸ cells_mem.mpr ⟨x, List.mem_of_getElem? hs⟩)) ob e⟩⟩
theorem S_set {i : Nat} {n : Str} (h1 : SoundE Γ e y) (h2 : SoundSt Γ i n) (hs : swapsWith e (some (.Name n pp)) pos.line Γ.env = pure false := by kernel_rfl) : SoundS Γ (.Assign [.Name n pp] e pos) (sSet i y) :=
  ⟨fun p Q E N R ok hx n _ => wpAny_Assign_Name (h1.run p _ E _ ok hx fun v q w k s r => h2.run (p.to q) _ E v w s.ok r fun h' t' m' s' => n _ k (s.s.trans s')) hs⟩
theorem S_attr {C k : Nat} {name : Str} (hO : FOk Γ) (hn : Γ.g.an k = name) (hc : SetOk Γ.g C k) (h1 : SoundE Γ e y) (h2 : SoundE Γ o x)
    (hs : swapsWith e (some (.Attribute o name pp)) pos.line Γ.env = pure false := by kernel_rfl) : SoundS Γ (.Assign [.Attribute o name pp] e pos) (sSetAttr C k x y) := by
  subst hn
  exact ⟨fun p Q E N R ok hx n _ => plainObj_wpAny_Assign_Attribute (h1.run p _ E _ ok hx fun v q w k s r => h2.run _ _ E _ s.ok k fun u q' w' k s' r' =>
    setAttr_at hO hc s'.ok r' (r.mono s'.X.grow) k fun q'' k s'' => n (p.ups q'') k ((s.trans s').trans s'').s) hs⟩
end
open PySem PySem.W PySem.Calls PyProof.Rows
section
variable {g : GC} {n : Nat}
theorem lookup_zip : ∀ (xs : List Str) (ws : List Value) (i : Nat) (w : Value) (x : Str), xs.Nodup → xs[i]? = some x → ws.toArray[i]? = some w → ((xs.zip ws).reverse.lookup x) = some w := by
  intro xs
  induction xs with
  | nil => exact fun _ _ _ _ _ h => nomatch h
  | cons y ys ih =>
    intro ws i w x nd h1 h2
    rw [List.nodup_cons] at nd
    cases ws with
    | nil => simp at h2
    | cons u us =>
      rw [List.zip_cons_cons, List.reverse_cons, List.lookup_append]
      cases i with
      | zero =>
        cases h1; simp at h2; subst h2
        have : (ys.zip us).reverse.lookup y = none := List.lookup_eq_none_iff.2 fun p hp => bne_iff_ne.2 fun q => nd.1 (q ▸ (List.of_mem_zip (a := p.1) (b := p.2) (List.mem_reverse.mp hp)).1)
        rw [this, List.lookup_cons, beq_self_eq_true]; rfl
      | succ i => rw [ih us i w x nd.2 h1 (by simpa using h2)]; rfl
theorem FOk.tab {Γ : FC} (hO : FOk Γ) (a : Addr) (x : List V × List Value) (h : (a, x) ∈ Γ.g.tabs) : (Γ.h₀.get? a).isSome :=
  (Option.isSome_iff_exists.mp (hO.tabs _ h)).elim fun o ho => Option.isSome_iff_exists.mpr ⟨o, hO.X _ _ ho⟩
theorem Own.move {h₀ h₀' h h' : Heap} {L L' : Addr} {role : Roles} (own : Own g h₀ L role) (live : ∀ a, role a ≠ .none → ∃ o, h.get? a = some o) (N : News h₀' L' h' (newsOf role h₀ h L)) (tab : ∀ a x, (a, x) ∈ g.tabs → (h₀'.get? a).isSome) : Own g h₀' L' role :=
  fun a ha => (own a ha).elim (fun q => (live a ha).elim fun o ho => have z := N (a, o) (mem_newsOf.mpr ⟨⟨ha, q⟩, ho⟩); .inl ⟨z.2.2, z.2.1⟩) fun q => q.2.elim fun x hx => .inr ⟨tab a x hx, x, hx⟩
theorem loc_start {role : Roles} {names : List Str} {more : List Slot} {us : List V} {ws : List Value} {k : Nat} (rv : RVs role us ws) (hl : us.length = names.length) (nd : names.Nodup) (i : Nat) (v : V)
    (e : (us.map some ++ List.replicate k none)[i]? = some (some v)) : ∃ sl, (names.map Slot.loc ++ more)[i]? = some sl ∧ ∀ h mc, RLoc role h (fun y => (names.zip ws).reverse.lookup y) mc v sl := by
  by_cases hil : i < us.length
  · rw [List.getElem?_append_left (by simpa using hil), List.getElem?_map] at e
    obtain ⟨u', hu', e'⟩ := Option.map_eq_some_iff.mp e
    cases e'
    exact (rv.get i v hu').elim fun w y => ⟨.loc (names[i]'(hl ▸ hil)), by rw [List.getElem?_append_left (by simpa using hl ▸ hil), List.getElem?_map, List.getElem?_eq_getElem (hl ▸ hil)]; rfl,
      fun _ _ => ⟨w, lookup_zip names ws i w _ nd (List.getElem?_eq_getElem (hl ▸ hil)) y.1, y.2⟩⟩
  · rw [List.getElem?_append_right (by simpa using hil), List.getElem?_replicate] at e
    split at e <;> cases e
theorem F_plain {f : Addr} {fo : Obj} {name qual : Str} {params : Arguments} {body : List Stmt} {scope : Scope} {dV kV doc pm cdv ct : Value} {an : Option Addr} {names : List Str} {more : List Slot} {xb : SX} {pad : List V → Option (List V)}
    (ho : g.K.lookup f = some fo) (hd : fo.data = .func (fnX name qual params body scope [] dV kV doc pm an cdv ct)) (hcd : codeIn g.K cdv qual = true)
    (hb : ∀ (s : Shared) role vs ws us, g.K.In s.heap → RVs role vs ws → pad vs = some us → ∃ ws', RVs role us ws' ∧ us.length = names.length ∧ BindsTo s (fnX name qual params body scope [] dV kV doc pm an cdv ct) ⟨ws, []⟩ (names.zip ws'))
    (hloc : (names.all fun x => scope.names.lookup x == some .local) = true) (hnd : names.Nodup) (hnk : ((names.map Slot.loc ++ more).map Slot.key).Nodup)
    (hmore : (more.all fun | .loc _ => true | _ => false) = true)
    (hcell : ∀ x ∈ scope.names, x.2 ≠ .cell) (hco : scope.isCoroutine = false) (hgen : scope.isGenerator = false) (hk : scope.kind = .function)
    (hbody : ∀ (base h₀ : Heap) (outer : List Env) (A₀ : Around) (L : Addr), FOk ⟨g, n, base, h₀, outer, A₀, L, f, qual, scope, cdv, [], none, names.map Slot.loc ++ more⟩ →
      SoundB ⟨g, n, base, h₀, outer, A₀, L, f, qual, scope, cdv, [], none, names.map Slot.loc ++ more⟩ body xb) :
    SoundF g (n + 1) f (runF more.length pad xb) := ⟨fun Γ p R K vs ws hg hO ok rvs hx h => (onSome.ex hx).elim fun us hx => by
  subst hg
  obtain ⟨ws', rv', hlen, hbind⟩ := hb p.s p.role vs ws us (hO.X.keeps ok.F.keep) rvs hx.1
  refine callX_plain hO.B ok.F (news_newsOf (role := p.role) _ _) hO.T.nolimit ok.fr rfl hO.hk ((hO.X.keeps ok.F.keep) _ _ ho) hd (codeRec_of (hO.X.keeps ok.F.keep) hcd) (by have := ok.dep; omega) hbind
    (fun y hy => beq_iff_eq.mp (List.all_eq_true.mp hloc y.1 (List.of_mem_zip (a := y.1) (b := y.2) hy).1)) (fun gH L' h₁ FG F' N' B' st lt => ?_) hcell hco hgen hk
  let Γ' : FC := ⟨Γ.g, n, Γ.base, gH, Γ.fenv :: Γ.outer, p.A, L', f, qual, scope, cdv, [], none, names.map Slot.loc ++ more⟩
  have hsl : ∀ s ∈ Γ'.slots, ∃ x, s = .loc x := fun s hs => (List.mem_append.mp hs).elim (fun q => (List.mem_map.mp q).elim fun x y => ⟨x, y.2.symm⟩) fun q => by
    have := List.all_eq_true.mp hmore _ q
    cases s with | loc x => exact ⟨x, rfl⟩ | _ => cases this
  have hO' : FOk Γ' := ⟨B', hO.X.keeps st, hO.T.keeps st, hk, (fun _ _ _ q => (nomatch q)), hnk, hO.tabs, hO.inj, (fun _ x hx => (hsl _ hx).elim fun _ q => nomatch q), (fun _ _ _ q => (nomatch q))⟩
  have k : Kept p.role p.s.heap h₁ := kept_of_news ok.own ok.F.keep (fun b o q => F'.keep b o (st b o q)) N'
  have hcells : Γ'.cells = [] := List.eq_nil_iff_forall_not_mem.mpr fun c hc => (cells_mem.mp hc).elim fun x hx => (hsl _ hx).elim fun _ q => nomatch q
  let p' : Pt := ⟨p.A.deeper (envX qual scope L' f cdv []), { p.s with heap := h₁, toks := p.s.toks + (names.zip ws').length }, p.role, fun y => (names.zip ws').reverse.lookup y, fun _ => none, us.map some ++ List.replicate more.length none, p.H⟩
  have ok' : Ok Γ' p' :=
    ⟨⟨by show p.A.frames.map (envX qual scope L' f cdv [] :: ·) = _; rw [ok.fr]; rfl, by show p.A.depth + 1 + 4 * n + 4 < _; have := ok.dep; omega, by show p.A.units + 3 + 16 * n + 16 < _; have := ok.un; omega, ok.hand,
      F', ok.own.move ok.hs.live N' hO'.tab, ok.hs.kept k⟩, fun i v e => (loc_start rv' hlen hnd i v e).elim fun sl y => ⟨sl, y.1, y.2 _ _⟩, (fun x c hc => (hsl _ hc).elim fun _ q => nomatch q), fun _ _ _ q => nomatch q⟩
  have fin : ∀ (v : V) (q : Nxs) (w : Value), K v q.H → Sts Γ' p' q → RV q.role v w → LeaveK Γ.h₀ Γ.L p.m gH R w (At p.s q.h q.t) := fun v q w kk st' r =>
    leaveK_ st'.ok.F (news_newsOf (role := q.role) _ _) fun F N => h v ⟨q.h, q.t, q.role, q.H⟩ w kk ⟨F, st'.ok.own.move st'.ok.hs.live N hO.tab, st'.ok.hs, (Ext.kept k).trans (hcells ▸ st'.X)⟩ r
  exact (hbody Γ.base gH (Γ.fenv :: Γ.outer) p.A L' hO').run _ _ _ _ _ ok' hx.2 (fun q kk st' => fin .none q .none kk st' .none) fun v q w kk st' r => fin v q w kk st' r⟩
theorem SoundF.mono {k n : Nat} {f : Addr} {x : FX} (h : SoundF g k f x) (hk : k ≤ n) : SoundF g n f x := ⟨fun Γ p R K vs ws hg hO ok => h.run Γ p R K vs ws hg hO ⟨ok.fr, by have := ok.dep; omega, by have := ok.un; omega, ok.hand, ok.F, ok.own, ok.hs⟩⟩
variable {Γ : FC} {p : Pt}
theorem call_at {f : Addr} {fx : FX} {Q E : QV} {K : KV} {vs : List V} {ws : List Value} (hO : FOk Γ) (hf : SoundF Γ.g Γ.n f fx) (ok : Ok Γ p) (rvs : RVs p.role vs ws) (hx : fx vs p.H K) (h : ThenE Γ p K Q) :
    wpAny Γ.M p.A (call (.ref f) ws) Q E p.s := wpAny_call (hf.run Γ p _ K vs ws rfl hO ok.toCl rvs hx fun v q w k st r => h v q w k (ok.ste st) r)
theorem E_call {f : Addr} {x : Str} {e : Expr} {rest : List Expr} {pp pos : Pos} {fx : FX} {l : LX} (hO : FOk Γ) (hg : nsIn Γ.g.K mainGlobals x = some (some (.ref f)))
    (hk : keepIn Γ.g.K (.ref f) = true) (hf : SoundF Γ.g Γ.n f fx) (h1 : SoundL Γ (e :: rest) l)
    (hc : ∀ env, eval (.Call (.Name x pp) (e :: rest) [] pos) env = (do callWith pos (← eval (.Name x pp) env) [] (backTo pos (starEach (e :: rest) env)) (backToKw pos (keywordEach [] env))) := by exact fun _ => rfl)
    (he : ∀ env, starEach (e :: rest) env = (false, eval e env) :: starEach rest env := by exact fun _ => rfl) (hp : ∀ env, (backTo pos (starEach rest env)).any (·.1) = false := by exact fun _ => rfl) (hx : Γ.env.kindOf x = some .globalImplicit := by kernel_rfl) (hd : (x == ("__debug__" : Str)) = false := by kernel_rfl) :
    SoundE Γ (.Call (.Name x pp) (e :: rest) [] pos) (eCal fx l) :=
  ⟨fun p Q E K ok hx' h => Call_ (glob_at hO ok hg hx hd (callWith_K hO.X hk (h1.run pos p _ E _ ok hx' fun vs q ws k st r => ⟨hO.X.keeps st.ok.F.keep, call_at hO hf st.ok r k.run (h.step st)⟩) (he _) (hp _))) (hc _)⟩
theorem E_call0 {f : Addr} {x : Str} {pp pos : Pos} {fx : FX} (hO : FOk Γ) (hg : nsIn Γ.g.K mainGlobals x = some (some (.ref f)))
    (hk : keepIn Γ.g.K (.ref f) = true) (hf : SoundF Γ.g Γ.n f fx)
    (hc : ∀ env, eval (.Call (.Name x pp) [] [] pos) env = (do callWith pos (← eval (.Name x pp) env) [] (backTo pos (starEach [] env)) (backToKw pos (keywordEach [] env))) := by exact fun _ => rfl) (hx : Γ.env.kindOf x = some .globalImplicit := by kernel_rfl) (hd : (x == ("__debug__" : Str)) = false := by kernel_rfl) :
    SoundE Γ (.Call (.Name x pp) [] [] pos) (eCal fx lNil) :=
  ⟨fun p Q E K ok hx' h => Call_ (glob_at hO ok hg hx hd (callWith_K0 (hO.X.keeps ok.F.keep) hk (call_at hO hf ok .nil hx'.run h))) (hc _)⟩
noncomputable def fNew (C : Nat) (init : FX) : FX := fun vs H K => newAt H (.inst C []) fun x H₁ => callAt init (x :: vs) H₁ fun v H' => onNone v (K x H')
structure ClsOk (g : GC) (C fI : Addr) : Prop where
  makes : makesIn g.K C = true
  init : findIn g.K (.ref C) "__init__" = some (some (.ref fI))
  fn : isFn g.K (.ref fI) = true
theorem new_at {C fI : Addr} {fx : FX} {Q E : QV} {K : KV} {vs : List V} {ws : List Value} (hO : FOk Γ) (hc : ClsOk Γ.g C fI) (hn : SoundF Γ.g (Γ.n - 1) fI fx) (h1 : 1 ≤ Γ.n) (ok : Ok Γ p) (rvs : RVs p.role vs ws) (hx : fNew C fx vs p.H K) (h : ThenE Γ p K Q) :
    wpAny Γ.M p.A (call (.ref C) ws) Q E p.s := by
  refine call_cls (kw := []) ok.F hO.X (news_newsOf (role := p.role) _ _) hc.makes hc.init hc.fn fun x dx h' F' N' l1 l2 => ?_
  have k : Kept p.role p.s.heap h' := kept_of_news ok.own ok.F.keep F'.keep (fun p hp => N' p (.tail _ (.tail _ hp)))
  have n1 := N' (x, instObj C dx) (.head _)
  have n2 := N' (dx, dictOf [] 0) (.tail _ (.head _))
  have frd : p.role dx = .none := ok.fresh n2.2.2 fun o q => absurd (l1 _ q) (Nat.lt_irrefl _)
  have frx : p.role x = .none := ok.fresh n1.2.2 fun o q => absurd (Nat.lt_trans (l1 _ q) l2) (Nat.lt_irrefl _)
  have hxd : x ≠ dx := fun q => absurd (q ▸ l2) (Nat.lt_irrefl _)
  have fx1 : upd p.role dx (.dct x) x = .none := (upd_ne hxd).trans frx
  have X := (Ext.upd (r := .dct x) frd k).trans (Ext.upd (r := .obj p.H.length) fx1 (fun _ _ _ q => q))
  have s2 : HSt Γ.g (upd (upd p.role dx (.dct x)) x (.obj p.H.length)) (p.H ++ [.inst C []]) h' := (ok.hs.mark frd k n2.1 (by simp) (by simp)).alloc fx1 (fun _ _ _ q => q) n1.1 ⟨dx, [], 0, (upd_ne (Ne.symm hxd)).trans (upd_self ..), n1.1, n2.1, rfl⟩
  refine hn.run Γ ⟨p.A.under (.builtin "type.__call__" ⟨.ref C :: ws, []⟩), { p.s with heap := h' }, upd (upd p.role dx (.dct x)) x (.obj p.H.length), p.m, p.mc, p.ρ, p.H ++ [HO.inst C []]⟩ _ _ (.ref p.H.length :: vs) (.ref x :: ws) rfl hO
    ⟨ok.fr, by show p.A.depth + 1 + 4 * (Γ.n - 1) + 4 < _; have := ok.dep; omega, by show p.A.units + 1 + 16 * (Γ.n - 1) + 16 < _; have := ok.un; omega, ok.hand, F', (ok.own.upd ⟨n2.2.2, n2.2.1⟩).upd ⟨n1.2.2, n1.2.1⟩, s2⟩
    (.cons (.ref (upd_self ..)) (rvs.mono X.grow)) hx.run.run fun v q w kk st r => ?_
  obtain ⟨rfl, kk⟩ := onNone.ex kk
  exact Eq.symm r ▸ ⟨rfl, h _ q (.ref x) kk (ok.ste ⟨st.F, st.own, st.hs, X.trans st.X⟩) (.ref (st.X.grow.at (upd_self ..) (by simp)))⟩
theorem E_new {C fI : Addr} {x : Str} {e : Expr} {rest : List Expr} {pp pos : Pos} {fx : FX} {l : LX} (hO : FOk Γ) (hg : nsIn Γ.g.K mainGlobals x = some (some (.ref C)))
    (hk : keepIn Γ.g.K (.ref C) = true) (hcl : ClsOk Γ.g C fI) (hf : SoundF Γ.g (Γ.n - 1) fI fx) (hn : 1 ≤ Γ.n) (h1 : SoundL Γ (e :: rest) l)
    (hc : ∀ env, eval (.Call (.Name x pp) (e :: rest) [] pos) env = (do callWith pos (← eval (.Name x pp) env) [] (backTo pos (starEach (e :: rest) env)) (backToKw pos (keywordEach [] env))) := by exact fun _ => rfl)
    (he : ∀ env, starEach (e :: rest) env = (false, eval e env) :: starEach rest env := by exact fun _ => rfl) (hp : ∀ env, (backTo pos (starEach rest env)).any (·.1) = false := by exact fun _ => rfl) (hx : Γ.env.kindOf x = some .globalImplicit := by kernel_rfl) (hd : (x == ("__debug__" : Str)) = false := by kernel_rfl) :
    SoundE Γ (.Call (.Name x pp) (e :: rest) [] pos) (eCal (fNew C fx) l) :=
  ⟨fun p Q E K ok hx' h => Call_ (glob_at hO ok hg hx hd (callWith_K hO.X hk (h1.run pos p _ E _ ok hx' fun vs q ws k st r => ⟨hO.X.keeps st.ok.F.keep, new_at hO hcl hf hn st.ok r k.run (h.step st)⟩) (he _) (hp _))) (hc _)⟩
theorem E_new0 {C fI : Addr} {x : Str} {pp pos : Pos} {fx : FX} (hO : FOk Γ) (hg : nsIn Γ.g.K mainGlobals x = some (some (.ref C)))
    (hk : keepIn Γ.g.K (.ref C) = true) (hcl : ClsOk Γ.g C fI) (hf : SoundF Γ.g (Γ.n - 1) fI fx) (hn : 1 ≤ Γ.n)
    (hc : ∀ env, eval (.Call (.Name x pp) [] [] pos) env = (do callWith pos (← eval (.Name x pp) env) [] (backTo pos (starEach [] env)) (backToKw pos (keywordEach [] env))) := by exact fun _ => rfl) (hx : Γ.env.kindOf x = some .globalImplicit := by kernel_rfl) (hd : (x == ("__debug__" : Str)) = false := by kernel_rfl) :
    SoundE Γ (.Call (.Name x pp) [] [] pos) (eCal (fNew C fx) lNil) :=
  ⟨fun p Q E K ok hx' h => Call_ (glob_at hO ok hg hx hd (callWith_K0 (hO.X.keeps ok.F.keep) hk (new_at hO hcl hf hn ok .nil hx'.run h))) (hc _)⟩
noncomputable def eMeth (C : Nat) (name : Nat) (f : FX) (o : EX) (l : LX) : EX := fun ρ H K => o ρ H fun v H => onRef v fun i => atInst H i C fun fs => cnd (l ρ H fun vs H => callAt f (.ref i :: vs) H K) False (fs.all fun p => !Nat.beq p.1 name)
noncomputable def eMeth0 (C : Nat) (name : Nat) (f : FX) (o : EX) : EX := fun ρ H K => o ρ H fun v H => onRef v fun i => atInst H i C fun fs => cnd (callAt f [.ref i] H K) False (fs.all fun p => !Nat.beq p.1 name)
structure MethOk (g : GC) (C f : Addr) (name : Str) : Prop where
  get : plainGet g.K C name = true
  find : findIn g.K (.ref C) name = some (some (.ref f))
  fn : isFn g.K (.ref f) = true
  keep : keepIn g.K (.ref f) = true
theorem no_field {an : Nat → Str} {role : Roles} {k : Nat} {es : List DictEntry} (inj : ∀ i j, an i = an j → i = j) {fs : List (Nat × V)} (re : REnt an role fs es) (h : (fs.all fun p => !Nat.beq p.1 k) = true) : getL (an k) es = some none := by
  have e : getF k fs = none := by
    clear re
    induction fs with
    | nil => rfl
    | cons p r ih =>
      rw [List.all_cons, Bool.and_eq_true] at h
      rw [getF, if_neg (by rw [Bool.not_eq_true']  at h; rw [h.1]; exact Bool.false_ne_true)]
      exact ih h.2
  rcases getL_rel inj k re with z | ⟨v, w, z, _⟩
  · exact z.2
  · rw [e] at z; cases z
theorem E_meth {C f : Addr} {k : Nat} {name : Str} {o e : Expr} {rest : List Expr} {apos pos : Pos} {pl : Env → Sem Bool} {fx : FX} {x : EX} {l : LX} (hO : FOk Γ) (hn : Γ.g.an k = name) (hm : MethOk Γ.g C f name) (hf : SoundF Γ.g Γ.n f fx)
    (h0 : SoundE Γ o x) (h1 : SoundL Γ (e :: rest) l)
    (hc : ∀ env, eval (.Call (.Attribute o name apos) (e :: rest) [] pos) env = (do
      let ov ← eval o env
      standAt apos.atName
      let (f, first) ← holding [ov] (getMethod ov name (pl env))
      callWith pos f first (backTo pos (starEach (e :: rest) env)) []) := by exact fun _ => rfl)
    (he : ∀ env, starEach (e :: rest) env = (false, eval e env) :: starEach rest env := by exact fun _ => rfl) (hp : ∀ env, (backTo pos (starEach rest env)).any (·.1) = false := by exact fun _ => rfl) :
    SoundE Γ (.Call (.Attribute o name apos) (e :: rest) [] pos) (eMeth C k fx x l) := by
  subst hn
  exact ⟨fun p Q E K ok hx h => MethodCall_ (pl := pl Γ.env) (h0.run p _ E _ ok hx fun v q w kk st r => kk.run r fun i a ha kk => kk.run st.ok.hs ha fun fs dx es nn _ hdx hx1 hd re kk =>
    method_inst st.ok.F hO.X ⟨hx1, rfl, rfl, hd⟩ hm.get hm.find hm.fn (no_field hO.inj re (cond_and kk).1) (callWith_K hO.X hm.keep (h1.run pos _ _ E _ st.ok (cond_and kk).2 fun vs q' ws kk st' r' =>
      ⟨hO.X.keeps st'.ok.F.keep, call_at hO hf st'.ok (.cons (.ref (st'.X.grow.at ha (by simp))) r') kk.run ((h.step st).step st')⟩) (he _) (hp _))) (hc _)⟩
theorem E_meth0 {C f : Addr} {k : Nat} {name : Str} {o : Expr} {apos pos : Pos} {pl : Env → Sem Bool} {fx : FX} {x : EX} (hO : FOk Γ) (hn : Γ.g.an k = name) (hm : MethOk Γ.g C f name) (hf : SoundF Γ.g Γ.n f fx)
    (h0 : SoundE Γ o x)
    (hc : ∀ env, eval (.Call (.Attribute o name apos) [] [] pos) env = (do
      let ov ← eval o env
      standAt apos.atName
      let (f, first) ← holding [ov] (getMethod ov name (pl env))
      callWith pos f first (backTo pos (starEach [] env)) []) := by exact fun _ => rfl) :
    SoundE Γ (.Call (.Attribute o name apos) [] [] pos) (eMeth0 C k fx x) := by
  subst hn
  exact ⟨fun p Q E K ok hx h => MethodCall_ (pl := pl Γ.env) (h0.run p _ E _ ok hx fun v q w kk st r => kk.run r fun i a ha kk => kk.run st.ok.hs ha fun fs dx es nn _ hdx hx1 hd re kk =>
    method_inst st.ok.F hO.X ⟨hx1, rfl, rfl, hd⟩ hm.get hm.find hm.fn (no_field hO.inj re (cond_and kk).1) (callWith_K0 (hO.X.keeps st.ok.F.keep) hm.keep (call_at hO hf st.ok (.cons (.ref ha) .nil) (cond_and kk).2.run (h.step st)))) (hc _)⟩
end
open PySem PySem.W PySem.Calls PyProof.Rows
inductive Src where
  | items (vs : List V) | list (i : Nat) | enum (i : Nat) | zip (i k : Nat)
noncomputable def Src.get (src : Src) (H : Hp) (P : List V → Prop) : Prop := match src with
  | .items vs => P vs
  | .list i => atList H i P
  | .enum i => atList H i fun vs => P (vs.mapIdx fun j v => .tup [.int (j : Nat), v])
  | .zip i k => atList H i fun vs => atList H k fun us => P (List.zipWith (fun a b => .tup [a, b]) vs us)
noncomputable def lookL (j : Nat) (K : V → Prop) (D : Prop) (l : List V) : Prop := match l[j]? with | some v => K v | none => D
noncomputable abbrev IX := Rho → Hp → (Src → Hp → Prop) → Prop
noncomputable abbrev Bnd := V → Rho → (Rho → Prop) → Prop
noncomputable def bName (i : Nat) : Bnd := fun v ρ K => K (ρ.set i (some v))
noncomputable def onNil (vs : List V) (P : Prop) : Prop := match vs with | [] => P | _ :: _ => False
theorem onNil.ex {vs : List V} {P : Prop} (h : onNil vs P) : vs = [] ∧ P := match vs, h with | [], h => ⟨rfl, h⟩
noncomputable def onCons (vs : List V) (K : V → List V → Prop) : Prop := match vs with | v :: us => K v us | [] => False
theorem onCons.ex {vs : List V} {K : V → List V → Prop} (h : onCons vs K) : ∃ v us, vs = v :: us ∧ K v us := match vs, h with | v :: us, h => ⟨v, us, rfl, h⟩
noncomputable def setAll : List Nat → List V → Rho → (Rho → Prop) → Prop
  | [], vs, ρ, K => onNil vs (K ρ)
  | i :: is, vs, ρ, K => onCons vs fun v us => setAll is us (ρ.set i (some v)) K
noncomputable def bTup (is : List Nat) : Bnd := fun v ρ K => onTup v fun vs => setAll is vs ρ K
noncomputable def forTurns (src : Src) (bind : Bnd) (body : SX) : Nat → Nat → SX
  | 0, _ => fun _ _ _ _ => False
  | f + 1, j => fun ρ H N R => src.get H (lookL j (fun v => bind v ρ fun ρ₁ => body ρ₁ H (fun ρ₂ H₂ => forTurns src bind body f (j + 1) ρ₂ H₂ N R) R) (N ρ H))
structure sFor (it : IX) (bind : Bnd) (body : SX) (ρ : Rho) (H : Hp) (N : KN) (R : KV) : Prop where
  run : it ρ H fun src H => ∃ f, forTurns src bind body f 0 ρ H N R
noncomputable def whTurns (t : TX) (body : SX) : Nat → SX
  | 0 => fun _ _ _ _ => False
  | f + 1 => fun ρ H N R => t ρ H fun c H => cnd (body ρ H (fun ρ₂ H₂ => whTurns t body f ρ₂ H₂ N R) R) (N ρ H) c
structure sWhile (t : TX) (body : SX) (ρ : Rho) (H : Hp) (N : KN) (R : KV) : Prop where
  run : ∃ f, whTurns t body f ρ H N R
noncomputable def FC.stores (Γ : FC) : List Addr := match Γ.comp with | some x => [x.2.1] | none => Γ.cells
noncomputable def FC.Mine (Γ : FC) (b : Addr) : Prop := b ∈ Γ.cells ∨ ∃ sc cl, Γ.comp = some (sc, b, cl)
structure Tmp (Γ : FC) (role : Roles) (b : Addr) : Prop where
  tmp : role b = .tmp
  out : ¬ Γ.Mine b
noncomputable def Yld (b : Bool) (role : Roles) (h : Heap) (v : V) (w : Value) : Prop := match b with
  | true => RV role v w
  | false => ∃ vs ws T, v = .tup vs ∧ w = .ref T ∧ h.IsTuple T ws.toArray ∧ RVs role vs ws
noncomputable def drop (wr : List Addr) (role : Roles) : Roles := by
  classical exact fun a => if a ∈ wr then .none else role a
theorem drop_in {wr : List Addr} {role : Roles} {a : Addr} (h : a ∈ wr) : drop wr role a = .none := if_pos h
theorem drop_out {wr : List Addr} {role : Roles} {a : Addr} (h : a ∉ wr) : drop wr role a = role a := if_neg h
structure TStep (Γ : FC) (p : Pt) (wr : List Addr) (h : Heap) (t : Nat) : Prop where
  ok : Ok Γ (p.to (p.keep h t))
  same : ∀ b, b ∉ wr → Same b p.s.heap h
structure TDone (Γ : FC) (p : Pt) (wr : List Addr) (h : Heap) (t : Nat) : Prop where
  ok : Ok Γ (p.to ⟨h, t, drop wr p.role, p.H⟩)
  same : ∀ b, b ∉ wr → Same b p.s.heap h
noncomputable def Turn (Γ : FC) (bv : Bool) (target : Expr) (I : Addr) (wr : List Addr) (P : Nat → Roles → Heap → Prop) (j : Nat) (p : Pt) (Q : Option Value → Shared → Prop) (E : QV) (K : V → Prop) (D : Prop) : Prop :=
  (∀ w s₁, (∀ Q' : Unit → Shared → Prop, (∀ v h t, K v → TStep Γ p wr h t → P (j + 1) p.role h → Yld bv p.role h v w → Q' () (At p.s h t)) → wpAny Γ.M p.A (letOwnedTupleGo target (.ref I) w) Q' E s₁) → Q (some w) s₁) →
  (∀ h t, D → TDone Γ p wr h t → Q none (At p.s h t)) → wpAny Γ.M p.A (pyNext (.ref I)) Q E p.s
structure TurnOk (Γ : FC) (bv : Bool) (A : Around) (target : Expr) (I : Addr) (src : Src) (P : Nat → Roles → Heap → Prop) (wr : List Addr) : Prop where
  frame : ∀ {j : Nat} {role : Roles} {h : Heap} {role' : Roles} {h' : Heap}, P j role h → Grow role role' → (∀ b o, role b = .tmp → ¬ Γ.Mine b → h.get? b = some o → h'.get? b = some o) → P j role' h'
  wrs : ∀ {j : Nat} {role : Roles} {h : Heap}, P j role h → ∀ b ∈ wr, Tmp Γ role b
  turn : ∀ (j : Nat) (p : Pt) (Q : Option Value → Shared → Prop) (E : QV) (K : V → Prop) (D : Prop), p.A = A → Ok Γ p → P j p.role p.s.heap → src.get p.H (lookL j K D) → Turn Γ bv target I wr P j p Q E K D
  self : ∀ (j : Nat) (E : QV) (s : Shared) (role : Roles) (Q : QV), P j role s.heap → Q (.ref I) s → wpAny Γ.M A (pyIter (.ref I)) Q E s
structure SoundI (Γ : FC) (bv : Bool) (target e : Expr) (x : IX) : Prop where
  run : ∀ (p : Pt) (Q E : QV) (K : Src → Hp → Prop), Ok Γ p → x p.ρ p.H K →
    (∀ src I q P wr, K src q.H → Ste Γ p q → (∀ b ∈ wr, p.role b = .none) → (∀ Γ' : FC, Γ'.g = Γ.g → (∀ b, Γ'.Mine b → Γ.Mine b ∨ q.role b = .none) → TurnOk Γ' bv p.A target I src P wr) → P 0 q.role q.h → Q (.ref I) (p.to q).s) →
    wpAny Γ.M p.A (eval e Γ.env) (fun v s₁ => wpAny Γ.M p.A (pyIter v) Q E s₁) E p.s
noncomputable def Pt.bnd (p : Pt) (h : Heap) (t : Nat) (m mc : Str → Option Value) (ρ : Rho) : Pt := ⟨p.A, At p.s h t, p.role, m, mc, ρ, p.H⟩
structure Bound (Γ : FC) (p : Pt) (h : Heap) (t : Nat) (m mc : Str → Option Value) (ρ : Rho) : Prop where
  ok : Ok Γ (p.bnd h t m mc ρ)
  X : Ext Γ.stores p.role p.s.heap p.role h
  emc : Γ.comp = none → mc = p.mc
  em : Γ.comp ≠ none → m = p.m
noncomputable def ThenB (Γ : FC) (p : Pt) (K : Rho → Prop) (Q : Unit → Shared → Prop) : Prop := ∀ h t m mc ρ, K ρ → Bound Γ p h t m mc ρ → Q () (At p.s h t)
structure SoundTg (Γ : FC) (bv : Bool) (target : Expr) (bind : Bnd) : Prop where
  run : ∀ (p : Pt) (Q : Unit → Shared → Prop) (E : QV) (v : V) (w : Value) (K : Rho → Prop), Ok Γ p → Yld bv p.role p.s.heap v w → bind v p.ρ K → ThenB Γ p K Q → wpAny Γ.M p.A (assign target Γ.env w) Q E p.s
structure SoundTs (Γ : FC) (elts : List Expr) (is : List Nat) : Prop where
  run : ∀ (p : Pt) (Q : Unit → Shared → Prop) (E : QV) (vs : List V) (ws : List Value) (K : Rho → Prop), Ok Γ p → RVs p.role vs ws → setAll is vs p.ρ K → ThenB Γ p K Q → wpAny Γ.M p.A (assignInOrder ((assignEach elts Γ.env).map (·.2)) ws) Q E p.s
structure SoundNm (Γ : FC) (i : Nat) (x : Str) : Prop where
  run : ∀ (p : Pt) (Q : Unit → Shared → Prop) (E : QV) (v : V) (w : Value), Ok Γ p → RV p.role v w → (∀ h t m mc, Bound Γ p h t m mc (p.ρ.set i (some v)) → Q () (At p.s h t)) → wpAny Γ.M p.A (storeName Γ.env x w) Q E p.s
section
variable {Γ : FC} {p : Pt}
theorem stores_mine {b : Addr} (h : b ∈ Γ.stores) : Γ.Mine b := by
  unfold FC.stores at h
  cases hc : Γ.comp with
  | none => rw [hc] at h; exact .inl h
  | some x => rw [hc] at h; exact .inr ⟨x.1, x.2.2, hc.trans (by rw [List.mem_singleton.mp h])⟩
theorem Ok.mine (ok : Ok Γ p) {b : Addr} (h : Γ.Mine b) : p.role b = .tmp := h.elim (fun h => (cells_mem.mp h).elim fun x hx => (ok.cel x b hx).1) fun h => h.elim fun sc h => h.elim fun cl h => (ok.cmp sc b cl h).1
theorem Ok.tmp {h' : Heap} {role' : Roles} {wr : List Addr} (ok : Ok Γ p) (t : Nat) (hw : ∀ b ∈ wr, Tmp Γ p.role b) (hk : ∀ b, b ∉ wr → Same b p.s.heap h') (h1 : ∀ a, a ∉ wr → role' a = p.role a) (h2 : ∀ a ∈ wr, role' a = .none ∨ role' a = .tmp ∧ ∃ o, h'.get? a = some o) :
    Ok Γ (p.to ⟨h', t, role', p.H⟩) := by
  have hown : ∀ b ∈ wr, Γ.h₀.get? b = none ∧ b ≠ Γ.L := fun b hb => ok.news (by rw [(hw b hb).tmp]; simp) (by rw [(hw b hb).tmp]; simp)
  have nw : ∀ a, p.role a ≠ .tmp → a ∉ wr := fun a h q => h (hw a q).tmp
  have back : ∀ a r, r ≠ .none → r ≠ .tmp → role' a = r → a ∉ wr ∧ p.role a = r := fun a r n1 n2 e => by
    by_cases q : a ∈ wr
    · exact ((h2 a q).elim (fun z => n1 (e.symm.trans z)) fun z => n2 (e.symm.trans z.1)).elim
    · exact ⟨q, (h1 a q).symm.trans e⟩
  have most : Most p.role role' := fun a _ n => h1 a (nw a n)
  have nc : ∀ {b}, Γ.Mine b → b ∉ wr := fun h q => (hw _ q).out h
  exact ⟨⟨ok.fr, ok.dep, ok.un, ok.hand, ⟨ok.F.ns.at' (hk Γ.L fun q => (hown _ q).2 rfl), fun b o e => hk b (fun q => by rw [(hown b q).1] at e; cases e) o (ok.F.keep b o e), ok.F.above⟩,
    fun a ha => ok.own a fun z => by
      by_cases q : a ∈ wr
      · rw [(hw a q).tmp] at z; cases z
      · exact ha ((h1 a q).trans z),
    { obj := fun a j e => have b := back a _ (by simp) (by simp) e
        (ok.hs.obj a j b.2).elim fun ob y => ⟨ob, y.1, y.2.same most (hk a b.1) fun d e' => hk d (nw d (by rw [e']; simp))⟩
      inj := fun a b i e1 e2 => ok.hs.inj a b i (back a _ (by simp) (by simp) e1).2 (back b _ (by simp) (by simp) e2).2
      tup := fun a vs ws e => have b := back a _ (by simp) (by simp) e
        ⟨isTup_kept (hk a b.1) (ok.hs.tup a vs ws b.2).1, (ok.hs.tup a vs ws b.2).2.most most⟩
      live := fun a ha => by
        by_cases q : a ∈ wr
        · exact (h2 a q).elim (fun z => absurd z ha) (·.2)
        · exact (ok.hs.live a (h1 a q ▸ ha)).elim fun ob e => ⟨ob, hk a q ob e⟩
      stat := fun x hx => (h1 _ (nw _ (by rw [ok.hs.stat x hx]; simp))).trans (ok.hs.stat x hx) }⟩,
    fun i v e => (ok.loc i v e).elim fun sl y => ⟨sl, y.1, y.2.kept most fun z c hc => hk c (nc (.inl (cells_mem.mpr ⟨z, hc ▸ List.mem_of_getElem? y.1⟩)))⟩,
    fun y c hc => have n := nc (.inl (cells_mem.mpr ⟨y, hc⟩))
      ⟨(h1 c n).trans (ok.cel y c hc).1, (ok.cel y c hc).2.elim fun o z => z.elim fun v z => ⟨o, v, hk c n o z.1, z.2⟩⟩,
    fun sc C cl' hc => have n := nc (.inr ⟨sc, cl', hc⟩)
      ⟨(h1 C n).trans (ok.cmp sc C cl' hc).1, (ok.cmp sc C cl' hc).2.at' (hk C n)⟩⟩
theorem TStep.mk' {h' : Heap} {wr : List Addr} (ok : Ok Γ p) (t : Nat) (hw : ∀ b ∈ wr, Tmp Γ p.role b) (hk : ∀ b, b ∉ wr → Same b p.s.heap h') (hl : ∀ b ∈ wr, ∃ o, h'.get? b = some o) : TStep Γ p wr h' t :=
  ⟨ok.tmp t hw hk (fun _ _ => rfl) fun a ha => .inr ⟨(hw a ha).tmp, hl a ha⟩, hk⟩
theorem TDone.mk' {h' : Heap} {wr : List Addr} (ok : Ok Γ p) (t : Nat) (hw : ∀ b ∈ wr, Tmp Γ p.role b) (hk : ∀ b, b ∉ wr → Same b p.s.heap h') : TDone Γ p wr h' t :=
  ⟨ok.tmp t hw hk (fun _ h => drop_out h) fun a ha => .inl (drop_in ha), hk⟩
theorem Bound.trans {h h' : Heap} {t t' : Nat} {m m' mc mc' : Str → Option Value} {ρ ρ' : Rho} (a : Bound Γ p h t m mc ρ) (b : Bound Γ (p.bnd h t m mc ρ) h' t' m' mc' ρ') : Bound Γ p h' t' m' mc' ρ' :=
  ⟨b.ok, a.X.trans b.X, fun z => (b.emc z).trans (a.emc z), fun z => (b.em z).trans (a.em z)⟩
theorem Nm_of {i : Nat} {x : Str} (hc : Γ.comp = none) (h2 : SoundSt Γ i x) : SoundNm Γ i x := ⟨fun p Q E v w ok r h =>
  h2.run p Q E v w ok r fun h' t' m' s => h h' t' m' p.mc ⟨s.ok, by unfold FC.stores; rw [hc]; exact s.X, fun _ => rfl, fun z => absurd hc z⟩⟩
theorem Tg_nm {i : Nat} {x : Str} {pos : Pos} (h2 : SoundNm Γ i x) : SoundTg Γ true (.Name x pos) (bName i) := ⟨fun p Q E v w K ok hy hb h =>
  PyProof.Rows.assign_Name (h2.run p Q E v w ok hy fun h' t' m mc b => h _ _ _ _ _ hb b)⟩
theorem Ts_nil : SoundTs Γ [] [] := ⟨fun p Q E vs ws K ok rv hb h => by
  obtain ⟨rfl, hb⟩ := onNil.ex hb
  exact rv.oNil (wpAny_pure (h p.s.heap p.s.toks p.m p.mc p.ρ hb ⟨(ok.tick _).ok, .refl .., fun _ => rfl, fun _ => rfl⟩))⟩
theorem Ts_cons {i : Nat} {x : Str} {pos : Pos} {elts : List Expr} {is : List Nat} (h1 : SoundNm Γ i x) (h2 : SoundTs Γ elts is) : SoundTs Γ (.Name x pos :: elts) (i :: is) := ⟨fun p Q E vs ws K ok rv hb h => by
  obtain ⟨v, us, rfl, hb⟩ := onCons.ex hb
  exact rv.oCons fun w us' r rs => wpAny_bind (wpAny_holding (PyProof.Rows.assign_Name (h1.run p _ E v w ok r fun h₁ t₁ m₁ mc₁ b => h2.run (p.bnd h₁ t₁ m₁ mc₁ _) Q E us us' K b.ok rs hb fun h' t' m' mc' ρ' k b' => h h' t' m' mc' ρ' k (b.trans b'))))⟩
theorem setAll_len {K : Rho → Prop} : ∀ {is : List Nat} {vs : List V} {ρ : Rho}, setAll is vs ρ K → is.length = vs.length := by
  intro is
  induction is with
  | nil => exact fun h => (onNil.ex h).1 ▸ rfl
  | cons i is ih => exact fun h => by obtain ⟨v, us, rfl, h⟩ := onCons.ex h; exact congrArg (· + 1) (ih h)
theorem Ok.ext0 {h' : Heap} (ok : Ok Γ p) (he : ∀ a o, p.s.heap.get? a = some o → h'.get? a = some o) (t : Nat) : Ste Γ p (p.keep h' t) :=
  ok.keep ⟨ok.F.ns.keeps he, fun b o e => he b o (ok.F.keep b o e), ok.F.above⟩ (fun a o _ e => he a o e) t
theorem Tg_tup {bv : Bool} {elts : List Expr} {is : List Nat} {k : Nat} {pos : Pos} (h1 : SoundTs Γ elts is) (hl : elts.length = is.length) (hn : (assignEach elts Γ.env).length = elts.length) (hs : (assignEach elts Γ.env).findIdx? (·.1) = none) :
    SoundTg Γ bv (.Tuple elts k pos) (bTup is) := ⟨fun p Q E v w K ok hy hb h => by
  obtain ⟨vs, rfl, hb⟩ := onTup.ex hb
  have hy' : ∃ ws T, w = .ref T ∧ p.s.heap.IsTuple T ws.toArray ∧ RVs p.role vs ws := by
    cases bv with
    | false => obtain ⟨vs', ws, T, e, hy⟩ := hy; cases e; exact ⟨ws, T, hy⟩
    | true => exact RV.oTup hy fun a ws e => ⟨ws, a, rfl, ok.hs.tup a vs ws e⟩
  obtain ⟨ws, T, rfl, ht, rs⟩ := hy'
  refine assign_Tuple_tuple ok.hand ht (by rw [hn, hl, setAll_len hb, rs.length]; rfl) hs fun h₁ he => ?_
  have he' : ∀ a o, p.s.heap.get? a = some o → h₁.get? a = some o := fun a o q => he a o (Nat.ne_of_lt (Heap.lt_size q)) q
  exact h1.run ⟨p.A, { p.s with heap := h₁ }, p.role, p.m, p.mc, p.ρ, p.H⟩ Q E vs ws K (ok.ext0 he' p.s.toks).ok rs hb fun h' t' m' mc' ρ' k b => h h' t' m' mc' ρ' k ⟨b.ok, Ext.trans ⟨.refl _, fun a o _ _ => he' a o⟩ b.X, b.emc, b.em⟩⟩
noncomputable def Kp (cells wr : List Addr) (r₀ : Roles) (h₀ h : Heap) : Prop := ∀ a o, r₀ a = .tmp → a ∉ cells → a ∉ wr → h₀.get? a = some o → h.get? a = some o
theorem Kp.cut {wr : List Addr} {q : Nx} {h₁ : Heap} (k : Kp Γ.cells wr q.role q.h h₁) (st : Ste Γ p q) (hw : ∀ b ∈ wr, p.role b = .none) {r₁ : Roles} (g : Grow q.role r₁) : Ext Γ.cells p.role p.s.heap r₁ h₁ :=
  ⟨st.X.grow.trans g, fun a o e n eo => k a o (st.X.grow.at e (by simp)) n (fun z => by rw [hw a z] at e; cases e) (st.X.tmp a o e (by simp) eo)⟩
theorem Kp.step {cells wr own : List Addr} {r₀ r r' : Roles} {h₀ h h' : Heap} (k : Kp cells wr r₀ h₀ h) (g : Grow r₀ r) (X : Ext own r h r' h') (ho : ∀ a ∈ own, a ∈ cells) : Kp cells wr r₀ h₀ h' :=
  fun a o e n1 n2 eo => X.tmp a o (g.at e (by simp)) (fun z => n1 (ho a z)) (k a o e n1 n2 eo)
theorem Kp.turn {cells wr : List Addr} {r₀ : Roles} {h₀ h h' : Heap} (k : Kp cells wr r₀ h₀ h) (s : ∀ b, b ∉ wr → Same b h h') : Kp cells wr r₀ h₀ h' := fun a o e n1 n2 eo => s a n2 o (k a o e n1 n2 eo)
theorem S_for {bv : Bool} {target iter : Expr} {body : List Stmt} {pos : Pos} {x : IX} {bind : Bnd} {y : SX} (h1 : SoundI Γ bv target iter x) (h2 : SoundTg Γ bv target bind) (h3 : SoundB Γ body y)
    (hc : Γ.comp = none) (hs : ∀ v, foldedSetIterable iter Γ.env v = pure v) : SoundS Γ (.For target iter body [] pos) (sFor x bind y) :=
  ⟨fun p Q E N R ok hx n r => wpAny_For (h1.run p _ E _ ok hx.run fun src I q₀ P wr hf st hwr hT hP => hf.elim fun f hf => by
    have T := hT Γ rfl fun b q => .inl q
    refine codeAny_forLoop_any (fun k s₁ => ∃ j q, s₁ = (p.tos q).s ∧ Ok Γ (p.tos q) ∧ P j q.role q.h ∧ Grow q₀.role q.role ∧ Kp Γ.cells wr q₀.role q₀.h q.h ∧ forTurns src bind y k j q.ρ q.H N R) (fun k s₁ hJ => ?_) f
      ⟨0, p.ups q₀, rfl, st.ok, hP, .refl _, fun _ _ _ _ _ e => e, hf⟩
    obtain ⟨j, q, rfl, ok₁, Pj, gr, kp, hf⟩ := hJ
    cases k with
    | zero => exact hf.elim
    | succ k =>
      refine T.turn j (p.tos q) _ _ _ _ rfl ok₁ Pj hf (fun w s₁ go => go _ fun v h₂ t₂ kb ts P₂ Y₂ => h2.run ((p.tos q).to ((p.tos q).keep h₂ t₂)) _ _ v w _ ts.ok Y₂ kb fun h₃ t₃ m₃ mc₃ ρ₃ kb b => ?_)
        fun h₂ t₂ kn td => wpAny_execs_nil (n ⟨h₂, t₂, drop wr q.role, q.m, q.ρ, q.H⟩ kn ⟨td.ok, fun a ha => (drop_out fun z => ha (hwr a z)).trans ((st.X.grow.trans gr) a ha), ((kp.turn td.same).cut st hwr gr).tmp⟩)
      obtain rfl := b.emc hc
      have kp₃ := (kp.turn ts.same).step gr b.X fun a h => by unfold FC.stores at h; rw [hc] at h; exact h
      have P₃ := T.frame P₂ b.X.grow fun c o e nm => b.X.tmp c o e fun z => nm (stores_mine z)
      exact h3.run (p.tos ⟨h₃, t₃, q.role, m₃, ρ₃, q.H⟩) _ _ _ R b.ok kb (fun q₄ kf st₄ => ⟨k, Nat.lt_succ_self _, j + 1, q₄, rfl, st₄.ok, T.frame P₃ st₄.X.grow fun c o e nm => st₄.X.tmp c o e fun z => nm (.inl z), gr.trans st₄.X.grow, kp₃.step gr st₄.X fun _ z => z, kf⟩)
        fun v q₄ w kr st₄ rv => r v q₄ w kr ⟨st₄.ok, (kp₃.step gr st₄.X fun _ z => z).cut st hwr (gr.trans st₄.X.grow)⟩ rv) hs⟩
theorem S_while {test : Expr} {body : List Stmt} {pos : Pos} {x : TX} {y : SX} (h1 : SoundT Γ test x) (h3 : SoundB Γ body y) : SoundS Γ (.While test body [] pos) (sWhile x y) :=
  ⟨fun p Q E N R ok hx n r => hx.run.elim fun f hx => wpAny_While (codeAny_whileLoop (fun k s₁ => ∃ q, s₁ = (p.tos q).s ∧ Sts Γ p q ∧ whTurns x y k q.ρ q.H N R) (fun k s₁ hJ => by
    obtain ⟨q, rfl, st, hf⟩ := hJ
    cases k with
    | zero => exact hf.elim
    | succ k => exact h1.run (p.tos q) _ _ _ st.ok hf fun c q₁ kc st₁ => match c, kc with
      | true, kc => (h3.run _ _ _ _ R st₁.ok kc (fun q₂ kn st₂ => ⟨k, Nat.lt_succ_self _, q₂, rfl, (st.trans st₁.s).trans st₂, kn⟩) fun v q₂ w kr st₂ rv => r v q₂ w kr ((st.trans st₁.s).trans st₂) rv)
      | false, kc => wpAny_execs_nil (n ((p.tos q).ups q₁) kc (st.trans st₁.s))) f ⟨p.ups (p.tick p.s.toks), rfl, (ok.tick _).s, hx⟩)⟩
end
open PySem PySem.W PySem.Calls PyProof.Rows
noncomputable def iVal (b : Bool) (x : EX) : IX := fun ρ H K => x ρ H fun v H => match v with
  | .ref i => atList H i fun _ => K (.list i) H
  | .tup vs => K (.items vs) H
  | .str cs => b = true ∧ K (.items (cs.map fun c => .str [c])) H
  | _ => False
noncomputable def iEnum (x : EX) : IX := fun ρ H K => x ρ H fun v H => onRef v fun i => atList H i fun _ => K (.enum i) H
noncomputable def iZip (x y : EX) : IX := fun ρ H K => x ρ H fun v H => y ρ H fun u H => onRef v fun i => onRef u fun k => atList H i fun _ => atList H k fun _ => i ≠ k ∧ K (.zip i k) H
noncomputable def iRange (x : EX) : IX := fun ρ H K => x ρ H fun v H => onInt v fun n => (n < 1048576 ∧ -1048576 ≤ n) ∧ K (.items ((List.range n.toNat).map fun (j : Nat) => .int (j : Int))) H
noncomputable def markP (S : Addr → Prop) (role : Roles) : Roles := by classical exact fun b => if S b then .tmp else role b
theorem mark_in {S : Addr → Prop} {role : Roles} {b : Addr} (h : S b) : markP S role b = .tmp := if_pos h
theorem mark_out {S : Addr → Prop} {role : Roles} {b : Addr} (h : ¬ S b) : markP S role b = role b := if_neg h
theorem Grow.markP {S : Addr → Prop} {role : Roles} (hn : ∀ a, S a → role a = .none) : Grow role (markP S role) := fun b hb => mark_out fun z => hb (hn b z)
theorem HSt.markP {g : GC} {S : Addr → Prop} {role : Roles} {H : Hp} {h h' : Heap} (x : HSt g role H h) (hn : ∀ a, S a → role a = .none) (k : Kept role h h') (hl : ∀ a, S a → ∃ o, h'.get? a = some o) : HSt g (markP S role) H h' := by
  have back : ∀ b r, r ≠ .tmp → Mine.markP S role b = r → role b = r := fun b r hr e => by
    by_cases q : S b
    · exact absurd ((mark_in q).symm.trans e).symm hr
    · exact (mark_out q).symm.trans e
  have gr := Grow.markP hn
  exact { obj := fun a i e => (x.obj a i (back a _ (by simp) e)).elim fun o y => ⟨o, y.1, y.2.kept gr (by rw [back a _ (by simp) e]; simp) k⟩
          inj := fun a b i e e' => x.inj a b i (back a _ (by simp) e) (back b _ (by simp) e')
          tup := fun a vs ws e => have e := back a _ (by simp) e
            have y := x.tup a vs ws e
            ⟨isTup_kept (fun o => k a o (by rw [e]; simp)) y.1, y.2.mono gr⟩
          live := fun b hb => by
            by_cases q : S b
            · exact hl b q
            · rw [mark_out q] at hb; exact (x.live b hb).elim fun o e => ⟨o, k b o hb e⟩
          stat := fun y hy => (gr _ (by rw [x.stat y hy]; simp)).trans (x.stat y hy) }
noncomputable def tmps (n k : Nat) (role : Roles) : Roles := markP (fun b => n ≤ b ∧ b < n + k) role
theorem tmps_in {n k d : Nat} {role : Roles} (h : d < k) : tmps n k role (n + d) = .tmp := mark_in ⟨Nat.le_add_right _ _, Nat.add_lt_add_left h n⟩
theorem one_of {I : Addr} {P : Addr → Prop} (h : P I) : ∀ b ∈ [I], P b := fun _ hb => List.mem_singleton.mp hb ▸ h
section
variable {Γ : FC} {p : Pt}
theorem Ok.tmps (ok : Ok Γ p) (k : Nat) {h' : Heap} (he : ∀ a o, p.s.heap.get? a = some o → h'.get? a = some o) (hl : ∀ d, d < k → ∃ o, h'.get? (p.s.heap.objs.size + d) = some o) (t : Nat) :
    Ste Γ p ⟨h', t, tmps p.s.heap.objs.size k p.role, p.H⟩ := by
  have new : ∀ b, (p.s.heap.objs.size ≤ b ∧ b < p.s.heap.objs.size + k) → p.role b = .none := fun b z => fresh_none ok.hs z.1
  exact ok.ste ⟨⟨ok.F.ns.keeps he, fun b o e => he b o (ok.F.keep b o e), ok.F.above⟩, fun b hb => by
      by_cases q : p.s.heap.objs.size ≤ b ∧ b < p.s.heap.objs.size + k
      · exact .inl (frFresh ok.F q.1)
      · exact ok.own b fun z => hb ((mark_out (S := fun b => p.s.heap.objs.size ≤ b ∧ b < p.s.heap.objs.size + k) q).trans z),
    ok.hs.markP new (fun a o _ => he a o) fun b q => by rw [← Nat.add_sub_cancel' q.1]; exact hl _ (Nat.sub_lt_left_of_lt_add q.1 q.2), .markP new, fun a o _ _ e => he a o e⟩
theorem Ok.push1 (ok : Ok Γ p) (o : Obj) (ho : o.isFreed = false) (t : Nat) : Ste Γ p ⟨p.s.heap.push o, t, Mine.tmps p.s.heap.objs.size 1 p.role, p.H⟩ :=
  ok.tmps 1 (fun a ob e => Heap.get?_push_of_some _ e) (fun d hd => ⟨o, by rw [Nat.lt_one_iff.1 hd]; exact Heap.get?_push_size _ ho⟩) t
theorem mine_new {Γ' : FC} {role' : Roles} {b : Addr} (ok : Ok Γ p) (h : p.s.heap.objs.size ≤ b) (hr : role' b = .tmp) (hm : ∀ b, Γ'.Mine b → Γ.Mine b ∨ role' b = .none) : ¬ Γ'.Mine b := fun q =>
  (hm b q).elim (fun q => by have := ok.mine q; rw [fresh_none ok.hs h] at this; cases this) fun q => by rw [hr] at q; cases q
theorem back_none {role r₁ : Roles} (X : Grow role r₁) {b : Addr} (fr : r₁ b = .none) : role b = .none := Decidable.byContradiction (dec := Classical.propDecidable _) fun q => q ((X b q).symm.trans fr)
noncomputable abbrev GoOn (Γ : FC) (p : Pt) (target : Expr) (I : Addr) (St : Nat → Heap → Prop) (j : Nat) : Prop := ∀ (s : Shared) (v : Value) (Q : Unit → Shared → Prop) (E : QV), St (j + 1) s.heap → Q () s → wpAny Γ.M p.A (letOwnedTupleGo target (.ref I) v) Q E s
variable {j n : Nat} {I : Addr} {target : Expr} {P : Nat → Roles → Heap → Prop} {Q : Option Value → Shared → Prop} {E : QV} {K : V → Prop} {D : Prop} {fp wr : List Addr} {St : Nat → Heap → Prop}
theorem turn_simple {Pv : Nat → Value → Prop} (W : Walks Γ.g.prog Γ.g.w p.A I fp [I] n Pv St) (ok : Ok Γ p) (hI : Tmp Γ p.role I) (hst : St j p.s.heap) (hj : j < n) (hgo : GoOn Γ p target I St j) (hl : ∀ h, St (j + 1) h → ∃ o, h.get? I = some o)
    (hv : ∀ v' h, Pv j v' → St (j + 1) h → ∃ v, K v ∧ RV p.role v v' ∧ P (j + 1) p.role h) : Turn Γ true target I [I] P j p Q E K D := fun nx _ =>
  W.item j p.s _ E hj hst fun v' h' tk hp hst' hk => nx _ _ fun Q' kq => hgo _ _ _ _ hst' ((hv v' h' hp hst').elim fun v y => kq v h' tk y.1 (.mk' ok tk (one_of hI) (fun b hb o => hk b o hb) (one_of (hl h' hst'))) y.2.2 y.2.1)
theorem turn_pairs {elts : List Expr} {kk : Nat} {tp : Pos} {Pv : Nat → Array Value → Prop} {Mid : Nat → Addr → Heap → Prop} (W : WalksT Γ.g.prog Γ.g.w p.A I fp wr n Pv St Mid) (ok : Ok Γ p) (hw : ∀ b ∈ wr, Tmp Γ p.role b) (hst : St j p.s.heap) (hj : j < n)
    (hl : ∀ h, St (j + 1) h → ∀ b ∈ wr, ∃ o, h.get? b = some o) (hv : ∀ vals h, Pv j vals → St (j + 1) h → ∃ vs ws, K (.tup vs) ∧ vals = ws.toArray ∧ RVs p.role vs ws ∧ P (j + 1) p.role h) : Turn Γ false (.Tuple elts kk tp) I wr P j p Q E K D := fun nx _ =>
  W.item j p.s _ E hj hst fun T vals h' tk hp _ hT hm hk => nx _ _ fun Q' kq => W.go elts kk tp j T (At p.s h' tk) _ E hm fun h'' hst' hk' => (hv vals h'' hp hst').elim fun vs z => z.elim fun ws z =>
    kq (.tup vs) h'' tk z.1 (.mk' ok tk hw (fun b hb o e => hk' b o hb (hk b o hb e)) (hl h'' hst')) z.2.2.2 ⟨vs, ws, T, rfl, rfl, z.2.1 ▸ isTup_kept (fun o => hk' T o (W.apart j T h' hm)) hT, z.2.2.1⟩
theorem turn_end {it : Addr} (ok : Ok Γ p) (hw : ∀ b ∈ wr, Tmp Γ p.role b) (hi : it ∈ wr) {bv : Bool} (d : D) (h : ∀ Q : Option Value → Shared → Prop, (∀ h', Heap.ExtBut it p.s.heap h' → Q none { p.s with heap := h' }) → wpAny Γ.M p.A (pyNext (.ref I)) Q E p.s) : Turn Γ bv target I wr P j p Q E K D := fun _ dn =>
  h _ fun h' hx => dn h' p.s.toks d (.mk' ok _ hw fun b hb o => hx b o fun z => hb (z ▸ hi))
theorem look_at {role : Roles} {vs : List V} {ws : List Value} {C : Prop} (h : lookL j K D vs) (rs : RVs role vs ws) (k1 : ∀ v w, vs[j]? = some v → j < ws.toArray.size → ws.toArray[j]? = some w → RV role v w → K v → C) (k2 : vs[j]? = none → ws.toArray[j]? = none → D → C) : C := by
  unfold lookL at h
  cases e : vs[j]? with
  | none => rw [e] at h; exact k2 e (by rw [List.getElem?_toArray, List.getElem?_eq_none_iff, ← rs.length]; exact List.getElem?_eq_none_iff.mp e) h
  | some v => rw [e] at h; exact (rs.get j v e).elim fun w y => k1 v w e (Array.getElem?_eq_some_iff.mp y.1).1 y.1 y.2 h
theorem role_ne {role : Roles} {a b : Addr} {r r' : Role} (e : role a = r) (e' : role b = r') (n : r ≠ r') : a ≠ b := fun q => n (e.symm.trans (q ▸ e'))
theorem turn_list {A : Around} {i : Nat} (hI : ¬ Γ.Mine I) : TurnOk Γ true A target I (.list i) (fun j role h => ∃ ax, role ax = .obj i ∧ role I = .tmp ∧ h.IsListIter I ax j) [I] where
  frame := fun hP g k => hP.elim fun ax h => ⟨ax, g.at h.1 (by simp), g.at h.2.1 (by simp), h.2.2.at fun o => k I o h.2.1 hI⟩
  wrs := fun hP => one_of (hP.elim fun ax h => ⟨h.2.1, hI⟩)
  turn := fun j p Q E K D e ok hP hx => hP.elim fun ax h => atList.run hx ok.hs h.1 fun vs ws _ rs hl kk => look_at kk rs
    (fun v w _ hj hw rv kv => turn_simple (Walks.list ok.hand I ax (role_ne h.1 h.2.1 (by simp)) ws.toArray) ok ⟨h.2.1, hI⟩ ⟨h.2.2, hl.isList⟩ hj (fun s v Q E st q => letGo_listiter st.1 q) (fun h' st => st.1.elim fun o z => ⟨o, z.1⟩)
      fun v' h' e st => ⟨v, kv, Option.some.inj (hw.symm.trans e) ▸ rv, ax, h.1, h.2.1, st.1⟩)
    fun _ e d => turn_end ok (one_of ⟨h.2.1, hI⟩) (.head _) d fun Q k => wpAny_pyNext_list_end ok.hand h.2.2 hl.isList e k
  self := fun j E s role Q hP hQ => hP.elim fun ax h => wpAny_pyIter_listiter h.2.2 hQ
theorem turn_tuple {A : Around} {ax : Addr} {vs : List V} {ws : List Value} (hI : ¬ Γ.Mine I) : TurnOk Γ true A target I (.items vs) (fun j role h => role ax = .tup vs ws ∧ role I = .tmp ∧ h.IsTupleIter I ax j) [I] where
  frame := fun h g k => ⟨g.at h.1 (by simp), g.at h.2.1 (by simp), h.2.2.at fun o => k I o h.2.1 hI⟩
  wrs := fun h => one_of ⟨h.2.1, hI⟩
  turn := fun j p Q E K D e ok h hx => have y := ok.hs.tup ax vs ws h.1
    look_at (D := D) hx y.2
    (fun v w _ hj hw rv kv => turn_simple (Walks.tuple ok.hand I ax (role_ne h.1 h.2.1 (by simp)) ws.toArray) ok ⟨h.2.1, hI⟩ ⟨h.2.2, y.1⟩ hj (fun s v Q E st q => letGo_tupleiter st.1 q) (fun h' st => st.1.elim fun o z => ⟨o, z.1⟩)
      fun v' h' e st => ⟨v, kv, Option.some.inj (hw.symm.trans e) ▸ rv, h.1, h.2.1, st.1⟩)
    fun _ e d => turn_end ok (one_of ⟨h.2.1, hI⟩) (.head _) d fun Q k => wpAny_pyNext_tuple_end ok.hand h.2.2 y.1 e k
  self := fun j E s role Q h hQ => wpAny_pyIter_tupleiter h.2.2 hQ
theorem turn_items {A : Around} {its : List V} {Pv : Nat → Value → Prop} (W : Walks Γ.g.prog Γ.g.w A I [I] [I] n Pv St) (hn : its.length = n) (hI : ¬ Γ.Mine I) (hgo : ∀ it v, letOwnedTupleGo target it v = pure ()) (hl : ∀ j h, St j h → ∃ o, h.get? I = some o)
    (hv : ∀ j v' role, j < n → Pv j v' → ∃ v, its[j]? = some v ∧ RV role v v') : TurnOk Γ true A target I (.items its) (fun j role h => role I = .tmp ∧ St j h ∧ j ≤ n) [I] where
  frame := fun h g k => ⟨g.at h.1 (by simp), W.frame _ _ _ h.2.1 (one_of fun o => k I o h.1 hI), h.2.2⟩
  wrs := fun h => one_of ⟨h.1, hI⟩
  turn := fun j p Q E K D e ok h hx => by
    subst e
    have hx : (match its[j]? with | some v => K v | none => D) := hx
    rcases Nat.lt_or_eq_of_le h.2.2 with hj | hj
    · refine turn_simple W ok ⟨h.1, hI⟩ h.2.1 hj (fun s v Q E st q => by rw [hgo]; exact wpAny_pure q) (hl _) fun v' h' e st => (hv j v' p.role hj e).elim fun v y => ?_
      rw [y.1] at hx
      exact ⟨v, hx, y.2, h.1, st, hj⟩
    · rw [List.getElem?_eq_none_iff.2 (by rw [hn, hj]; exact Nat.le_refl _)] at hx
      exact fun _ dn => W.done p.s _ E (hj ▸ h.2.1) fun h' tk hk => dn h' tk hx (.mk' ok tk (one_of ⟨h.1, hI⟩) fun b hb o => hk b o hb)
  self := fun j E s role Q h hQ => W.self j s Q E h.2.1 hQ
theorem two_of {a b : Addr} {P : Addr → Prop} (h : P a) (h' : P b) : ∀ c ∈ [a, b], P c := fun c hc => (List.mem_cons.mp hc).elim (fun e => e ▸ h) (one_of h' c)
theorem turn_enum {A : Around} {elts : List Expr} {kk : Nat} {tp : Pos} {e it : Addr} {i : Nat} (he : ¬ Γ.Mine e) (hit : ¬ Γ.Mine it) (hei : e ≠ it) :
    TurnOk Γ false A (.Tuple elts kk tp) e (.enum i) (fun j role h => ∃ ax, role ax = .obj i ∧ role e = .tmp ∧ role it = .tmp ∧ (∃ old, IsEnum h e it j old) ∧ h.IsListIter it ax j) [e, it] where
  frame := fun hP g k => hP.elim fun ax h => ⟨ax, g.at h.1 (by simp), g.at h.2.1 (by simp), g.at h.2.2.1 (by simp), h.2.2.2.1.imp fun _ => k e _ h.2.1 he, h.2.2.2.2.at fun o => k it o h.2.2.1 hit⟩
  wrs := fun hP => hP.elim fun ax h => two_of ⟨h.2.1, he⟩ ⟨h.2.2.1, hit⟩
  turn := fun j p Q E K D e0 ok hP hx => hP.elim fun ax h => atList.run hx ok.hs h.1 fun vs ws _ rs hl kk => by
    have hw : ∀ b ∈ [e, it], Tmp Γ p.role b := two_of ⟨h.2.1, he⟩ ⟨h.2.2.1, hit⟩
    have kk : lookL j (fun v => K (.tup [.int (j : Nat), v])) D vs := by
      unfold lookL at kk ⊢
      rw [List.getElem?_mapIdx] at kk
      cases e : vs[j]? <;> rw [e] at kk <;> exact kk
    exact look_at kk rs
      (fun v w _ hj hw' rv kv => turn_pairs (WalksT.enumerate ok.hand e it ax hei (role_ne h.1 h.2.1 (by simp)) (role_ne h.1 h.2.2.1 (by simp)) ws.toArray) ok hw ⟨h.2.2.2.1, h.2.2.2.2, hl.isList⟩ hj
        (fun h' st => two_of (st.1.elim fun o z => ⟨_, z⟩) (st.2.1.elim fun o z => ⟨o, z.1⟩))
        fun vals h' e st => e.elim fun t e => e.elim fun x e => ⟨[.int j, v], [.int j t, x], kv, e.2, .cons .int (.cons (Option.some.inj (hw'.symm.trans e.1) ▸ rv) .nil), ax, h.1, h.2.1, h.2.2.1, st.1, st.2.1⟩)
      fun _ e d => h.2.2.2.1.elim fun old en => turn_end ok hw (.tail _ (.head _)) d fun Q k => wpAny_pyNext_enum_end ok.hand en h.2.2.2.2 hl.isList e k
  self := fun j E s role Q hP hQ => hP.elim fun ax h => h.2.2.2.1.elim fun old en => wpAny_pyIter_enum en hQ
theorem four_of {a b c d : Addr} {P : Addr → Prop} (h : P a) (h' : P b) (h'' : P c) (h''' : P d) : ∀ x ∈ [a, b, c, d], P x := fun x hx => (List.mem_cons.mp hx).elim (fun e => e ▸ h) fun hx => (List.mem_cons.mp hx).elim (fun e => e ▸ h') (two_of h'' h''' x)
structure Zip5 (P : Addr → Prop) (z TI TO i1 i2 : Addr) : Prop where
  z : P z
  TI : P TI
  TO : P TO
  i1 : P i1
  i2 : P i2
noncomputable abbrev ZipAt (z TI TO i1 i2 : Addr) (role : Roles) : Prop := Zip5 (fun a => role a = .tmp) z TI TO i1 i2
theorem zip_wr {z TI TO i1 i2 : Addr} {role : Roles} (h : ZipAt z TI TO i1 i2 role) (o : Zip5 (fun a => ¬ Γ.Mine a) z TI TO i1 i2) : ∀ b ∈ [z, TO, i1, i2], Tmp Γ role b := four_of ⟨h.z, o.z⟩ ⟨h.TO, o.TO⟩ ⟨h.i1, o.i1⟩ ⟨h.i2, o.i2⟩
noncomputable abbrev zipP (z TI TO i1 i2 : Addr) (i k : Nat) (j : Nat) (role : Roles) (h : Heap) : Prop := ∃ l1 l2, role l1 = .obj i ∧ role l2 = .obj k ∧ ZipAt z TI TO i1 i2 role ∧
  IsZip h z TI TO .none ∧ IsPair h TI (.ref i1) (.ref i2) ∧ (∃ a b, IsPair h TO a b) ∧ h.IsListIter i1 l1 j ∧ h.IsListIter i2 l2 j
theorem turn_zip {A : Around} {elts : List Expr} {k0 : Nat} {tp : Pos} {z TI TO i1 i2 : Addr} {i k : Nat} (out : Zip5 (fun a => ¬ Γ.Mine a) z TI TO i1 i2) (mk : ∀ l1 l2 role, role l1 = .obj i → role l2 = .obj k → ZipAt z TI TO i1 i2 role → ZipApart z TI TO i1 i2 l1 l2) :
    TurnOk Γ false A (.Tuple elts k0 tp) z (.zip i k) (zipP z TI TO i1 i2 i k) [z, TO, i1, i2] where
  frame := fun hP g k => hP.elim fun l1 h => h.elim fun l2 h => have t := h.2.2.1
    have y := h.2.2.2
    ⟨l1, l2, g.at h.1 (by simp), g.at h.2.1 (by simp), ⟨g.at t.z (by simp), g.at t.TI (by simp), g.at t.TO (by simp), g.at t.i1 (by simp), g.at t.i2 (by simp)⟩, k z _ t.z out.z y.1, k TI _ t.TI out.TI y.2.1, y.2.2.1.imp fun a z => z.imp fun b z => k TO _ t.TO out.TO z,
      y.2.2.2.1.at fun o => k i1 o t.i1 out.i1, y.2.2.2.2.at fun o => k i2 o t.i2 out.i2⟩
  wrs := fun hP => hP.elim fun l1 h => h.elim fun l2 h => (zip_wr h.2.2.1 out)
  turn := fun j p Q E K D e0 ok hP hx => hP.elim fun l1 h => h.elim fun l2 h => atList.run hx ok.hs h.1 fun vs ws _ rs hl kk => atList.run kk ok.hs h.2.1 fun us xs _ rs' hl' kk => by
    have Z := mk l1 l2 p.role h.1 h.2.1 h.2.2.1
    have y := h.2.2.2
    have fin : vs[j]? = none ∨ us[j]? = none → ws.toArray[j]? = none ∨ xs.toArray[j]? = none → Turn Γ false (.Tuple elts k0 tp) z [z, TO, i1, i2] (zipP z TI TO i1 i2 i k) j p Q E K D := fun e e' => by
      have d : D := by
        unfold lookL at kk
        rw [List.getElem?_zipWith] at kk
        rcases e with e | e
        · rw [e] at kk; exact kk
        · rw [e] at kk; cases q : vs[j]? <;> rw [q] at kk <;> exact kk
      exact fun _ dn => y.2.2.1.elim fun a yo => yo.elim fun b yo => wpAny_pyNext_zip_end ok.hand Z y.1 y.2.1 yo y.2.2.2.1 y.2.2.2.2 hl.isList hl'.isList e' fun h' hk => dn h' _ d (.mk' ok _ (zip_wr h.2.2.1 out) fun b hb o =>
        hk b o (fun x => hb (by simp [x])) (fun x => hb (by simp [x])) (fun x => hb (by simp [x])) (fun x => hb (by simp [x])))
    refine look_at (j := j) (K := fun v => vs[j]? = some v) (D := vs[j]? = none) (by unfold lookL; cases vs[j]? <;> rfl) rs (fun v w ev hj hw rv _ => ?_) fun e e' _ => fin (.inl e) (.inl e')
    refine look_at (j := j) (K := fun v => us[j]? = some v) (D := us[j]? = none) (by unfold lookL; cases us[j]? <;> rfl) rs' (fun u w' eu hj' hw' ru _ => ?_) fun e e' _ => fin (.inr e) (.inr e')
    have kv : K (.tup [v, u]) := by unfold lookL at kk; rw [List.getElem?_zipWith, ev, eu] at kk; exact kk
    exact turn_pairs (WalksT.zip2 ok.hand z TI TO i1 i2 l1 l2 Z ws.toArray xs.toArray) ok (zip_wr h.2.2.1 out) ⟨y.1, y.2.1, y.2.2.1, y.2.2.2.1, y.2.2.2.2, hl.isList, hl'.isList⟩ (Nat.lt_min.2 ⟨hj, hj'⟩)
      (fun h' st => four_of ⟨_, st.1⟩ (st.2.2.1.elim fun _ z => z.elim fun _ z => ⟨_, z⟩) (st.2.2.2.1.elim fun o z => ⟨o, z.1⟩) (st.2.2.2.2.1.elim fun o z => ⟨o, z.1⟩))
      fun vals h' e st => e.elim fun x e => e.elim fun x' e => ⟨[v, u], [x, x'], kv, e.2.2, .cons (Option.some.inj (hw.symm.trans e.1) ▸ rv) (.cons (Option.some.inj (hw'.symm.trans e.2.1) ▸ ru) .nil), l1, l2, h.1, h.2.1, h.2.2.1, st.1, st.2.1, st.2.2.1, st.2.2.2.1, st.2.2.2.2.1⟩
  self := fun j E s role Q hP hQ => hP.elim fun l1 h => h.elim fun l2 h => wpAny_pyIter_zip h.2.2.2.1 hQ
end
open PySem PySem.W PySem.Calls PyProof.Rows
section
variable {Γ : FC} {p : Pt}
theorem Ste.none {q : Nx} (st : Ste Γ p q) {b : Addr} (h : q.h.objs.size ≤ b) : p.role b = .none := back_none st.X.grow (fresh_none st.ok.hs h)
theorem I_val {b : Bool} {target e : Expr} {x : EX} (ht : b = true → ∀ it v, letOwnedTupleGo target it v = pure ()) (h1 : SoundE Γ e x) : SoundI Γ true target e (iVal b x) :=
  ⟨fun p Q E K ok hx h => by
    refine h1.run p _ E _ ok hx fun v q w kk st r => ?_
    have t0 : tmps q.h.objs.size 1 q.role q.h.objs.size = .tmp := tmps_in (d := 0) Nat.one_pos
    have wr : ∀ b ∈ [q.h.objs.size], p.role b = .none := one_of (st.none (Nat.le_refl _))
    have gr : ∀ {o : Obj}, o.isFreed = false → Ste Γ p ⟨q.h.push o, q.t, tmps q.h.objs.size 1 q.role, q.H⟩ := fun ho => st.trans (st.ok.push1 _ ho q.t)
    have nm : ∀ {Γ' : FC}, (∀ b, Γ'.Mine b → Γ.Mine b ∨ tmps q.h.objs.size 1 q.role b = .none) → ¬ Γ'.Mine q.h.objs.size := fun hm => mine_new st.ok (Nat.le_refl _) (t0) hm
    have up : ∀ {a r}, q.role a = r → r ≠ .none → tmps q.h.objs.size 1 q.role a = r := fun e n => (st.ok.push1 { cls := .none, data := .seq #[] } rfl q.t).X.grow.at e n
    cases v with
    | ref i =>
      exact r.oRef fun a ha => atList.run kk st.ok.hs ha fun vs ws _ rs hl kk => wpAny_pyIter_list hl.isList
        (h _ _ ⟨_, q.t, _, q.H⟩ _ [q.h.objs.size] kk (gr rfl) wr (fun Γ' hg hm => turn_list (nm hm)) ⟨a, up ha (by simp), t0, _, Heap.get?_push_size _ rfl, rfl, rfl⟩)
    | tup vs =>
      exact r.oTup fun a ws ha => wpAny_pyIter_tuple (st.ok.hs.tup a vs ws ha).1
        (h _ _ ⟨_, q.t, _, q.H⟩ _ [q.h.objs.size] kk (gr rfl) wr (fun Γ' hg hm => turn_tuple (nm hm)) ⟨up ha (by simp), t0, _, Heap.get?_push_size _ rfl, rfl, rfl⟩)
    | str cs =>
      refine r.oStr fun t => ?_
      have hv : ∀ (j : Nat) (v' : Value) (role : Roles), j < cs.length → SignAt ⟨cs.toArray⟩ j v' → ∃ v, (cs.map fun c => V.str [c])[j]? = some v ∧ RV role v v' := fun j v' role _ s => s.elim fun c s => s.elim fun u s =>
        ⟨.str [c], by rw [List.getElem?_map, ← List.getElem?_toArray, s.1]; rfl, s.2 ▸ .str⟩
      cases hac : (⟨cs.toArray⟩ : Str).cps.all (· < 128) with
      | true =>
        exact wpAny_pyIter_ascii hac (h _ _ ⟨_, q.t, _, q.H⟩ _ [q.h.objs.size] kk.2 (gr rfl) wr (fun Γ' hg hm => turn_items (Walks.strAscii ok.hand q.h.objs.size ⟨cs.toArray⟩ t) (List.length_map ..) (nm hm) (ht kk.1) (fun j h st => st.elim fun o z => ⟨o, z.1⟩) hv)
          ⟨t0, ⟨_, Heap.get?_push_size _ rfl, rfl, rfl⟩, Nat.zero_le _⟩)
      | false =>
        exact wpAny_pyIter_wide hac (h _ _ ⟨_, q.t, _, q.H⟩ _ [q.h.objs.size] kk.2 (gr rfl) wr (fun Γ' hg hm => turn_items (Walks.strWide ok.hand q.h.objs.size ⟨cs.toArray⟩ t) (List.length_map ..) (nm hm) (ht kk.1) (fun j h st => st.elim fun o z => ⟨o, z.1⟩) hv)
          ⟨t0, ⟨_, Heap.get?_push_size _ rfl, rfl, rfl⟩, Nat.zero_le _⟩)
    | _ => exact kk.elim⟩
theorem I_enum {x : Str} {e : Expr} {pp pos tp : Pos} {elts : List Expr} {k0 : Nat} {y : EX} (hO : FOk Γ) (e0 : nsIn Γ.g.K mainGlobals x = some none)
    (h1 : SoundE Γ e y)
    (hc : ∀ env, eval (.Call (.Name x pp) [e] [] pos) env = (do callWith pos (← eval (.Name x pp) env) [] (backTo pos (starEach [e] env)) (backToKw pos (keywordEach [] env))) := by exact fun _ => rfl)
    (he : ∀ env, starEach [e] env = (false, eval e env) :: starEach [] env := by exact fun _ => rfl) (hv : bootBuiltins x = some (.type "enumerate") := by rfl) (hn : x ≠ "__name__" := by decide) (hx : Γ.env.kindOf x = some .globalImplicit := by kernel_rfl) (hd : (x == ("__debug__" : Str)) = false := by kernel_rfl) :
    SoundI Γ false (.Tuple elts k0 tp) (.Call (.Name x pp) [e] [] pos) (iEnum y) :=
  ⟨fun p Q E K ok hx' h => Call_ (built_at hO ok e0 hv hn hx hd (PyProof.Rows.callWith_type1 (args_cons (h1.run p _ E _ ok hx' fun v q w kk st r => args_nil (kk.run r fun i a ha kk => atList.run kk st.ok.hs ha fun vs ws _ rs hl kk =>
    call_enumerate_list hl.isList fun h' hen hli hsz hk => wpAny_pyIter_enum hen (by
      have s2 := st.ok.tmps 2 hk (fun d hd => by
        rcases Nat.lt_succ_iff_lt_or_eq.1 hd with e | e
        · rw [Nat.lt_one_iff.1 e]; exact hli.elim fun o z => ⟨o, z.1⟩
        · rw [e]; exact ⟨_, hen⟩) q.t
      have t0 : tmps q.h.objs.size 2 q.role (q.h.objs.size + 0) = .tmp := tmps_in (by decide)
      have t1 : tmps q.h.objs.size 2 q.role (q.h.objs.size + 1) = .tmp := tmps_in (by decide)
      exact h _ _ ⟨h', q.t, _, q.H⟩ _ [q.h.objs.size + 1, q.h.objs.size] kk (st.trans s2) (two_of (st.none (Nat.le_succ _)) (st.none (Nat.le_refl _)))
        (fun Γ' hg hm => turn_enum (it := q.h.objs.size) (mine_new st.ok (Nat.le_succ _) t1 hm) (mine_new st.ok (Nat.le_refl _) t0 hm) (Nat.succ_ne_self _)) ⟨a, s2.X.grow.at ha (by simp), t1, t0, ⟨_, hen⟩, hli⟩))) (he _)) (he _))) (hc _)⟩
theorem add_ne {n i j : Nat} (h : i ≠ j) : n + i ≠ n + j := fun e => h (Nat.add_left_cancel e)
theorem five {P : Nat → Prop} (h0 : P 0) (h1 : P 1) (h2 : P 2) (h3 : P 3) (h4 : P 4) : ∀ d, d < 5 → P d
  | 0, _ => h0 | 1, _ => h1 | 2, _ => h2 | 3, _ => h3 | 4, _ => h4
theorem I_zip {x : Str} {e e' : Expr} {pp pos tp : Pos} {elts : List Expr} {k0 : Nat} {y y' : EX} (hO : FOk Γ) (e0 : nsIn Γ.g.K mainGlobals x = some none)
    (h1 : SoundE Γ e y) (h1' : SoundE Γ e' y')
    (hc : ∀ env, eval (.Call (.Name x pp) [e, e'] [] pos) env = (do callWith pos (← eval (.Name x pp) env) [] (backTo pos (starEach [e, e'] env)) (backToKw pos (keywordEach [] env))) := by exact fun _ => rfl)
    (he : ∀ env, starEach [e, e'] env = (false, eval e env) :: starEach [e'] env := by exact fun _ => rfl) (he' : ∀ env, starEach [e'] env = (false, eval e' env) :: starEach [] env := by exact fun _ => rfl) (hp : ∀ env, (backTo pos (starEach [e'] env)).any (·.1) = false := by exact fun _ => rfl) (hv : bootBuiltins x = some (.type "zip") := by rfl) (hn : x ≠ "__name__" := by decide) (hx : Γ.env.kindOf x = some .globalImplicit := by kernel_rfl) (hd : (x == ("__debug__" : Str)) = false := by kernel_rfl) :
    SoundI Γ false (.Tuple elts k0 tp) (.Call (.Name x pp) [e, e'] [] pos) (iZip y y') :=
  ⟨fun p Q E K ok hx' h => Call_ (built_at hO ok e0 hv hn hx hd (PyProof.Rows.callWith_type1 (args_cons (h1.run p _ E _ ok hx' fun v q₀ w kk st₀ r₀ => args_cons (h1'.run (p.to q₀) _ E _ st₀.ok kk fun u q w' kk st₁ r => args_nil
    (kk.run (r₀.mono st₁.X.grow) fun i a ha kk => kk.run r fun k b hb kk => atList.run kk st₁.ok.hs ha fun vs ws _ rs hl kk => atList.run kk st₁.ok.hs hb fun us xs _ rs' hl' kk =>
    call_zip_2 hl.isList hl'.isList fun h' hz hTI hTO hi1 hi2 hsz hk => wpAny_pyIter_zip hz (by
      have st := st₀.trans st₁
      have s5 := st₁.ok.tmps 5 hk (five (hi1.elim fun o z => ⟨o, z.1⟩) (hi2.elim fun o z => ⟨o, z.1⟩) ⟨_, hTI⟩ ⟨_, hTO⟩ ⟨_, hz⟩) q.t
      have t : ∀ d, d < 5 → tmps q.h.objs.size 5 q.role (q.h.objs.size + d) = .tmp := fun d hd => tmps_in hd
      have nn : ∀ d, p.role (q.h.objs.size + d) = .none := fun d => st.none (Nat.le_add_right _ _)
      exact h _ _ ⟨h', q.t, _, q.H⟩ _ [q.h.objs.size + 4, q.h.objs.size + 3, q.h.objs.size + 0, q.h.objs.size + 1] kk.2 (st.trans s5) (four_of (nn 4) (nn 3) (nn 0) (nn 1))
        (fun Γ' hg hm => have o : ∀ d, d < 5 → ¬ Γ'.Mine (q.h.objs.size + d) := fun d hd => mine_new st₁.ok (Nat.le_add_right _ _) (t d hd) hm
          turn_zip (TI := q.h.objs.size + 2) ⟨o 4 (by decide), o 2 (by decide), o 3 (by decide), o 0 (by decide), o 1 (by decide)⟩ fun l1 l2 r e1 e2 z => ⟨add_ne (j := 4) (by decide), add_ne (j := 4) (by decide), add_ne (j := 4) (by decide), add_ne (j := 4) (by decide), add_ne (j := 3) (by decide), add_ne (j := 0) (by decide), add_ne (j := 1) (by decide), add_ne (j := 0) (by decide), add_ne (j := 1) (by decide), add_ne (j := 1) (by decide),
          role_ne e1 z.z (by simp), role_ne e1 z.TO (by simp), role_ne e1 z.i1 (by simp), role_ne e1 z.i2 (by simp), role_ne e2 z.z (by simp), role_ne e2 z.TO (by simp), role_ne e2 z.i1 (by simp), role_ne e2 z.i2 (by simp)⟩)
        ⟨a, b, s5.X.grow.at ha (by simp), s5.X.grow.at hb (by simp), ⟨t 4 (by decide), t 2 (by decide), t 3 (by decide), t 0 (by decide), t 1 (by decide)⟩, hz, hTI, ⟨_, _, hTO⟩, hi1, hi2⟩))) (he' _)) (he _)) (he _) (hp _))) (hc _)⟩
theorem I_range {x : Str} {target e : Expr} {pp pos : Pos} {y : EX} (ht : ∀ it v, letOwnedTupleGo target it v = pure ()) (hO : FOk Γ) (e0 : nsIn Γ.g.K mainGlobals x = some none)
    (h1 : SoundE Γ e y)
    (hc : ∀ env, eval (.Call (.Name x pp) [e] [] pos) env = (do callWith pos (← eval (.Name x pp) env) [] (backTo pos (starEach [e] env)) (backToKw pos (keywordEach [] env))) := by exact fun _ => rfl)
    (he : ∀ env, starEach [e] env = (false, eval e env) :: starEach [] env := by exact fun _ => rfl) (hv : bootBuiltins x = some (.type "range") := by rfl) (hn : x ≠ "__name__" := by decide) (hx : Γ.env.kindOf x = some .globalImplicit := by kernel_rfl) (hd : (x == ("__debug__" : Str)) = false := by kernel_rfl) :
    SoundI Γ true target (.Call (.Name x pp) [e] [] pos) (iRange y) :=
  ⟨fun p Q E K ok hx' h => Call_ (built_at hO ok e0 hv hn hx hd (PyProof.Rows.callWith_type1 (args_cons (h1.run p _ E _ ok hx' fun v q w kk st r => args_nil (kk.run r fun k t kk => call_range_1
    (wpAny_pyIter_range (Heap.get?_push_size _ rfl) (small_one (by decide) (by decide) (by have := kk.1; omega) (by have := kk.1; omega)) (by
      have s1 := st.ok.ext0 (h' := q.h.push { cls := .type "range", data := .fields #[.int 0 q.t, .int k t, .int 1 (q.t + 1)] }) (fun a o e => Heap.get?_push_of_some _ e) (q.t + 1 + 1)
      have s2 := s1.ok.push1 { cls := .type "range_iterator", data := .fields #[rawInt 0, rawInt (Builtin.Range.rangeSize 0 k 1), rawInt 1] } rfl (q.t + 1 + 1)
      have t0 : tmps (q.h.push { cls := .type "range", data := .fields #[.int 0 q.t, .int k t, .int 1 (q.t + 1)] }).objs.size 1 q.role (q.h.push { cls := .type "range", data := .fields #[.int 0 q.t, .int k t, .int 1 (q.t + 1)] }).objs.size = .tmp := tmps_in (d := 0) Nat.one_pos
      exact h _ _ ⟨_, q.t + 1 + 1, _, q.H⟩ _ [_] kk.2 ((st.trans s1).trans s2) (one_of ((st.trans s1).none (Nat.le_refl _))) (fun Γ' hg hm => turn_items (Walks.range ok.hand _ 0 1 k.toNat) (by rw [List.length_map, List.length_range]) (mine_new s1.ok (Nat.le_refl _) t0 hm) ht (fun j h st => ⟨_, st⟩) fun j v' role hj e => e.elim fun u e =>
        ⟨.int j, by rw [List.getElem?_map, List.getElem?_range hj]; rfl, by rw [e, Int.zero_add, Int.mul_one]; exact .int⟩)
        ⟨t0, by rw [show Builtin.Range.rangeSize 0 k 1 = ((k.toNat : Nat) : Int) - ((0 : Nat) : Int) by rw [rangeSize_one]; split <;> omega]; exact Heap.get?_push_size _ rfl, Nat.zero_le _⟩)))) (he _)) (he _))) (hc _)⟩
end
open PySem PySem.W PySem.Calls PyProof.Rows
noncomputable def compTurns (src : Src) (bind : Bnd) (test : TX) (elt : EX) (ρ : Rho) (K : KL) : Nat → Nat → Hp → List V → Prop
  | 0, _, _, _ => False
  | f + 1, j, H, acc => src.get H (lookL j (fun v => bind v ρ fun ρ₁ => test ρ₁ H fun b H₁ =>
      cnd (elt ρ₁ H₁ fun u H₂ => acc.length ≤ lenMax ∧ compTurns src bind test elt ρ K f (j + 1) H₂ (acc ++ [u])) (compTurns src bind test elt ρ K f (j + 1) H₁ acc) b) (K acc H))
structure runComp (nc : Nat) (it : IX) (bind : Bnd) (test : TX) (elt : EX) (ρ : Rho) (H : Hp) (K : KL) : Prop where
  run : it ρ H fun src H₁ => ∃ f, compTurns src bind test elt (List.replicate nc none ++ ρ) K f 0 H₁ []
noncomputable def eComp (nc : Nat) (it : IX) (bind : Bnd) (test : TX) (elt : EX) : EX := fun ρ H K => runComp nc it bind test elt ρ H fun vs H₁ => newAt H₁ (.list vs) K
noncomputable def FC.inComp (Γ : FC) (sc : Scope) (C : Addr) (cl : List (Str × Addr)) (names : List Str) : FC :=
  { Γ with comp := some (sc, C, cl), slots := names.map Slot.cmp ++ Γ.slots }
section
variable {Γ : FC} {p : Pt}
theorem SoundI.run' {bv : Bool} {target e : Expr} {x : IX} {env : Env} (h1 : SoundI Γ bv target e x) (he : Γ.env = env) (p : Pt) (Q E : QV) (K : Src → Hp → Prop) (ok : Ok Γ p) (hx : x p.ρ p.H K)
    (h : ∀ src I q P wr, K src q.H → Ste Γ p q → (∀ b ∈ wr, p.role b = .none) → (∀ Γ' : FC, Γ'.g = Γ.g → (∀ b, Γ'.Mine b → Γ.Mine b ∨ q.role b = .none) → TurnOk Γ' bv p.A target I src P wr) → P 0 q.role q.h → Q (.ref I) (p.to q).s) :
    wpAny Γ.M p.A (eval e env) (fun v s₁ => wpAny Γ.M p.A (pyIter v) Q E s₁) E p.s := by subst he; exact h1.run p Q E K ok hx h
theorem Ok.out (ok : Ok Γ p) {b : Addr} (h : p.s.heap.objs.size ≤ b) : ¬ Γ.Mine b := fun q => by have := ok.mine q; rw [fresh_none ok.hs h] at this; cases this
theorem Ok.steO {q : Nx} {own : List Addr} (ok : Ok Γ p) (F : Fr Γ.h₀ Γ.L q.h p.m) (ow : Own Γ.g Γ.h₀ Γ.L q.role) (hs : HSt Γ.g q.role q.H q.h) (X : Ext own p.role p.s.heap q.role q.h) (hd : ∀ a ∈ own, ¬ Γ.Mine a) : Ok Γ (p.to q) :=
  ⟨⟨ok.fr, ok.dep, ok.un, ok.hand, F, ow, hs⟩,
    fun i v e => (ok.loc i v e).elim fun sl y => ⟨sl, y.1, y.2.kept X.grow.most fun x c hc => have hm := List.mem_of_getElem? (hc ▸ y.1)
      fun o => X.tmp c o (ok.cel x c hm).1 fun z => hd c z (.inl (cells_mem.mpr ⟨x, hm⟩))⟩,
    fun y c hc => ⟨X.grow.at (ok.cel y c hc).1 (by simp), (ok.cel y c hc).2.elim fun o z => z.elim fun v z => ⟨o, v, X.tmp c o (ok.cel y c hc).1 (fun z => hd c z (.inl (cells_mem.mpr ⟨y, hc⟩))) z.1, z.2⟩⟩,
    fun sc C cl' hc => ⟨X.grow.at (ok.cmp sc C cl' hc).1 (by simp), (ok.cmp sc C cl' hc).2.at' fun o => X.tmp C o (ok.cmp sc C cl' hc).1 fun z => hd C z (.inr ⟨sc, cl', hc⟩)⟩⟩
noncomputable def Pt.inC (p : Pt) (mc : Str → Option Value) (n : Nat) : Pt := ⟨p.A, p.s, p.role, p.m, mc, List.replicate n none ++ p.ρ, p.H⟩
variable {sc : Scope} {C : Addr} {cl : List (Str × Addr)} {names : List Str}
theorem Ok.enter {mc : Str → Option Value} (ok : Ok Γ p) (hc : Γ.comp = none) (hO : FOk Γ) (hC : p.role C = .tmp) (hn : p.s.heap.Ns C mc) : Ok (Γ.inComp sc C cl names) (p.inC mc names.length) :=
  ⟨⟨ok.fr, ok.dep, ok.un, ok.hand, ok.F, ok.own, ok.hs⟩,
    fun i v q => by
      have q : (List.replicate names.length none ++ p.ρ)[i]? = some (some v) := q
      by_cases hi : i < names.length
      · rw [List.getElem?_append_left (by simpa using hi), List.getElem?_replicate, if_pos hi] at q; cases q
      · rw [List.getElem?_append_right (by simpa using hi), List.length_replicate] at q
        refine (ok.loc _ v q).elim fun sl y => ⟨sl, ?_, ?_⟩
        · show (names.map Slot.cmp ++ Γ.slots)[i]? = some sl
          rw [List.getElem?_append_right (by simpa using hi), List.length_map]; exact y.1
        · cases sl with
          | cmp z => exact absurd (List.mem_of_getElem? y.1) (hO.ncmp hc z)
          | _ => exact y.2,
    fun y c hq => (List.mem_append.mp hq).elim (fun z => (List.mem_map.mp z).elim fun _ z => nomatch z.2) (ok.cel y c),
    fun sc' C' cl' q => by cases q; exact ⟨hC, hn⟩⟩
theorem inComp_mine {b : Addr} (hc : Γ.comp = none) (h : (Γ.inComp sc C cl names).Mine b) : Γ.Mine b ∨ b = C := h.elim
  (fun h => (cells_mem.mp h).elim fun x hx => (List.mem_append.mp hx).elim (fun z => (List.mem_map.mp z).elim fun _ z => nomatch z.2) fun z => .inl (.inl (cells_mem.mpr ⟨x, z⟩)))
  fun h => h.elim fun sc h => h.elim fun cl h => by cases h; exact .inr rfl
theorem Nm_cmp {i : Nat} {x : Str} (hO : FOk Γ) (hs : Γ.slots[i]? = some (.cmp x)) (hc : Γ.comp = some (sc, C, cl)) (hx : Γ.env.kindOf x = some .local) : SoundNm Γ i x := ⟨fun p Q E v w ok rv h => by
  have rC := (ok.cmp sc C cl hc).1
  have he : Γ.env.locals = C := by unfold FC.env; rw [hc]; rfl
  refine wpAny_storeName_local hx (by rw [he]; exact (ok.cmp sc C cl hc).2) (fun h' hn hs' => ?_) (by rw [env_kind hO]; rfl)
  rw [he] at hn hs'
  have hC0 := ok.news (a := C) (by rw [rC]; simp) (by rw [rC]; simp)
  have k : ∀ a, a ≠ C → Same a p.s.heap h' := fun a ha o e => (hs'.2 a ha).trans e
  have ne : ∀ a r, p.role a = r → r ≠ .tmp → a ≠ C := fun a r e h2 q => h2 (by rw [← e, q, rC])
  have hsH : HSt Γ.g p.role p.H h' :=
    { obj := fun a j e => (ok.hs.obj a j e).elim fun ob y => ⟨ob, y.1, y.2.same (Grow.refl _).most (k a (ne a _ e (by simp))) fun d e' => k d (ne d _ e' (by simp))⟩
      inj := ok.hs.inj
      tup := fun a vs ws e => ⟨isTup_kept (k a (ne a _ e (by simp))) (ok.hs.tup a vs ws e).1, (ok.hs.tup a vs ws e).2⟩
      live := fun a ha => by
        by_cases q : a = C
        · exact q ▸ hn.elim fun o z => z.elim fun _ z => z.elim fun _ z => ⟨o, z.1⟩
        · exact (ok.hs.live a ha).elim fun ob e => ⟨ob, k a q ob e⟩
      stat := ok.hs.stat }
  have cne : ∀ y c, Slot.cel y c ∈ Γ.slots → c ≠ C := fun y c hc' q => hO.apart sc C cl hc (q ▸ cells_mem.mpr ⟨y, hc'⟩)
  exact h h' (p.s.toks + 1) p.m (fun y => if y = x then some w else p.mc y) ⟨⟨⟨ok.fr, ok.dep, ok.un, ok.hand, ⟨ok.F.ns.sameBut hs' (Ne.symm hC0.2), fun b ob e => k b (fun q => by rw [q, hC0.1] at e; cases e) ob (ok.F.keep b ob e), ok.F.above⟩, ok.own, hsH⟩,
    loc_set hs ok.loc ⟨w, if_pos rfl, rv⟩ fun j u sl' hj hsl r => by
      cases sl' with
      | loc y => exact r
      | cel y c => exact r.elim fun w' r => r.elim fun ob r => ⟨w', ob, k c (cne y c (List.mem_of_getElem? hsl)) ob r.1, r.2⟩
      | cmp y => exact r.elim fun w' r => ⟨w', (if_neg fun q => hj (key_unique hO.nd hsl hs (congrArg (Prod.mk 2) q))).trans r.1, r.2⟩,
    fun y c hc' => ⟨(ok.cel y c hc').1, (ok.cel y c hc').2.elim fun ob z => z.elim fun u z => ⟨ob, u, k c (cne y c hc') ob z.1, z.2⟩⟩,
    fun sc' C' cl'' hc' => by rw [hc] at hc'; cases hc'; exact ⟨rC, hn⟩⟩,
    ⟨.refl _, fun a ob _ hn e => k a (fun q => hn (by rw [q]; unfold FC.stores; rw [hc]; exact .head _)) ob e⟩, (fun q => by rw [hc] at q; cases q), fun _ => rfl⟩⟩
theorem codeAny_comp {prog : Program} {w : World} {A : Around} {elt target iter : Expr} {ifs : List Expr} {scope : Scope} {pos : Pos} {it acc : Value} {env : Env} {R : Result → Shared → Prop} (I : Nat → Shared → Prop)
    (turn : ∀ n s, I n s → wpAny (model prog w) A (pyNext it) (fun r s₁ => match r with
      | none => R (.ok .next) s₁
      | some v => wpAny (model prog w) A (letOwnedTupleGo target it v) (fun _ s₁' => wpAny (model prog w) A (assign target env v) (fun _ s₂ =>
          wpAny (model prog w) A (forIn ifs true fun c r => if r = true then do let ok ← isTrue c env (eval c env); pure (ForInStep.yield ok) else pure (ForInStep.yield r)) (fun ok s₃ =>
            if ok = true then wpAny (model prog w) A (eval elt env) (fun x s₄ =>
              wpAny (model prog w) A (call (.builtin "list.append") [acc, x]) (fun _ s₅ => ∃ m, m < n ∧ I m s₅) (notedBy (model prog w) A env fun e s' => R (.error e) s') s₄) (notedBy (model prog w) A env fun e s' => R (.error e) s') s₃
            else ∃ m, m < n ∧ I m s₃) (notedBy (model prog w) A env fun e s' => R (.error e) s') s₂) (notedBy (model prog w) A env fun e s' => R (.error e) s') s₁')
            (notedBy (model prog w) A env fun e s' => R (.error e) s') s₁) (notedBy (model prog w) A env fun e s' => R (.error e) s') s)
    (n : Nat) (s : Shared) (h : I n s) :
    codeAny (model prog w) A (.compLoop (.ListComp elt [⟨target, iter, ifs, 0⟩] scope pos) 0 it acc env) R s := by
  refine codeAny_loop rfl I (fun n s hI => ?_) n h
  show wpAny _ A ((compTurn (.ListComp elt [⟨target, iter, ifs, 0⟩] scope pos) 0 it acc env).onRaise (fun x => do noteFrame x env; theTreesLotGoes x)) _ _ s
  refine wpAny_noted ?_
  rw [compTurn_list]
  refine wpAny_bind (wpAny_standAt (wpAny_bind (wpAny_mono (turn n s hI) (fun r s₁ h₁ => ?_) fun _ _ h' => h')))
  cases r with
  | none => exact wpAny_pure h₁
  | some v =>
    refine wpAny_bind (wpAny_mono h₁ (fun _ s₁' h₁' => wpAny_bind (wpAny_mono h₁' (fun _ s₂ h₂ => wpAny_bind (wpAny_mono h₂ (fun ok s₃ h₃ => ?_) fun _ _ h' => h')) fun _ _ h' => h')) fun _ _ h' => h')
    cases ok with
    | false => exact wpAny_pure ⟨rfl, h₃⟩
    | true =>
      exact wpAny_bind (wpAny_bind (wpAny_mono h₃ (fun x s₄ h₄ => wpAny_bind (wpAny_mono h₄ (fun _ s₅ h₅ => wpAny_pure (wpAny_pure ⟨rfl, h₅⟩)) fun _ _ h' => h')) fun _ _ h' => h'))
structure SoundIfs (Γ : FC) (ifs : List Expr) (x : TX) : Prop where
  run : ∀ (p : Pt) (Q : Bool → Shared → Prop) (E : QV) (K : KB), Ok Γ p → x p.ρ p.H K → ThenT Γ p K Q →
    wpAny Γ.M p.A (forIn ifs true fun c r => if r = true then do let ok ← isTrue c Γ.env (eval c Γ.env); pure (ForInStep.yield ok) else pure (ForInStep.yield r)) Q E p.s
theorem Ifs_nil : SoundIfs Γ [] tTrue := ⟨fun p Q E K ok hx h => wpAny_tests_nil (h _ (p.tick p.s.toks) hx (ok.tick _))⟩
theorem Ifs_one {c : Expr} {x : TX} (h1 : SoundT Γ c x) : SoundIfs Γ [c] x := ⟨fun p Q E K ok hx h => wpAny_tests_one (h1.run p Q E K ok hx h)⟩
structure CompQ (Γ : FC) (p : Pt) (accA C : Addr) (acc : List V) (q : Nx) : Prop where
  ok : Ok Γ (p.to q)
  cT : q.role C = .tmp
  cN : ∃ mc, q.h.Ns C mc
  aT : q.role accA = .tmp
  lst : ∃ ws, q.h.PlainList accA ws.toArray ∧ RVs q.role acc ws
structure CompG (Γ : FC) (p : Pt) (accA C : Addr) : Prop where
  cM : ¬ Γ.Mine C
  aM : ¬ Γ.Mine accA
  ne : C ≠ accA
  c0 : p.role C = .none
  a0 : p.role accA = .none
theorem CompQ.step {accA C : Addr} {acc : List V} {q q' : Nx} {wr : List Addr} {h₄ : Heap} {t₄ : Nat} {mc : Str → Option Value} (S : CompQ Γ p accA C acc q) (G : CompG Γ p accA C) (ts : TStep Γ (p.to q) wr h₄ t₄) (hw : accA ∉ wr) (X : Ext [C] q.role h₄ q'.role q'.h)
    (F : Fr Γ.h₀ Γ.L q'.h p.m) (ow : Own Γ.g Γ.h₀ Γ.L q'.role) (hs : HSt Γ.g q'.role q'.H q'.h) (n : q'.h.Ns C mc) : CompQ Γ p accA C acc q' :=
  ⟨ts.ok.steO F ow hs X (one_of G.cM), X.grow.at S.cT (by simp), ⟨mc, n⟩, X.grow.at S.aT (by simp), S.lst.elim fun ws l => ⟨ws, l.1.at fun o e => X.tmp accA o S.aT (fun z => G.ne (List.mem_singleton.mp z).symm) (ts.same accA hw o e), l.2.mono X.grow⟩⟩
structure CompEnd (Γ : FC) (p : Pt) (accA C : Addr) (vs : List V) (q : Nx) : Prop where
  G : CompG Γ p accA C
  S : CompQ Γ p accA C vs q
  X : Ext [] p.role p.s.heap q.role q.h
theorem RVs.append {role : Roles} {vs us : List V} {xs : List Value} (h' : RVs role us xs) : ∀ {ws : List Value}, RVs role vs ws → RVs role (vs ++ us) (ws ++ xs) := by
  induction vs with
  | nil => exact fun h => h.oNil h'
  | cons v vs ih => exact fun h => h.oCons fun w ws a t => .cons a (ih t)
theorem comp_loop {bv : Bool} {elt target iter : Expr} {ifs : List Expr} {scope : Scope} {pos : Pos} {cl : List (Str × Addr)} {names : List Str} {bind : Bnd} {test : TX} {y : EX} {use : Option (Value → Sem Unit)} {accA C I : Addr} {src : Src} {wr : List Addr} {P : Nat → Roles → Heap → Prop}
    (hO : FOk Γ) (hc : Γ.comp = none)
    (h2 : ∀ C, FOk (Γ.inComp scope C cl names) → SoundTg (Γ.inComp scope C cl names) bv target bind)
    (h3 : ∀ C, FOk (Γ.inComp scope C cl names) → SoundIfs (Γ.inComp scope C cl names) ifs test)
    (h4 : ∀ C, FOk (Γ.inComp scope C cl names) → SoundE (Γ.inComp scope C cl names) elt y)
    (hkind : scope.kind = .function) (hnd : ((names.map Slot.cmp ++ Γ.slots).map Slot.key).Nodup)
    {Q E : QV} {K : KL} {q₃ : Nx} {f : Nat} (hwr : ∀ b ∈ wr, p.role b = .none) (hcw : C ∉ wr) (haw : accA ∉ wr) (G : CompG Γ p accA C) (S₀ : CompQ Γ p accA C [] q₃) (X₀ : Ext [] p.role p.s.heap q₃.role q₃.h)
    (hT : ∀ Γ' : FC, Γ'.g = Γ.g → (∀ b, Γ'.Mine b → Γ.Mine b ∨ b = C ∨ b = accA) → TurnOk Γ' bv p.A target I src P wr) (hP : P 0 q₃.role q₃.h) (hf : compTurns src bind test y (List.replicate names.length none ++ p.ρ) K f 0 q₃.H [])
    (hpost : ∀ vs q, K vs q.H → CompEnd Γ p accA C vs q → compPost Γ.M p.A E use Q (.ref accA) C (.ok .next) (p.to q).s) :
    codeAny Γ.M p.A (.compLoop (.ListComp elt [⟨target, iter, ifs, 0⟩] scope pos) 0 (.ref I) (.ref accA) (compEnvC scope cl C Γ.fenv)) (compPost Γ.M p.A E use Q (.ref accA) C) (p.to q₃).s := by
  have T := hT Γ rfl fun b q => .inl q
  have Tc := hT (Γ.inComp scope C cl names) rfl fun b q => (inComp_mine hc q).imp id .inl
  have Ta := hT (Γ.inComp scope accA cl names) rfl fun b q => (inComp_mine hc q).imp id .inr
  have hOc : FOk (Γ.inComp scope C cl names) := ⟨hO.B, hO.X, hO.T, hO.hk, (fun sc' C' cl' q => by cases q; exact hkind), hnd, hO.tabs, hO.inj, (fun q => nomatch q), fun sc' C' cl' q z => by
    cases q
    exact (cells_mem.mp z).elim fun x hx => (List.mem_append.mp hx).elim (fun z => (List.mem_map.mp z).elim fun _ z => nomatch z.2) fun z => G.cM (.inl (cells_mem.mpr ⟨x, z⟩))⟩
  refine codeAny_comp (fun k s₁ => ∃ j q acc, s₁ = (p.to q).s ∧ CompQ Γ p accA C acc q ∧ P j q.role q.h ∧ Grow q₃.role q.role ∧ Kp [C, accA] wr q₃.role q₃.h q.h ∧ compTurns src bind test y (List.replicate names.length none ++ p.ρ) K k j q.H acc) (fun k s₁ hJ => ?_) f _
    ⟨0, q₃, [], rfl, S₀, hP, .refl _, fun _ _ _ _ _ e => e, hf⟩
  obtain ⟨j, q, acc, rfl, S, Pj, gr, kp, hf⟩ := hJ
  cases k with
  | zero => exact hf.elim
  | succ k =>
    refine T.turn j (p.to q) _ _ _ _ rfl S.ok Pj hf (fun w s₁ go => go _ fun v h₄ t₄ kb ts P₄ Y₄ => S.cN.elim fun mc₁ nC => ?_) fun h₄ t₄ kn td => hpost acc ⟨h₄, t₄, drop wr q.role, q.H⟩ kn ⟨G, ?_, ?_⟩
    · refine (h2 C hOc).run (((p.to q).to ((p.to q).keep h₄ t₄)).inC mc₁ names.length) _ _ v w _ (ts.ok.enter hc hO S.cT (nC.at' (ts.same C hcw))) Y₄ kb fun h₅ t₅ m₅ mc₅ ρ₅ kb b => ?_
      obtain rfl := b.em (fun z => nomatch z)
      have P₅ := Tc.frame P₄ b.X.grow fun c o e nm => b.X.tmp c o e fun z => nm (stores_mine z)
      refine (h3 C hOc).run _ _ _ _ b.ok kb fun t q₆ kt st₆ => ?_
      have X₆ : Ext [C] q.role h₄ q₆.role q₆.h := Ext.trans (own := [C]) b.X (st₆.X.weak fun _ z => nomatch z)
      have P₆ := Tc.frame P₅ st₆.X.grow fun c o e _ => st₆.X.tmp c o e (by simp)
      have kp₆ := (kp.turn ts.same).step gr X₆ (one_of (.head _))
      cases t with
      | false => exact ⟨k, Nat.lt_succ_self _, j + 1, q₆, acc, rfl, S.step G ts haw X₆ st₆.ok.F st₆.ok.own st₆.ok.hs (st₆.ok.cmp scope C cl rfl).2, P₆, gr.trans X₆.grow, kp₆, kt⟩
      | true =>
        refine (h4 C hOc).run _ _ _ _ st₆.ok kt fun u q₇ x ku st₇ r₇ => ?_
        have X₇ : Ext [C] q.role h₄ q₇.role q₇.h := X₆.trans (st₇.X.weak fun _ z => nomatch z)
        have S₇ := S.step G ts haw X₇ st₇.ok.F st₇.ok.own st₇.ok.hs (st₇.ok.cmp scope C cl rfl).2
        have P₇ := Tc.frame P₆ st₇.X.grow fun c o e _ => st₇.X.tmp c o e (by simp)
        refine S₇.lst.elim fun ws l => wpAny_list_append_plain l.1 (fun h₈ l₈ hs₈ => ?_) (by rw [List.size_toArray, ← l.2.length]; exact lenMax_le ku.1)
        have k₈ : ∀ b, b ∉ [accA] → Same b q₇.h h₈ := fun b hb o e => (hs₈.2 b fun z => hb (z ▸ .head _)).trans e
        have ts₈ := TStep.mk' S₇.ok q₇.t (one_of ⟨S₇.aT, G.aM⟩) k₈ (one_of (l₈.elim fun n z => ⟨_, z⟩))
        exact ⟨k, Nat.lt_succ_self _, j + 1, ⟨h₈, q₇.t, q₇.role, q₇.H⟩, acc ++ [u], rfl, ⟨ts₈.ok, S₇.cT, S₇.cN.imp fun _ n => n.at' (k₈ C fun z => G.ne (List.mem_singleton.mp z)), S₇.aT, ws ++ [x], by rw [List.push_toArray] at l₈; exact l₈, RVs.append (.cons r₇ .nil) l.2⟩,
          Ta.frame P₇ (.refl _) fun c o e nm => k₈ c (fun z => nm (.inr ⟨scope, cl, congrArg (fun z => some (scope, z, cl)) (List.mem_singleton.mp z).symm⟩)) o, gr.trans X₇.grow,
          fun a o e n1 n2 eo => k₈ a (fun z => n1 (.tail _ z)) o ((kp.turn ts.same).step gr X₇ (one_of (.head _)) a o e n1 n2 eo), ku.2⟩
    · exact ⟨td.ok, (drop_out hcw).trans S.cT, S.cN.imp fun _ n => n.at' (td.same C hcw), (drop_out haw).trans S.aT, S.lst.imp fun ws l => ⟨l.1.at (td.same accA haw), l.2.most fun a h1 h2 => drop_out fun z => h2 (T.wrs Pj a z).tmp⟩⟩
    · have ne : ∀ a, p.role a ≠ .none → a ∉ [C, accA] ∧ a ∉ wr := fun a ha => ⟨fun z => (List.mem_cons.mp z).elim (fun z => ha (z ▸ G.c0)) fun z => ha (List.mem_singleton.mp z ▸ G.a0), fun z => ha (hwr a z)⟩
      exact ⟨fun a ha => (drop_out (ne a ha).2).trans ((X₀.grow.trans gr) a ha), fun a o e _ eo => have n := ne a (by rw [e]; simp)
        td.same a n.2 o (kp a o (X₀.grow.at e (by simp)) n.1 n.2 (X₀.tmp a o e (by simp) eo))⟩
end
open PySem PySem.W PySem.Calls PyProof.Rows
section
variable {Γ : FC} {p : Pt}
theorem comp_core {bv : Bool} {elt target iter : Expr} {ifs : List Expr} {scope : Scope} {pos ppos : Pos} {cl : List (Str × Addr)} {names : List Str} {it : IX} {bind : Bnd} {test : TX} {y : EX} {use : Option (Value → Sem Unit)}
    (hO : FOk Γ) (hc : Γ.comp = none) (h1 : SoundI Γ bv target iter it)
    (h2 : ∀ C, FOk (Γ.inComp scope C cl names) → SoundTg (Γ.inComp scope C cl names) bv target bind)
    (h3 : ∀ C, FOk (Γ.inComp scope C cl names) → SoundIfs (Γ.inComp scope C cl names) ifs test)
    (h4 : ∀ C, FOk (Γ.inComp scope C cl names) → SoundE (Γ.inComp scope C cl names) elt y)
    (hs : ∀ x, foldedSetIterable iter Γ.fenv x = pure x) (hclos : closureFor scope Γ.fenv = pure cl) (hkind : scope.kind = .function)
    (hnames : ∀ x ∈ scope.names, x.2 = .local → scope.names.lookup x.1 = some .local) (hcell : ∀ x ∈ scope.names, x.2 ≠ .cell)
    (hnd : ((names.map Slot.cmp ++ Γ.slots).map Slot.key).Nodup)
    {Q E : QV} {K : KL} (ok : Ok Γ p) (hx : runComp names.length it bind test y p.ρ p.H K)
    (hpost : ∀ vs accA C q, K vs q.H → CompEnd Γ p accA C vs q → compPost Γ.M p.A E use Q (.ref accA) C (.ok .next) (p.to q).s) :
    wpAny Γ.M p.A (comprehension (.ListComp elt [⟨target, iter, ifs, 0⟩] scope pos) scope Γ.fenv ppos (newList []) false (eval iter Γ.fenv) use) Q E p.s := by
  refine wpAny_comprehension_free rfl hs hclos hkind hnames (h1.run' (env_of hc) p _ E _ ok hx.run fun src I q₀ P wr hf st hwr hT hP => hf.elim fun f hf => ?_)
  refine wpAny_newObj_type (wpAny_newFunctionEnv hcell (by intro x hx; cases hx) (fun h₂ hns hsb => ?_) hkind) (Nat.zero_le _)
  have hsz : (q₀.h.push (listOf [].toArray 0)).objs.size = q₀.h.objs.size + 1 := Heap.size_push ..
  have he : ∀ a o, (q₀.h.push (listOf [].toArray 0)).get? a = some o → h₂.get? a = some o := fun a o e => (hsb.2 a (Nat.ne_of_lt (Heap.lt_size e))).trans (Heap.get?_push_of_some _ e)
  have gA : h₂.get? q₀.h.objs.size = some (listOf [].toArray 0) := he _ _ (Heap.get?_push_size _ rfl)
  have s2 := st.ok.tmps 2 (h' := h₂) (fun a o e => he a o (Heap.get?_push_of_some _ e)) (fun d hd => by
    rcases Nat.lt_succ_iff_lt_or_eq.1 hd with e | e
    · rw [Nat.lt_one_iff.1 e]; exact ⟨_, gA⟩
    · rw [e]; exact hsz ▸ hns.elim fun o z => z.elim fun _ z => z.elim fun _ z => ⟨o, z.1⟩) q₀.t
  have hP₂ : P 0 (tmps q₀.h.objs.size 2 q₀.role) h₂ := (hT Γ rfl fun b q => .inl q).frame hP s2.X.grow fun b o e _ => s2.X.tmp b o e (by simp)
  have tT : ∀ b ∈ wr, q₀.role b = .tmp := fun b hb => ((hT Γ rfl fun b q => .inl q).wrs hP b hb).tmp
  have new : ∀ b, q₀.h.objs.size ≤ b → q₀.role b = .none := fun b h => fresh_none st.ok.hs h
  have leC : q₀.h.objs.size ≤ (q₀.h.push (listOf [].toArray 0)).objs.size := hsz ▸ Nat.le_succ _
  have nw : ∀ b, q₀.h.objs.size ≤ b → b ∉ wr := fun b h z => by have := tT b z; rw [new b h] at this; cases this
  have loop := comp_loop (use := use) (iter := iter) (pos := pos) (bv := bv) (target := target) (src := src) (P := P) (I := I) (E := E) (Q := Q) (accA := q₀.h.objs.size) (C := (q₀.h.push (listOf [].toArray 0)).objs.size) (q₃ := ⟨h₂, q₀.t, _, q₀.H⟩) hO hc h2 h3 h4 hkind hnd hwr (nw _ leC) (nw _ (Nat.le_refl _))
    ⟨st.ok.out leC, st.ok.out (Nat.le_refl _), by rw [hsz]; exact Nat.succ_ne_self _, st.none leC, st.none (Nat.le_refl _)⟩
    ⟨(st.trans s2).ok, by rw [hsz]; exact tmps_in (d := 1) (by decide), ⟨_, hns⟩, tmps_in (d := 0) (by decide), [], ⟨0, gA⟩, .nil⟩ (st.trans s2).X
    (fun Γ' hg hm => hT Γ' hg fun b q => (hm b q).imp id fun z => z.elim (fun z => z ▸ new _ leC) fun z => z ▸ new _ (Nat.le_refl _)) hP₂ hf fun vs q => hpost vs _ _ q
  exact codeAny_compStart_list loop ((hT Γ rfl fun b q => .inl q).self 0 _ _ _ _ hP₂ loop)
theorem CompEnd.made {accA C : Addr} {vs : List V} {q : Nx} {wr : List Addr} {h' : Heap} {t : Nat} (x : CompEnd Γ p accA C vs q) (ha : accA ∈ wr) (hw : ∀ b ∈ wr, b = C ∨ b = accA) (hk : ∀ b, b ∉ wr → Same b q.h h') (hA : Same accA q.h h') :
    Ste Γ p ⟨h', t, upd (drop wr q.role) accA (.obj q.H.length), q.H ++ [.list vs]⟩ := by
  have T : ∀ b ∈ wr, Tmp Γ q.role b := fun b hb => (hw b hb).elim (fun e => e ▸ ⟨x.S.cT, x.G.cM⟩) fun e => e ▸ ⟨x.S.aT, x.G.aM⟩
  have ok := x.S.ok.tmp t T hk (role' := drop wr q.role) (fun _ h => drop_out h) fun a ha => .inl (drop_in ha)
  have fr : drop wr q.role accA = .none := drop_in ha
  refine x.S.lst.elim fun ws l => l.1.elim fun nn ho => ⟨(ok.ste (q := ⟨h', t, upd (drop wr q.role) accA (.obj q.H.length), q.H ++ [HO.list vs]⟩) ⟨ok.F, ok.own.upd (x.S.ok.news (by rw [show (p.to q).role accA = _ from x.S.aT]; simp) (by rw [show (p.to q).role accA = _ from x.S.aT]; simp)),
    ok.hs.alloc (o := .list vs) fr (fun _ _ _ q => q) (hA _ ho) ⟨ws, (l.2.most fun a h1 h2 => drop_out fun z => h2 (T a z).tmp).mono (.upd fr), nn, hA _ ho⟩, .upd fr (fun _ _ _ q => q)⟩).ok, ?_⟩
  have ne : ∀ a, p.role a ≠ .none → a ∉ wr := fun a hr z => (hw a z).elim (fun e => hr ((congrArg p.role e).trans x.G.c0)) fun e => hr ((congrArg p.role e).trans x.G.a0)
  exact ⟨fun a hr => (upd_ne fun e => hr ((congrArg p.role e).trans x.G.a0)).trans ((drop_out (ne a hr)).trans (x.X.grow a hr)), fun a o e _ eo => hk a (ne a (by rw [e]; simp)) o (x.X.tmp a o e (by simp) eo)⟩
theorem E_comp {bv : Bool} {elt target iter : Expr} {ifs : List Expr} {scope : Scope} {pos : Pos} {cl : List (Str × Addr)} {names : List Str} {it : IX} {bind : Bnd} {test : TX} {y : EX}
    (hO : FOk Γ) (hc : Γ.comp = none) (h1 : SoundI Γ bv target iter it)
    (h2 : ∀ C, FOk (Γ.inComp scope C cl names) → SoundTg (Γ.inComp scope C cl names) bv target bind)
    (h3 : ∀ C, FOk (Γ.inComp scope C cl names) → SoundIfs (Γ.inComp scope C cl names) ifs test)
    (h4 : ∀ C, FOk (Γ.inComp scope C cl names) → SoundE (Γ.inComp scope C cl names) elt y)
    (hs : ∀ env x, foldedSetIterable iter env x = pure x) (hclos : closureFor scope Γ.fenv = pure cl) (hkind : scope.kind = .function)
    (hnames : ∀ x ∈ scope.names, x.2 = .local → scope.names.lookup x.1 = some .local) (hcell : ∀ x ∈ scope.names, x.2 ≠ .cell)
    (hnd : ((names.map Slot.cmp ++ Γ.slots).map Slot.key).Nodup) :
    SoundE Γ (.ListComp elt [⟨target, iter, ifs, 0⟩] scope pos) (eComp names.length it bind test y) := ⟨fun p Q E K ok hx h => by
  rw [env_of hc, eval_ListComp]
  exact comp_core (use := none) hO hc h1 h2 h3 h4 (hs _) hclos hkind hnames hcell hnd ok hx fun vs accA C q k x => x.S.cN.elim fun mc hn => ⟨mc, hn, fun h' hsb =>
    h _ ⟨h', q.t, _, _⟩ (.ref accA) k.run (x.made (.tail _ (.head _)) (fun b hb => (List.mem_cons.mp hb).imp id List.mem_singleton.mp) (fun b hb o e => (hsb.2 b fun z => hb (z ▸ .head _)).trans e) fun o e => (hsb.2 accA x.G.ne.symm).trans e) (.ref (upd_self ..))⟩⟩
theorem S_setC {bv : Bool} {i : Nat} {x : Str} {elt target iter : Expr} {ifs : List Expr} {scope : Scope} {pp pos spos : Pos} {cl : List (Str × Addr)} {names : List Str} {it : IX} {bind : Bnd} {test : TX} {y : EX}
    (hO : FOk Γ) (hc : Γ.comp = none) (h1 : SoundI Γ bv target iter it)
    (h2 : ∀ C, FOk (Γ.inComp scope C cl names) → SoundTg (Γ.inComp scope C cl names) bv target bind)
    (h3 : ∀ C, FOk (Γ.inComp scope C cl names) → SoundIfs (Γ.inComp scope C cl names) ifs test)
    (h4 : ∀ C, FOk (Γ.inComp scope C cl names) → SoundE (Γ.inComp scope C cl names) elt y)
    (hs : ∀ env x, foldedSetIterable iter env x = pure x) (hclos : closureFor scope Γ.fenv = pure cl) (hkind : scope.kind = .function)
    (hnames : ∀ x ∈ scope.names, x.2 = .local → scope.names.lookup x.1 = some .local) (hcell : ∀ x ∈ scope.names, x.2 ≠ .cell)
    (hnd : ((names.map Slot.cmp ++ Γ.slots).map Slot.key).Nodup) (hst : SoundSt Γ i x)
    (hsw : swapsWith (.ListComp elt [⟨target, iter, ifs, 0⟩] scope pos) (some (.Name x pp)) spos.line Γ.env = pure true) :
    SoundS Γ (.Assign [.Name x pp] (.ListComp elt [⟨target, iter, ifs, 0⟩] scope pos) spos) (sSet i (eComp names.length it bind test y)) := ⟨fun p Q E N R ok hx n _ => by
  rw [exec_Assign_Name_used (env := Γ.env) x pp _ spos hsw]
  refine wpAny_bind (wpAny_standAt (wpAny_bind ?_))
  show wpAny _ _ (comprehension (.ListComp elt [⟨target, iter, ifs, 0⟩] scope pos) scope Γ.env (firstIterPos [⟨target, iter, ifs, 0⟩] pos) (newList []) false (eval iter Γ.env) (some (assign (.Name x pp) Γ.env)) >>= fun _ => pure ()) _ _ _
  refine wpAny_bind ?_
  rw [env_of hc]
  refine comp_core (use := some (assign (.Name x pp) Γ.fenv)) hO hc h1 h2 h3 h4 (hs _) hclos hkind hnames hcell hnd ok hx fun vs accA C q k z => z.S.cN.elim fun mc hn => ?_
  show wpAny _ _ (assign (.Name x pp) Γ.fenv (.ref accA)) _ _ _
  rw [← env_of hc]
  have s := z.made (wr := [accA]) (t := q.t) (.head _) (fun b hb => .inr (List.mem_singleton.mp hb)) (fun _ _ _ e => e) fun _ e => e
  have rC : upd (drop [accA] q.role) accA (.obj q.H.length) C = .tmp := (upd_ne z.G.ne).trans ((drop_out fun e => z.G.ne (List.mem_singleton.mp e)).trans z.S.cT)
  refine PyProof.Rows.assign_Name (hst.run _ _ E _ _ s.ok (.ref (upd_self ..)) fun h₂ t₂ m₂ s₂ => ⟨mc, hn.at' fun o => s₂.X.tmp C o rC fun e => z.G.cM (.inl e), fun h₃ hsb => wpAny_pure (wpAny_pure ?_)⟩)
  have hk : ∀ b, b ∉ [C] → Same b h₂ h₃ := fun b hb o e => (hsb.2 b fun w => hb (w ▸ .head _)).trans e
  have ne : ∀ a, p.role a ≠ .none → a ∉ [C] := fun a hr e => hr (List.mem_singleton.mp e ▸ z.G.c0)
  exact n ⟨h₃, t₂, drop [C] _, m₂, _, _⟩ k.run ⟨s₂.ok.tmp t₂ (one_of ⟨rC, z.G.cM⟩) hk (fun _ h => drop_out h) fun a ha => .inl (drop_in ha),
    fun a hr => (drop_out (ne a hr)).trans (s.X.grow a hr), fun a o e hn' eo => hk a (ne a (by rw [e]; simp)) o (s₂.X.tmp a o (s.X.grow.at e (by simp)) hn' (s.X.tmp a o e (by simp) eo))⟩⟩
end
open PySem PySem.W PySem.Calls PyProof.Rows
noncomputable def mid20 (x : Int) : Prop := -1048576 ≤ x ∧ x ≤ 1048576
noncomputable def repL {α : Type} (n : Int) (l : List α) : List α := (List.replicate n.toNat l).flatten
noncomputable def vAdd (a b : V) (H : Hp) (K : KV) : Prop := match a with
  | .int x => onInt b fun y => K (.int (x + y)) H
  | .str x => onStr b fun y => x.length + y.length ≤ lenMax ∧ K (.str (x ++ y)) H
  | .ref i => onRef b fun j => atList H i fun x => atList H j fun y => x.length + y.length ≤ lenMax ∧ newAt H (.list (x ++ y)) K
  | _ => False
noncomputable def vSub (a b : V) (H : Hp) (K : KV) : Prop := onInt a fun x => onInt b fun y => K (.int (x - y)) H
noncomputable def vMul (a b : V) (H : Hp) (K : KV) : Prop := onInt b fun y => match a with
  | .int x => x.natAbs < 1152921504606846976 ∧ K (.int (x * y)) H
  | .str x => x.length ≤ 16 ∧ mid20 y ∧ K (.str (repL y x)) H
  | .bytes x => 0 < x.length ∧ x.length ≤ 16 ∧ mid20 y ∧ K (.bytes (repL y x)) H
  | .ref i => atList H i fun x => mid20 y ∧ x.length * y.toNat ≤ 256 ∧ newAt H (.list (repL y x)) K
  | _ => False
noncomputable def vDiv (a b : V) (H : Hp) (K : KV) : Prop := onInt a fun x => onInt b fun y => y.natAbs < 1606938044258990275541962092341162602522202993782792835301376 ∧ y ≠ 0 ∧ K (.int (x.fdiv y)) H
noncomputable def vMod (a b : V) (H : Hp) (K : KV) : Prop := onInt a fun x => onInt b fun y => y ≠ 0 ∧ K (.int (x.fmod y)) H
noncomputable def vPow (a b : V) (H : Hp) (K : KV) : Prop := onInt a fun x => onInt b fun n => x.natAbs < 65536 ∧ 0 ≤ n ∧ n ≤ 1000 ∧ K (.int (x ^ n.toNat)) H
noncomputable def vNeg (a : V) (H : Hp) (K : KV) : Prop := onInt a fun x => K (.int (-x)) H
section
variable {Γ : FC} {p : Pt}
theorem bits_small {x : Int} (h : x.natAbs < 1152921504606846976) : Builtin.Int.intBits x ≤ 64 := by
  unfold Builtin.Int.intBits
  split
  · exact Nat.zero_le _
  · rename_i q
    have : x.natAbs ≠ 0 := fun z => q (beq_iff_eq.2 (Int.natAbs_eq_zero.1 z))
    exact Nat.succ_le_of_lt (Nat.lt_trans ((Nat.log2_lt this).mpr (show x.natAbs < 2 ^ 60 from h)) (by decide))
theorem strs_app (x y : List Nat) : ((⟨x.toArray⟩ : Str) ++ (⟨y.toArray⟩ : Str)) = ⟨(x ++ y).toArray⟩ := by
  show (⟨x.toArray ++ y.toArray⟩ : Str) = _
  rw [List.append_toArray]
theorem Ok.newlist (ok : Ok Γ p) {D : Addr} {vs : List V} {ws : List Value} {c : Nat} {h' : Heap} (fr : p.role D = .none) (F' : Fr Γ.h₀ Γ.L h' p.m) (k : Kept p.role p.s.heap h') (n1 : h'.get? D = some (listOf ws.toArray c)) (fo : Γ.h₀.get? D = none ∧ D ≠ Γ.L) (rs : RVs p.role vs ws) (t : Nat) :
    Ste Γ p ⟨h', t, upd p.role D (.obj p.H.length), p.H ++ [.list vs]⟩ :=
  ok.ste ⟨F', ok.own.upd fo, ok.hs.alloc (o := .list vs) fr k n1 ⟨ws, rs.mono (.upd fr), c, n1⟩, .upd fr k⟩
theorem O_add : SoundO2 Γ (binaryOp .Add) vAdd := ⟨fun p Q E K a b wa wb ok ra rb hx h => by
  cases a with
  | int x => exact ra.oInt fun t => onInt.run hx rb fun y u k => PyProof.Rows.add_int (h _ (p.tick _) _ k (ok.tick _) .int)
  | str x => exact ra.oStr fun t => onStr.run hx rb fun y u k => PyProof.Rows.add_str (fun t' tk => by rw [strs_app]; exact h _ (p.tick tk) _ k.2 (ok.tick _) .str) (lenMax_le k.1)
  | ref i =>
    exact ra.oRef fun ad hi => onRef.run hx rb fun j bd hj k => k.run ok.hs hi fun x ws _ rs l1 k => k.run ok.hs hj fun y us _ ru l2 k =>
      add_arrays ok.F (news_newsOf (role := p.role) _ _) l1.isList l2.isList (fun h' F' N' => h _ ⟨h', p.s.toks, _, _⟩ _ k.2.run (ok.newlist (ws := ws ++ us) (c := 0) (fresh_none ok.hs (Nat.le_refl _)) F' (kept_of_news ok.own ok.F.keep F'.keep fun p hp => N' p (.tail _ hp))
        (N' _ (.head _)).1 (frFresh ok.F (Nat.le_refl _)) (.append ru rs) _) (.ref (upd_self ..)))
        (lenMax_le (by rw [List.size_toArray, List.size_toArray, ← rs.length, ← ru.length]; exact k.1))
  | _ => exact hx.elim⟩
theorem O_sub : SoundO2 Γ (binaryOp .Sub) vSub := ⟨fun p Q E K a b wa wb ok ra rb hx h => hx.run ra fun x t k => k.run rb fun y u k => PyProof.Rows.sub_int (h _ (p.tick _) _ k (ok.tick _) .int)⟩
theorem fold_rep (x : Array Nat) : ∀ (j : Nat) (acc : Array Nat), List.foldl (· ++ ·) acc (List.replicate j x) = acc ++ (List.replicate j x.toList).flatten.toArray := by
  intro j
  induction j with
  | zero => intro acc; simp
  | succ j ih => intro acc; rw [List.replicate_succ, List.foldl_cons, ih, List.replicate_succ, List.flatten_cons, ← List.append_toArray, Array.toArray_toList, Array.append_assoc]
theorem mul_txt (x : List Nat) (k : Int) : Txt.mul ⟨x.toArray⟩ k = ⟨(repL k x).toArray⟩ := by
  unfold Txt.mul repL
  by_cases h1 : k < 1
  · rw [if_pos h1, Int.toNat_of_nonpos (Int.lt_add_one_iff.1 h1)]; rfl
  · rw [if_neg h1]
    by_cases h2 : (k == 1 || (⟨x.toArray⟩ : Str).length == 0) = true
    · rw [if_pos h2]
      rcases Bool.or_eq_true_iff.mp h2 with q | q
      · rw [beq_iff_eq.1 q]; simp
      · have : x = [] := by simpa [Str.length] using q
        subst this
        rw [lm_rep_nil]
    · rw [if_neg h2]
      show (⟨List.foldl (· ++ ·) #[] (List.replicate k.toNat x.toArray)⟩ : Str) = _
      rw [fold_rep]; simp
theorem RVs.rep {r : Roles} {vs : List V} {ws : List Value} (h : RVs r vs ws) (k : Nat) : RVs r (List.replicate k vs).flatten (List.replicate k ws).flatten := by
  induction k with
  | zero => exact .nil
  | succ k ih => rw [List.replicate_succ, List.replicate_succ, List.flatten_cons, List.flatten_cons]; exact .append ih h
theorem O_mul : SoundO2 Γ (binaryOp .Mult) vMul := ⟨fun p Q E K a b wa wb ok ra rb hx h => onInt.run hx rb fun y u k => by
  cases a with
  | int x => exact ra.oInt fun t => PyProof.Rows.mul_int (h _ (p.tick _) _ k.2 (ok.tick _) .int) (.of_left (bits_small k.1))
  | str x =>
    exact ra.oStr fun t => SB.mul (mulOk_of 16 1048576 k.1 k.2.1.2 (i63 k.2.1).1 (by decide) (by decide)) fun t' tk => by rw [mul_txt]; exact h _ (p.tick tk) _ k.2.2 (ok.tick _) .str
  | bytes x =>
    exact ra.oBytes fun t => bytes_mul_any (fun z => by rw [z] at k; exact Nat.lt_irrefl _ k.1) k.2.2.1.1 k.2.2.1.2 k.2.1 fun t' tk => h _ (p.tick tk) _ k.2.2.2 (ok.tick _) .bytes
  | ref i =>
    exact ra.oRef fun ad hi => atList.run k ok.hs hi fun x ws _ rs l1 k => KMa.mul ok.F (news_newsOf (role := p.role) _ _) l1.isList (i63 k.1).1 (i63 k.1).2 (by rw [← rs.length]; exact k.2.1) rfl fun D h' F' N' lt =>
      have n1 := N' _ (.head _)
      h _ ⟨h', p.s.toks, _, _⟩ _ k.2.2.run (ok.newlist (ok.fresh n1.2.2 fun o q => absurd (lt _ q) (Nat.lt_irrefl _)) F' (kept_of_news ok.own ok.F.keep F'.keep fun p hp => N' p (.tail _ hp)) n1.1 ⟨n1.2.2, n1.2.1⟩ (rs.rep _) _) (.ref (upd_self ..))
  | _ => exact k.elim⟩
theorem O_div : SoundO2 Γ (binaryOp .FloorDiv) vDiv := ⟨fun p Q E K a b wa wb ok ra rb hx h => hx.run ra fun x t k => k.run rb fun y u k => by
  have hl : y.natAbs.log2 < 200 := (Nat.log2_lt (fun z => k.2.1 (Int.natAbs_eq_zero.1 z))).mpr (Nat.lt_of_lt_of_eq k.1 (by decide +kernel))
  exact PyProof.Rows.floordiv_int k.2.1 (h _ (p.tick _) _ k.2.2 (ok.tick _) .int) (.inl (PyProof.noPylong_of_log2 (Nat.lt_trans hl (by decide))))⟩
theorem O_mod : SoundO2 Γ (binaryOp .Mod) vMod := ⟨fun p Q E K a b wa wb ok ra rb hx h => hx.run ra fun x t k => k.run rb fun y u k => PyProof.Rows.mod_int' k.1 (h _ (p.tick _) _ k.2 (ok.tick _) .int)⟩
theorem O_pow : SoundO2 Γ (binaryOp .Pow) vPow := ⟨fun p Q E K a b wa wb ok ra rb hx h => hx.run ra fun x t k => k.run rb fun y u k => by
  have h1 : (Builtin.Int.intBits x : Int) ≤ 64 := Int.ofNat_le.2 (bits_small (Nat.lt_trans k.1 (by decide)))
  exact PyProof.Rows.pow_int k.2.1 (Int.le_trans (Int.mul_le_mul_of_nonneg_right h1 k.2.1) (Int.le_trans (Int.mul_le_mul_of_nonneg_left k.2.2.1 (by decide)) (by decide))) (h _ (p.tick _) _ k.2.2.2 (ok.tick _) .int)⟩
theorem O_neg : SoundO1 Γ (unaryOp .USub) vNeg := ⟨fun p Q E K a wa ok ra hx h => hx.run ra fun x t k => PyProof.Rows.neg_int (h _ (p.tick _) _ k (ok.tick _) .int)⟩
end
open PySem PySem.W PySem.Calls PyProof.Rows
noncomputable def consS (v : V) (o : Option (List (List Nat))) : Option (List (List Nat)) := match v with | .str x => o.map (x :: ·) | _ => none
noncomputable def strsOf : List V → Option (List (List Nat))
  | [] => some []
  | v :: r => consS v (strsOf r)
noncomputable def consI (v : V) (o : Option (List Int)) : Option (List Int) := match v with | .int x => o.map (x :: ·) | _ => none
noncomputable def intsOf : List V → Option (List Int)
  | [] => some []
  | v :: r => consI v (intsOf r)
noncomputable def vEq : CX := fun a b H K => match a with
  | .int x => onInt b fun y => K (x == y)
  | .str x => onStr b fun y => K (x == y)
  | .bool x => onBool b fun y => K (x == y)
  | .bytes x => match b with | .bytes y => K (x == y) | _ => False
  | .ref i => onRef b fun j => atList H i fun x => atList H j fun y => y = [] ∧ K x.isEmpty
  | _ => False
noncomputable def vNe : CX := fun a b H K => vEq a b H fun c => K (!c)
noncomputable def inStrs (vs : List V) (x : List Nat) (K : Bool → Prop) : Prop := onSome (strsOf vs) fun ss => K (ss.any (· == x))
noncomputable def vIn : CX := fun a b H K => match b with
  | .tup vs => (match a with
    | .str x => inStrs vs x K
    | .int x => onSome (intsOf vs) fun ss => K (ss.any (· == x))
    | _ => False)
  | .ref i => onStr a fun x => atList H i fun vs => inStrs vs x K
  | .str y => onStr a fun x => on1 x fun c => K (decide (c ∈ y))
  | _ => False
noncomputable def vNotIn : CX := fun a b H K => vIn a b H fun c => K (!c)
noncomputable def vLt : CX := fun a b H K => onInt a fun x => onInt b fun y => K (decide (x < y))
noncomputable def vGt : CX := fun a b H K => onInt a fun x => onInt b fun y => K (decide (y < x))
noncomputable def vGe : CX := fun a b H K => onInt a fun x => onInt b fun y => K (decide (y ≤ x))
noncomputable def vLe : CX := fun a b H K => match a with
  | .int x => onInt b fun y => K (decide (x ≤ y))
  | .str x => onStr b fun y => K (!decide (y < x))
  | _ => False
section
variable {Γ : FC} {p : Pt}
theorem str_eq (x y : List Nat) : ((⟨x.toArray⟩ : Str) == (⟨y.toArray⟩ : Str)) = (x == y) := by rw [← toList_beq]
noncomputable def eqOf (w : Value) (x : List Nat) : Bool := match w with
  | .str y _ => y.cps.toList == x
  | _ => false
theorem strs_are {role : Roles} {vs : List V} : ∀ {ws : List Value} {ss : List (List Nat)}, RVs role vs ws → strsOf vs = some ss → (∀ x, ws.any (eqOf · x) = ss.any (· == x)) ∧ ∀ w ∈ ws, ∃ (l : List Nat) (t : Tok), w = .str ⟨l.toArray⟩ t := by
  induction vs with
  | nil => exact fun h e => h.oNil (by cases e; exact ⟨fun _ => rfl, fun _ h => nomatch h⟩)
  | cons v vs ih =>
    intro ws ss h e
    refine h.oCons fun w us r rs => ?_
    cases v with
    | str x =>
      obtain ⟨s', q, rfl⟩ := Option.map_eq_some_iff.1 (show (strsOf vs).map (x :: ·) = some ss from e)
      have i := ih rs q
      exact r.oStr fun t => ⟨fun y => by rw [List.any_cons, List.any_cons, i.1]; rfl, fun w hw => (List.mem_cons.mp hw).elim (fun z => ⟨x, t, z⟩) (i.2 w)⟩
    | _ => cases e
theorem ints_are {role : Roles} {vs : List V} : ∀ {ws : List Value} {ns : List Int}, RVs role vs ws → intsOf vs = some ns → IntsAre ws ns := by
  induction vs with
  | nil => exact fun h e => h.oNil (by cases e; exact .nil)
  | cons v vs ih =>
    intro ws ss h e
    refine h.oCons fun w us r rs => ?_
    cases v with
    | int x =>
      obtain ⟨s', q, rfl⟩ := Option.map_eq_some_iff.1 (show (intsOf vs).map (x :: ·) = some ss from e)
      exact r.oInt fun t => .cons x t (ih rs q)
    | _ => cases e
theorem any_ints {k : Int} {ws : List Value} {ns : List Int} (h : IntsAre ws ns) : ws.any (isInt k) = ns.any (· == k) := by
  induction h with
  | nil => rfl
  | cons n t h ih => rw [List.any_cons, List.any_cons, ih]; rfl
theorem in_at {A : Around} {s : Shared} {ws : List Value} {x : List Nat} {t : Tok} (h : ∀ w ∈ ws, ∃ (l : List Nat) (t : Tok), w = .str ⟨l.toArray⟩ t) : ∀ y, y ∈ ws.toArray → SeqAt.EqAt A s y (.str ⟨x.toArray⟩ t) (eqOf y x) := fun y hy =>
  (h y (List.mem_toArray.mp hy)).elim fun l z => z.elim fun t' z => by rw [z]; exact (SeqRoads2.EqGives.str _ _ _ _).at A s
structure Both (Γ : FC) (p : Pt) (op nop : CmpOp) (wa wb : Value) (c : Bool) : Prop where
  yes : ∀ Q E : QV, Q (.bool c) p.s → wpAny Γ.M p.A (compareOp op wa wb) Q E p.s
  no : ∀ Q E : QV, Q (.bool (!c)) p.s → wpAny Γ.M p.A (compareOp nop wa wb) Q E p.s
theorem C_eq_ne {K : Bool → Prop} {a b : V} {wa wb : Value} (ok : Ok Γ p) (ra : RV p.role a wa) (rb : RV p.role b wb) (hx : vEq a b p.H K) : ∃ c, K c ∧ Both Γ p .Eq .NotEq wa wb c := by
  have hu : p.A.units < cLine := by have := ok.un; omega
  cases a with
  | int x => exact ra.oInt fun t => onInt.run hx rb fun y u k => ⟨_, k, fun Q E h => PyProof.Rows.eq_int h, fun Q E h => PyProof.Rows.ne_int h⟩
  | bool x => exact ra.oBool (onBool.run hx rb fun y k => ⟨_, k, fun Q E h => PyProof.Rows.eq_bool h, fun Q E h => PyProof.Rows.ne_bool h⟩)
  | str x => exact ra.oStr fun t => onStr.run hx rb fun y u k => ⟨_, k, fun Q E h => PyProof.Rows.eq_str (by rw [str_eq]; exact h), fun Q E h => PyProof.Rows.ne_str (by rw [bne, str_eq]; exact h)⟩
  | bytes x =>
    cases b with
    | bytes y => exact ra.oBytes fun t => rb.oBytes fun u => ⟨_, hx, fun Q E h => eq_bytes h, fun Q E h => ne_bytes h⟩
    | _ => exact hx.elim
  | ref i =>
    refine ra.oRef fun ad hi => onRef.run hx rb fun j bd hj k => atList.run k ok.hs hi fun x ws _ rs l1 k => atList.run k ok.hs hj fun y us _ ru l2 k => ⟨_, k.2, ?_⟩
    have q1 := rs.length
    have q2 : us.toArray.size = 0 := ru.length.symm.trans (congrArg List.length k.1)
    cases x with
    | nil =>
      have q : ws.toArray.size = us.toArray.size := q1.symm.trans q2.symm
      have he : ∀ j (h1 : j < ws.toArray.size) (h2 : j < us.toArray.size), SeqAt.EqAt p.A.in1 p.s ws.toArray[j] us.toArray[j] true := fun j _ h2 => absurd (q2 ▸ h2) (Nat.not_lt_zero _)
      have hall : (List.range ws.toArray.size).all (fun _ => true) = true := List.all_eq_true.2 fun _ _ => rfl
      exact ⟨fun Q E h => SeqAt.eq_listAt l1.isList l2.isList q hu he (by rw [hall]; exact h), fun Q E h => SeqAt.RcNeAt.lists l1.isList l2.isList q hu he _ _ _ _ (by rw [hall]; exact h)⟩
    | cons v vs =>
      have q : (ws.toArray.size != us.toArray.size) = true := bne_iff_ne.2 fun e => Nat.succ_ne_zero _ (q1.trans (e.trans q2))
      exact ⟨fun Q E h => SeqAt.eq_list_lengthsAt l1.isList l2.isList q hu h, fun Q E h => SeqAt.RcNeAt.lists_lengths l1.isList l2.isList q hu _ _ _ _ h⟩
  | _ => exact hx.elim
theorem C_eq : SoundC Γ .Eq vEq := ⟨fun p Q E K a b wa wb ok ra rb hx h => (C_eq_ne ok ra rb hx).elim fun c z => z.2.yes Q E (h c z.1)⟩
theorem C_ne : SoundC Γ .NotEq vNe := ⟨fun p Q E K a b wa wb ok ra rb hx h => (C_eq_ne ok ra rb hx).elim fun c z => z.2.no Q E (h _ z.1)⟩
theorem C_in_not {K : Bool → Prop} {a b : V} {wa wb : Value} (ok : Ok Γ p) (ra : RV p.role a wa) (rb : RV p.role b wb) (hx : vIn a b p.H K) : ∃ c, K c ∧ Both Γ p .In .NotIn wa wb c := by
  cases b with
  | tup vs =>
    refine rb.oTup fun bd us hb => ?_
    have y := ok.hs.tup bd vs us hb
    cases a with
    | str x =>
      refine ra.oStr fun t => Exists.elim (onSome.ex hx) fun ss k => ⟨_, k.2, ?_⟩
      have q := strs_are y.2 k.1
      rw [← q.1 x, ← List.any_toArray]
      exact ⟨fun Q E h => SeqAt.in_tupleAt (eqOf · x) y.1 (in_at q.2) h, fun Q E h => SeqAt.notIn_tupleAt (eqOf · x) y.1 (in_at q.2) h⟩
    | int x =>
      refine ra.oInt fun t => Exists.elim (onSome.ex hx) fun ss k => ⟨_, k.2, ?_⟩
      have hi := ints_are y.2 k.1
      rw [← any_ints hi, ← List.any_toArray]
      have he := fun y hy => (eq_isInt x t hi y (List.mem_toArray.1 hy)).at p.A.in1 p.s
      exact ⟨fun Q E h => SeqAt.in_tupleAt (isInt x) y.1 he h, fun Q E h => SeqAt.notIn_tupleAt (isInt x) y.1 he h⟩
    | _ => exact hx.elim
  | ref i =>
    refine rb.oRef fun bd hb => onStr.run hx ra fun x t k => atList.run k ok.hs hb fun vs us _ rs l k => Exists.elim (onSome.ex k) fun ss k => ⟨_, k.2, ?_⟩
    have q := strs_are rs k.1
    rw [← q.1 x, ← List.any_toArray]
    exact ⟨fun Q E h => SeqAt.in_listAt (eqOf · x) l.isList (in_at q.2) h, fun Q E h => SeqAt.notIn_listAt (eqOf · x) l.isList (in_at q.2) h⟩
  | str y =>
    refine rb.oStr fun u => onStr.run hx ra fun x t k => Exists.elim (on1.ex k) fun c k => ⟨_, k.2, ?_⟩
    have f : (!(Builtin.Str.occurrences ⟨y.toArray⟩ ⟨#[c]⟩ 0 (⟨y.toArray⟩ : Str).length 1).isEmpty) = decide (c ∈ y) := PySem.StrLaws.found_one _ _
    rw [k.1, ← f]
    exact ⟨fun Q E h => PyProof.Rows.in_str h, fun Q E h => PyProof.Rows.notIn_str h⟩
  | _ => exact hx.elim
theorem C_in : SoundC Γ .In vIn := ⟨fun p Q E K a b wa wb ok ra rb hx h => (C_in_not ok ra rb hx).elim fun c z => z.2.yes Q E (h c z.1)⟩
theorem C_notin : SoundC Γ .NotIn vNotIn := ⟨fun p Q E K a b wa wb ok ra rb hx h => (C_in_not ok ra rb hx).elim fun c z => z.2.no Q E (h _ z.1)⟩
theorem C_lt : SoundC Γ .Lt vLt := ⟨fun p Q E K a b wa wb ok ra rb hx h => onInt.run hx ra fun x t k => k.run rb fun y u k => PyProof.Rows.lt_int (h _ k)⟩
theorem C_gt : SoundC Γ .Gt vGt := ⟨fun p Q E K a b wa wb ok ra rb hx h => onInt.run hx ra fun x t k => k.run rb fun y u k => PyProof.Rows.gt_int (h _ k)⟩
theorem C_ge : SoundC Γ .GtE vGe := ⟨fun p Q E K a b wa wb ok ra rb hx h => onInt.run hx ra fun x t k => k.run rb fun y u k => PyProof.Rows.ge_int (h _ k)⟩
theorem C_le : SoundC Γ .LtE vLe := ⟨fun p Q E K a b wa wb ok ra rb hx h => by
  cases a with
  | int x => exact ra.oInt fun t => onInt.run hx rb fun y u k => PyProof.Rows.le_int (h _ k)
  | str x => exact ra.oStr fun t => onStr.run hx rb fun y u k => P.le_str (h _ k)
  | _ => exact hx.elim⟩
end
open PySem PySem.W PySem.Calls PyProof.Rows
noncomputable def sUnp (bind : Bnd) (x : EX) : SX := fun ρ H N _ => x ρ H fun v H => bind v ρ fun ρ => N ρ H
noncomputable def setK (k : List Nat) (v : V) : List (List Nat × V) → List (List Nat × V)
  | [] => [(k, v)]
  | p :: r => if p.1 = k then (k, v) :: r else p :: setK k v r
noncomputable def vPut (o i v : V) (H : Hp) (K : Hp → Prop) : Prop := onRef o fun a => match i with
  | .int k => atList H a fun vs => onSome (pyIdx k vs.length) fun j => cnd (putAt H a (.list (vs.set j v)) K) False (Nat.blt j vs.length)
  | .str k => atDict H a fun kvs => kvs.length ≤ 1000 ∧ putAt H a (.dict (setK k v kvs)) K
  | _ => False
noncomputable def sPut (o i x : EX) : SX := fun ρ H N _ => x ρ H fun v H => o ρ H fun w H => i ρ H fun u H => vPut w u v H fun H => N ρ H
noncomputable def bRev (is : List Nat) : Bnd := fun v ρ K => onTup v fun vs => setAll is vs.reverse ρ K
section
variable {Γ : FC} {p : Pt}
theorem Bound.s {q : Nx} {h' : Heap} {t' : Nat} {m mc : Str → Option Value} {ρ : Rho} (hc : Γ.comp = none) (st : Ste Γ p q) (b : Bound Γ (p.to q) h' t' m mc ρ) : Sts Γ p ⟨h', t', q.role, m, ρ, q.H⟩ := by
  obtain rfl := b.emc hc
  have X := b.X
  unfold FC.stores at X
  rw [hc] at X
  exact ⟨b.ok, (st.X.weak fun _ z => nomatch z).trans X⟩
theorem S_unp {elts : List Expr} {e : Expr} {is : List Nat} {k : Nat} {tp pos : Pos} {y : EX} (hc : Γ.comp = none) (h1 : SoundE Γ e y) (h2 : SoundTg Γ false (.Tuple elts k tp) (bTup is))
    (hs : swapsWithSole [.Tuple elts k tp] e pos.line Γ.env = pure false := by kernel_rfl) (hw : swappedStores [.Tuple elts k tp] e Γ.env = pure none := by kernel_rfl) :
    SoundS Γ (.Assign [.Tuple elts k tp] e pos) (sUnp (bTup is) y) := ⟨fun p Q E N R ok hx n _ => Assign_Tuple (h1.run p _ E _ ok hx fun v q w kk st r =>
  h2.run (p.to q) _ E v w _ st.ok ((onTup.ex kk).elim fun vs z => by
    have r := r
    rw [z.1] at r
    exact r.oTup fun a ws e => ⟨vs, ws, a, z.1, rfl, st.ok.hs.tup a vs ws e⟩) kk fun h' t' m' mc' ρ' kb b => n _ kb (b.s hc st)) hs hw⟩
structure SoundRs (Γ : FC) (names : List Str) (is : List Nat) : Prop where
  run : ∀ (p : Pt) (Q : Unit → Shared → Prop) (E : QV) (vs : List V) (ws : List Value) (K : Rho → Prop), Ok Γ p → RVs p.role vs ws → setAll is vs p.ρ K → ThenB Γ p K Q → wpAny Γ.M p.A (assignInOrder (names.map fun n => bindName Γ.env n) ws) Q E p.s
theorem Rs_nil : SoundRs Γ [] [] := ⟨fun p Q E vs ws K ok rv hb h => by
  obtain ⟨rfl, hb⟩ := onNil.ex hb
  exact rv.oNil (wpAny_pure (h p.s.heap p.s.toks p.m p.mc p.ρ hb ⟨(ok.tick _).ok, .refl .., fun _ => rfl, fun _ => rfl⟩))⟩
theorem Rs_cons {i : Nat} {x : Str} {names : List Str} {is : List Nat} (h1 : SoundNm Γ i x) (h2 : SoundRs Γ names is) : SoundRs Γ (x :: names) (i :: is) := ⟨fun p Q E vs ws K ok rv hb h => by
  obtain ⟨v, us, rfl, hb⟩ := onCons.ex hb
  exact rv.oCons fun w us' r rs => wpAny_bind (wpAny_holding (PyProof.Rows.bindName_ (h1.run p _ E v w ok r fun h₁ t₁ m₁ mc₁ b => h2.run (p.bnd h₁ t₁ m₁ mc₁ _) Q E us us' K b.ok rs hb fun h' t' m' mc' ρ' k b' => h h' t' m' mc' ρ' k (b.trans b'))))⟩
theorem RVs.reverse {r : Roles} {vs : List V} : ∀ {ws : List Value}, RVs r vs ws → RVs r vs.reverse ws.reverse := by
  induction vs with
  | nil => exact fun h => h.oNil .nil
  | cons v vs ih => exact fun h => h.oCons fun w ws a t => by rw [List.reverse_cons, List.reverse_cons]; exact .append (.cons a .nil) (ih t)
theorem S_swp {elts : List Expr} {e : Expr} {is : List Nat} {names : List Str} {k : Nat} {tp pos : Pos} {y : EX} (hc : Γ.comp = none) (h1 : SoundE Γ e y) (h2 : SoundRs Γ names.reverse is) (hl : names.length = is.length)
    (hs : swapsWithSole [.Tuple elts k tp] e pos.line Γ.env = pure false := by kernel_rfl) (hw : swappedStores [.Tuple elts k tp] e Γ.env = pure (some names) := by kernel_rfl) :
    SoundS Γ (.Assign [.Tuple elts k tp] e pos) (sUnp (bRev is) y) := ⟨fun p Q E N R ok hx n _ => Assign_Tuple_swapped (h1.run p _ E _ ok hx fun v q w kk st r => by
  obtain ⟨vs, rfl, hb⟩ := onTup.ex kk
  refine r.oTup fun a ws e => ?_
  have y := st.ok.hs.tup a vs ws e
  have hz : names.length = ws.toArray.size := hl.trans ((setAll_len hb).trans (by rw [List.length_reverse, y.2.length]; rfl))
  rw [hz]
  refine unpackItems_tuple st.ok.hand y.1 fun h₂ he => ?_
  have he' : ∀ a o, q.h.get? a = some o → h₂.get? a = some o := fun a o z => he a o (Nat.ne_of_lt (Heap.lt_size z)) z
  have s2 := st.ok.ext0 he' q.t
  exact h2.run _ _ E vs.reverse ws.reverse _ s2.ok y.2.reverse hb fun h' t' m' mc' ρ' kb b => n _ kb (b.s hc (st.trans s2))) hs hw⟩
theorem stored_rkv {role : Roles} {k : List Nat} {v : V} {w : Value} (rv : RV role v w) {kvs : List (List Nat × V)} : ∀ {kws : List (Str × Value)}, RKv role kvs kws → (kws.map (·.1)).Nodup → RKv role (setK k v kvs) (stored kws ⟨k.toArray⟩ w) := by
  induction kvs with
  | nil => rintro _ rfl _; exact ⟨w, [], rfl, rv, rfl⟩
  | cons x kvs ih =>
    rintro _ ⟨w', es, rfl, r, rest⟩ nd
    have hn := List.nodup_cons.mp (show ((⟨x.1.toArray⟩ : Str) :: es.map (fun x => x.1)).Nodup from nd)
    have ih := ih rest hn.2
    unfold stored at ih ⊢
    rw [List.any_cons, List.map_cons, setK]
    by_cases hjk : x.1 = k
    · rw [if_pos hjk, if_pos (by rw [decide_eq_true (show (⟨x.1.toArray⟩ : Str) = ⟨k.toArray⟩ by rw [hjk])]; rfl)]
      refine ⟨w, es, ?_, rv, rest⟩
      rw [if_pos (show (⟨x.1.toArray⟩ : Str) = ⟨k.toArray⟩ by rw [hjk]), map_eq_self, hjk]
      exact fun y hy => if_neg fun q => hn.1 (by rw [hjk, ← q]; exact List.mem_map_of_mem (f := fun x : Str × Value => x.1) hy)
    · have hne : ¬ ((⟨x.1.toArray⟩ : Str) = ⟨k.toArray⟩) := by simpa using hjk
      rw [if_neg hjk, decide_eq_false hne, Bool.false_or]
      split
      · rename_i q; rw [if_pos q] at ih; exact ⟨w', _, rfl, r, ih⟩
      · rename_i q; rw [if_neg q] at ih; exact ⟨w', _, rfl, r, ih⟩
theorem RKv.length {role : Roles} {kvs : List (List Nat × V)} : ∀ {kws : List (Str × Value)}, RKv role kvs kws → kvs.length = kws.length := by
  induction kvs with
  | nil => rintro _ rfl; rfl
  | cons x kvs ih => rintro _ ⟨w, es, rfl, _, r⟩; exact congrArg (· + 1) (ih r)
theorem RVs.set {role : Roles} {v : V} {w : Value} (r : RV role v w) {vs : List V} : ∀ {ws : List Value}, RVs role vs ws → ∀ j, RVs role (vs.set j v) (ws.set j w) := by
  induction vs with
  | nil => exact fun h _ => h.oNil .nil
  | cons u vs ih => exact fun h j => h.oCons fun x ws a t => match j with
    | 0 => .cons r t
    | j + 1 => .cons a (ih t j)
theorem Ok.put (ok : Ok Γ p) {ad : Addr} {a : Nat} {o : HO} {ob : Obj} {h' : Heap} (ha : p.role ad = .obj a) (hs : Heap.SameBut ad p.s.heap h') (ho : h'.get? ad = some ob) (hr : RObj Γ.g p.role h' ad o) (t : Nat) : Ste Γ p ⟨h', t, p.role, p.H.set a o⟩ := by
  have k1 : ∀ b, b ≠ ad → Same b p.s.heap h' := fun b hb o e => (hs.2 b hb).trans e
  have h0 := ok.news (a := ad) (by rw [ha]; simp) (by rw [ha]; simp)
  exact ok.ste ⟨⟨ok.F.ns.sameBut hs (Ne.symm h0.2), fun b ob e => k1 b (fun q => by rw [q, h0.1] at e; cases e) ob (ok.F.keep b ob e), ok.F.above⟩, ok.own, ok.hs.change ha (.inl rfl) (fun b ob _ hb => k1 b hb ob) ho hr,
    .refl _, fun b ob hb _ => k1 b (fun q => by rw [q, ha] at hb; cases hb) ob⟩
theorem setItem_at {Q : Unit → Shared → Prop} {E : QV} {o i v : V} {wo wi w : Value} {K : Hp → Prop} (ok : Ok Γ p) (ro : RV p.role o wo) (ri : RV p.role i wi) (rv : RV p.role v w) (hx : vPut o i v p.H K)
    (h : ∀ q, K q.H → Ste Γ p q → Q () (p.to q).s) : wpAny Γ.M p.A (setItem wo wi w) Q E p.s := hx.run ro fun a ad ha k => by
  cases i with
  | int z =>
    refine ri.oInt fun t => atList.run k ok.hs ha fun vs ws _ rs hl k => (onSome.ex k).elim fun j k => ?_
    have kk := cond_and k.2
    have k := And.intro k.1 (And.intro (Nat.le_of_ble_eq_true kk.1 : j < vs.length) kk.2)
    have b := pyIdx_int k.1 k.2.1
    have hlen : (vs.length : Int) = (ws.toArray.size : Int) := congrArg Nat.cast rs.length
    have hj : (j : Int) < (ws.toArray.size : Int) := hlen ▸ Int.ofNat_lt.2 k.2.1
    refine hl.elim fun nn hl0 => ?_
    have fin : ∀ (h' : Heap), h'.PlainList ad (ws.set j w).toArray → Heap.SameBut ad p.s.heap h' → Q () { p.s with heap := h' } := fun h' hl' hs' => hl'.elim fun n ho => h ⟨h', p.s.toks, _, _⟩ k.2.2.run (ok.put (o := .list (vs.set j v)) ha hs' ho ⟨_, .set rv rs j, n, ho⟩ _)
    have up := PySem.IsL.update hl0 (·.setIfInBounds j w)
    rw [List.setIfInBounds_toArray] at up
    by_cases k0 : 0 ≤ z
    · rw [if_neg (Int.not_lt.2 k0)] at b
      have e : z.toNat = j := by rw [b.2.2]; rfl
      exact ki_setAt hl0 k0 (i63 ⟨b.1, b.2.1⟩).2 (by rw [b.2.2]; exact hj) (fin _ (by rw [e]; exact ⟨_, up⟩) (Heap.SameBut.update ..))
    · have k1 := Int.not_le.1 k0
      rw [if_pos k1, hlen] at b
      have e : (z + (ws.toArray.size : Int)).toNat = j := by rw [b.2.2]; rfl
      exact ki_setBack hl0 k1 (by have := b.2.2; omega) (i63 ⟨b.1, b.2.1⟩).1 (fin _ (by rw [e]; exact ⟨_, up⟩) (Heap.SameBut.update ..))
  | str z =>
    refine ri.oStr fun t => atDict.run k ok.hs ha fun kvs kws _ hne hd rk k => ?_
    have nd : (kws.map (·.1)).Nodup := by obtain ⟨_, _, _, _, _, _, _, _, q⟩ := hd; exact q
    exact wpAny_setItem_pairs (knd := _root_.PySem.strKind Γ.g.prog Γ.g.w) (k := ⟨z.toArray⟩) (by simp [_root_.PySem.strKind, Value.isStrOf]) hd (fun h' hd' hs' => hd'.elim fun ox z => z.elim fun _ z => z.elim fun _ z =>
      h ⟨h', p.s.toks + 1, _, _⟩ k.2.run (ok.put (o := .dict (setK _ v kvs)) ha hs' z.1 ⟨hne, _, hd', stored_rkv rv rk nd⟩ _)) (by rw [← rk.length]; exact Nat.le_trans k.1 (lenMax_le (by decide)))
  | _ => exact k.elim
theorem S_put {o i e : Expr} {pp pos : Pos} {x y z : EX} (h1 : SoundE Γ e z) (h2 : SoundE Γ o x) (h3 : SoundE Γ i y)
    (hs : swapsWith e (some (.Subscript o i pp)) pos.line Γ.env = pure false := by kernel_rfl) : SoundS Γ (.Assign [.Subscript o i pp] e pos) (sPut x y z) :=
  ⟨fun p Q E N R ok hx n _ => wpAny_Assign_Subscript (h1.run p _ E _ ok hx fun v q w k st r => h2.run _ _ E _ st.ok k fun u q' w' k st' r' => h3.run _ _ E _ st'.ok k fun i q'' w'' k st'' r'' =>
    setItem_at st''.ok (r'.mono st''.X.grow) r'' (r.mono (st'.trans st'').X.grow) k fun q₄ k st₄ => n (p.ups q₄) k (((st.trans st').trans st'').trans st₄).s) hs⟩
end
open PySem PySem.W PySem.Calls PyProof.Rows
structure SoundFn (Γ : FC) (c : Value) (f : FX) : Prop where
  run : ∀ (p : Pt) (Q E : QV) (K : KV) (vs : List V) (ws : List Value), Ok Γ p → RVs p.role vs ws → f vs p.H K → ThenE Γ p K Q → wpAny Γ.M p.A (call c ws) Q E p.s
noncomputable def arg1 (vs : List V) (K : V → Prop) : Prop := match vs with | [a] => K a | _ => False
noncomputable def arg2 (vs : List V) (K : V → V → Prop) : Prop := match vs with | [a, b] => K a b | _ => False
noncomputable def arg3 (vs : List V) (K : V → V → V → Prop) : Prop := match vs with | [a, b, c] => K a b c | _ => False
noncomputable def onList (v : V) (H : Hp) (K : List V → Prop) : Prop := onRef v fun i => atList H i K
noncomputable def fAbs : FX := fun vs H K => arg1 vs fun v => onInt v fun x => K (.int (if x < 0 then -x else x)) H
noncomputable def fLen : FX := fun vs H K => arg1 vs fun v => match v with
  | .str x => x.length ≤ lenMax ∧ K (.int x.length) H
  | .bytes x => x.length ≤ lenMax ∧ K (.int x.length) H
  | .ref i => atList H i fun x => x.length ≤ lenMax ∧ K (.int x.length) H
  | _ => False
noncomputable def fMax : FX := fun vs H K => arg2 vs fun a b => onInt a fun a => onInt b fun b => K (.int (if b > a then b else a)) H
noncomputable def minL : List Int → Int → Int
  | [], m => m
  | x :: r, m => minL r (if x < m then x else m)
noncomputable def fMin : FX := fun vs H K => arg1 vs fun v => onList v H fun x => ∃ y ys, intsOf x = some (y :: ys) ∧ K (.int (minL ys y)) H
noncomputable def fSum : FX := fun vs H K => arg1 vs fun v => onList v H fun x => ∃ ys, intsOf x = some ys ∧ K (.int ys.sum) H
noncomputable def fOrd : FX := fun vs H K => arg1 vs fun v => onStr v fun s => on1 s fun c => K (.int (c : Nat)) H
noncomputable def fChr : FX := fun vs H K => arg1 vs fun v => onInt v fun i => (0 ≤ i ∧ i ≤ 1114111) ∧ K (.str [i.toNat]) H
noncomputable def fInt : FX := fun vs H K => arg1 vs fun v => onStr v fun s => on1 s fun c => (48 ≤ c ∧ c ≤ 57) ∧ K (.int ((c - 48 : Nat) : Int)) H
noncomputable def decF : Nat → Nat → List Nat
  | 0, _ => []
  | f + 1, m => if m < 10 then [48 + m] else decF f (m / 10) ++ [48 + m % 10]
noncomputable def fStr : FX := fun vs H K => arg1 vs fun v => onInt v fun i => (0 ≤ i ∧ i < 1000000000000000000000000000000) ∧ K (.str (decF 31 i.toNat)) H
noncomputable def fList : FX := fun vs H K => arg1 vs fun v => onList v H fun x => x.length ≤ lenMax ∧ newAt H (.list x) K
noncomputable def fBytes : FX := fun vs H K => arg1 vs fun v => onList v H fun x => ∃ ys, intsOf x = some ys ∧ ys.length ≤ lenMax ∧ ys.all (fun y => 0 ≤ y && y < 256) = true ∧ K (.bytes (ys.map fun y => y.toNat.toUInt8)) H
section
variable {Γ : FC} {p : Pt} {role : Roles} {C : List Value → Prop} {vs : List V} {ws : List Value}
@[elab_as_elim] theorem arg1.run {K : V → Prop} (h : arg1 vs K) (r : RVs role vs ws) (k : ∀ v w, RV role v w → K v → C [w]) : C ws := match vs, h with | [v], h => r.o1 fun w rv => k v w rv h
@[elab_as_elim] theorem arg2.run {K : V → V → Prop} (h : arg2 vs K) (r : RVs role vs ws) (k : ∀ v u w x, RV role v w → RV role u x → K v u → C [w, x]) : C ws := match vs, h with | [v, u], h => r.o2 fun w x rv ru => k v u w x rv ru h
@[elab_as_elim] theorem arg3.run {K : V → V → V → Prop} (h : arg3 vs K) (r : RVs role vs ws) (k : ∀ v u t w x y, RV role v w → RV role u x → RV role t y → K v u t → C [w, x, y]) : C ws := match vs, h with | [v, u, t], h => r.o3 fun w x y rv ru rt => k v u t w x y rv ru rt h
@[elab_as_elim] theorem onList.run {g : GC} {C : Value → Prop} {v : V} {w : Value} {H : Hp} {h : Heap} {K : List V → Prop} (k : onList v H K) (r : RV role v w) (S : HSt g role H h)
    (c : ∀ i a vs ws, role a = .obj i → RVs role vs ws → h.PlainList a ws.toArray → K vs → C (.ref a)) : C w := onRef.run k r fun i a e k => atList.run k S e fun vs ws _ rs l k => c i a vs ws e rs l k
theorem lenMax_63 {k : Nat} (h : k ≤ lenMax) : (k : Int) < 2 ^ 63 := Int.lt_of_le_of_lt (Int.ofNat_le.2 h) (by decide)
theorem Fn_abs : SoundFn Γ (.builtin "abs") fAbs := ⟨fun p Q E K vs ws ok rs hx h => arg1.run hx rs fun v w r k => k.run r fun x t k => call_abs_int fun u tk => h _ (p.tick tk) _ k (ok.tick _) .int⟩
theorem Fn_len : SoundFn Γ (.builtin "len") fLen := ⟨fun p Q E K vs ws ok rs hx h => arg1.run hx rs fun v w r k => by
  cases v with
  | str x => exact r.oStr fun t => PyProof.Rows.len_str (Int.not_le.2 (lenMax_63 k.1)) (h _ (p.tick _) _ k.2 (ok.tick _) .int)
  | bytes x => exact r.oBytes fun t => len_bytes (Nat.le_trans k.1 (by decide)) (h _ (p.tick _) _ k.2 (ok.tick _) .int)
  | ref i =>
    refine r.oRef fun a e => atList.run k ok.hs e fun vs ws _ rs l k => ?_
    have q : ws.toArray.size = vs.length := rs.length.symm
    exact Calls.call_len_list l.isList (by rw [q]; exact lenMax_63 k.1) (h (.int vs.length) (p.tick _) _ k.2 (ok.tick _) (by rw [q]; exact .int))
  | _ => exact k.elim⟩
theorem Ok.news' (ok : Ok Γ p) {h' : Heap} (F' : Fr Γ.h₀ Γ.L h' p.m) (N' : News Γ.h₀ Γ.L h' (newsOf p.role Γ.h₀ p.s.heap Γ.L)) (t : Nat) : Ste Γ p (p.keep h' t) := ok.keep F' (kept_of_news ok.own ok.F.keep F'.keep N') t
theorem Fn_max : SoundFn Γ (.builtin "max") fMax := ⟨fun p Q E K vs ws ok rs hx h => arg2.run hx rs fun v u w x r r' k => k.run r fun a t k => k.run r' fun b t' k =>
  max_two_N ok.hand ok.F (news_newsOf (role := p.role) _ _) fun h' tk F' N' => h _ (p.keep h' tk) _ k (ok.news' F' N' _) .int⟩
theorem minL_spec (l : List Int) : ∀ (m : Int), minL l m ∈ m :: l ∧ ∀ a ∈ m :: l, minL l m ≤ a := by
  induction l with
  | nil => exact fun m => ⟨.head _, fun a h => (List.mem_singleton.1 h) ▸ Int.le_refl _⟩
  | cons x r ih =>
    intro m
    show minL r (if x < m then x else m) ∈ _ ∧ ∀ a ∈ _, minL r (if x < m then x else m) ≤ a
    by_cases hx : x < m
    · rw [if_pos hx]
      exact ⟨.tail _ (ih x).1, fun a ha => (List.mem_cons.1 ha).elim (fun e => e ▸ Int.le_trans ((ih x).2 x (.head _)) (Int.le_of_lt hx)) ((ih x).2 a)⟩
    · rw [if_neg hx]
      refine ⟨(List.mem_cons.1 (ih m).1).elim (fun e => by rw [e]; exact .head _) fun e => .tail _ (.tail _ e), fun a ha => (List.mem_cons.1 ha).elim (fun e => e ▸ (ih m).2 m (.head _)) fun ha => (List.mem_cons.1 ha).elim (fun e => e ▸ Int.le_trans ((ih m).2 m (.head _)) (Int.not_lt.1 hx)) fun ha => (ih m).2 a (.tail _ ha)⟩
theorem Fn_min : SoundFn Γ (.builtin "min") fMin := ⟨fun p Q E K vs ws ok rs hx h => arg1.run hx rs fun v w r k => onList.run k r ok.hs fun i a xs us e rs l k => k.elim fun y k => k.elim fun ys k =>
  min_list_N ok.hand ok.F (news_newsOf (role := p.role) _ _) l.isList (ints_are rs k.1) (Nat.succ_pos _) fun h' M t tk F' N' h1 h2 => by
    have s := minL_spec ys y
    rw [Int.le_antisymm (h2 _ s.1) (s.2 _ h1)]
    exact h _ (p.keep h' tk) _ k.2 (ok.news' F' N' _) .int⟩
theorem Fn_sum : SoundFn Γ (.builtin "sum") fSum := ⟨fun p Q E K vs ws ok rs hx h => arg1.run hx rs fun v w r k => onList.run k r ok.hs fun i a xs us e rs l k => k.elim fun ys k =>
  sumK ok.hand ok.F (news_newsOf (role := p.role) _ _) l.isList (ints_are rs k.1) fun h' tk t' F' N' => h _ (p.keep h' tk) _ k.2 (ok.news' F' N' _) .int⟩
theorem Fn_ord : SoundFn Γ (.builtin "ord") fOrd := ⟨fun p Q E K vs ws ok rs hx h => arg1.run hx rs fun v w r k => k.run r fun x t k => (on1.ex k).elim fun c kk => by
  obtain ⟨rfl, k2⟩ := kk
  exact P.ord_of_char (h _ (p.tick _) _ k2 (ok.tick _) .int)⟩
theorem Fn_chr : SoundFn Γ (.builtin "chr") fChr := ⟨fun p Q E K vs ws ok rs hx h => arg1.run hx rs fun v w r k => k.run r fun x t k =>
  P.chr_of_int (by have := k.1; simp; omega) (h _ (p.tick _) _ k.2 (ok.tick _) .str)⟩
theorem one_digit (c : Nat) (h : 48 ≤ c ∧ c ≤ 57) : PySem.intText? ⟨#[c]⟩ = some ((c - 48 : Nat) : Int) := by
  have : ∀ d : Fin 10, PySem.intText? ⟨#[48 + d.val]⟩ = some (d.val : Int) := by decide +kernel
  have e := this ⟨c - 48, Nat.lt_succ_of_le (Nat.sub_le_of_le_add h.2)⟩
  rw [show 48 + (c - 48) = c from Nat.add_sub_cancel' h.1] at e
  exact e
theorem Fn_int : SoundFn Γ (.type "int") fInt := ⟨fun p Q E K vs ws ok rs hx h => arg1.run hx rs fun v w r k => k.run r fun x t k => (on1.ex k).elim fun c kk => by
  obtain ⟨rfl, k2⟩ := kk
  exact KIN.call_text (one_digit c k2.1) (by simp [Str.length]) (h _ (p.tick _) _ k2.2 (ok.tick _) .int)⟩
theorem digit_eq (d : Nat) (h : d < 10) : [48 + d] = [(Nat.digitChar d).toNat] := (by decide : ∀ d, d < 10 → [48 + d] = [(Nat.digitChar d).toNat]) d h
theorem decF_eq (f : Nat) : ∀ (m : Nat), m < 10 ^ f → 0 < f → decF f m = (Nat.toDigits 10 m).map Char.toNat := by
  induction f with
  | zero => exact fun _ _ h => absurd h (Nat.lt_irrefl _)
  | succ f ih =>
    intro m hm _
    show (if m < 10 then [48 + m] else decF f (m / 10) ++ [48 + m % 10]) = _
    by_cases h : m < 10
    · rw [if_pos h, Nat.toDigits_of_lt_base h]; exact digit_eq m h
    · have hm10 := Nat.not_lt.1 h
      have hq : m % 10 < 10 := Nat.mod_lt m (by decide)
      have t : Nat.toDigits 10 (m / 10) ++ Nat.toDigits 10 (m % 10) = Nat.toDigits 10 (10 * (m / 10) + m % 10) := Nat.toDigits_append_toDigits (by decide) (Nat.div_pos hm10 (by decide)) hq
      have hf : 0 < f := Nat.pos_of_ne_zero fun q => by rw [q] at hm; exact h hm
      have hlt : m / 10 < 10 ^ f := Nat.div_lt_of_lt_mul (by rw [Nat.mul_comm]; exact hm)
      rw [if_neg h, ← Nat.div_add_mod m 10, ← t, List.map_append, Nat.toDigits_of_lt_base hq, Nat.div_add_mod, ih _ hlt hf]
      exact congrArg _ (digit_eq _ hq)
theorem Fn_str : SoundFn Γ (.type "str") fStr := ⟨fun p Q E K vs ws ok rs hx h => arg1.run hx rs fun v w r k => k.run r fun x t k => by
  obtain ⟨n, rfl⟩ := Int.eq_ofNat_of_zero_le k.1.1
  have hn : n < 10 ^ 31 := Nat.lt_trans (Int.ofNat_lt.1 k.1.2) (by decide)
  refine P.str_of_int ?_ (h _ (p.tick _) _ k.2 (ok.tick _) ?_)
  · by_cases hk : n = 0
    · subst hk; decide
    · have : (Int.natAbs (n : Int)).log2 < 103 := (Nat.log2_lt hk).mpr (Nat.lt_trans hn (by decide))
      omega
  · have e : ((toString (n : Int) : String) : Str) = ⟨(decF 31 n).toArray⟩ := by
      have h1 := PySem.W.KIN.signs_num n
      rw [← decF_eq 31 n hn (by decide)] at h1
      show PySem.Str.ofString (toString ((n : Nat) : Int)) = _
      rw [← h1]
    rw [e]; exact .str⟩
theorem Fn_list : SoundFn Γ (.type "list") fList := ⟨fun p Q E K vs ws ok rs hx h => arg1.run hx rs fun v w r k => onList.run k r ok.hs fun i a xs us e rs l k =>
  list_copyK ok.F (news_newsOf (role := p.role) _ _) l.isList (fun D c h' F' N' lt => have n1 := N' _ (.head _)
    h _ ⟨h', p.s.toks, _, _⟩ _ k.2.run (ok.newlist (ok.fresh n1.2.2 fun o q => absurd (lt _ q) (Nat.lt_irrefl _)) F' (kept_of_news ok.own ok.F.keep F'.keep fun p hp => N' p (.tail _ hp)) n1.1 ⟨n1.2.2, n1.2.1⟩ rs _) (.ref (upd_self ..)))
    (by rw [List.size_toArray, ← rs.length]; exact lenMax_le k.1)⟩
theorem Fn_bytes : SoundFn Γ (.type "bytes") fBytes := ⟨fun p Q E K vs ws ok rs hx h => arg1.run hx rs fun v w r k => onList.run k r ok.hs fun i a xs us e rs l k => k.elim fun ys k => by
  have hi := ints_are rs k.1
  have q := k.2.2.1
  simp only [List.all_eq_true, Bool.and_eq_true, decide_eq_true_eq] at q
  exact call_bytes_ints l.isList hi q (by rw [hi.length]; exact lenMax_le k.2.1) ok.hand fun h' t kk hk => h _ (p.keep h' kk) _ k.2.2.2 (ok.keep (ok.F.keeps hk) (fun a o _ => hk a o) _) .bytes⟩
theorem E_fn {id : String} {x : Str} {e : Expr} {rest : List Expr} {pp pos : Pos} {fx : FX} {l : LX} (hO : FOk Γ) (e0 : nsIn Γ.g.K mainGlobals x = some none)
    (hf : SoundFn Γ (.builtin id) fx) (h1 : SoundL Γ (e :: rest) l)
    (hc : ∀ env, eval (.Call (.Name x pp) (e :: rest) [] pos) env = (do callWith pos (← eval (.Name x pp) env) [] (backTo pos (starEach (e :: rest) env)) (backToKw pos (keywordEach [] env))) := by exact fun _ => rfl)
    (he : ∀ env, starEach (e :: rest) env = (false, eval e env) :: starEach rest env := by exact fun _ => rfl) (hp : ∀ env, (backTo pos (starEach rest env)).any (·.1) = false := by exact fun _ => rfl) (hv : bootBuiltins x = some (.builtin id) := by rfl) (hn : x ≠ "__name__" := by decide) (hx : Γ.env.kindOf x = some .globalImplicit := by kernel_rfl) (hd : (x == ("__debug__" : Str)) = false := by kernel_rfl) :
    SoundE Γ (.Call (.Name x pp) (e :: rest) [] pos) (eFun fx l) :=
  ⟨fun p Q E K ok hx' h => Call_ (built_at hO ok e0 hv hn hx hd (PyProof.Rows.callWith_builtin1 (h1.run pos p _ E _ ok hx' fun vs q ws k st r => hf.run (p.to q) Q E K vs ws st.ok r k (h.step st)) (he _) (hp _))) (hc _)⟩
theorem E_ty {T : String} {x : Str} {e : Expr} {rest : List Expr} {pp pos : Pos} {fx : FX} {l : LX} (hO : FOk Γ) (e0 : nsIn Γ.g.K mainGlobals x = some none)
    (hf : SoundFn Γ (.type T) fx) (h1 : SoundL Γ (e :: rest) l)
    (hc : ∀ env, eval (.Call (.Name x pp) (e :: rest) [] pos) env = (do callWith pos (← eval (.Name x pp) env) [] (backTo pos (starEach (e :: rest) env)) (backToKw pos (keywordEach [] env))) := by exact fun _ => rfl)
    (he : ∀ env, starEach (e :: rest) env = (false, eval e env) :: starEach rest env := by exact fun _ => rfl) (hp : ∀ env, (backTo pos (starEach rest env)).any (·.1) = false := by exact fun _ => rfl) (hv : bootBuiltins x = some (.type T) := by rfl) (hn : x ≠ "__name__" := by decide) (hx : Γ.env.kindOf x = some .globalImplicit := by kernel_rfl) (hd : (x == ("__debug__" : Str)) = false := by kernel_rfl) :
    SoundE Γ (.Call (.Name x pp) (e :: rest) [] pos) (eFun fx l) :=
  ⟨fun p Q E K ok hx' h => Call_ (built_at hO ok e0 hv hn hx hd (PyProof.Rows.callWith_type1 (h1.run pos p _ E _ ok hx' fun vs q ws k st r => hf.run (p.to q) Q E K vs ws st.ok r k (h.step st)) (he _) (hp _))) (hc _)⟩
end
open PySem PySem.W PySem.Calls PyProof.Rows
noncomputable def kindName : Nat → String
  | 0 => "str" | 1 => "list" | _ => "dict"
noncomputable def isKind (k : Nat) (v : V) (H : Hp) : Prop := match k with
  | 0 => onStr v fun _ => True
  | 1 => onRef v fun i => atList H i fun _ => True
  | _ => onRef v fun i => atDict H i fun _ => True
noncomputable def withKind (k : Nat) (v : V) (H : Hp) (P : Prop) : Prop := match k with
  | 0 => onStr v fun _ => P
  | 1 => onRef v fun i => atList H i fun _ => P
  | _ => onRef v fun i => atDict H i fun _ => P
theorem withKind.and {k : Nat} {v : V} {H : Hp} {P : Prop} (h : withKind k v H P) : isKind k v H ∧ P := match k, v, h with
  | 0, .str _, h => ⟨trivial, h⟩
  | 1, .ref _, h => ⟨⟨h.ex.elim fun vs z => ⟨vs, z.1, trivial⟩⟩, h.ex.elim fun _ z => z.2⟩
  | _ + 2, .ref _, h => ⟨⟨h.ex.elim fun vs z => ⟨vs, z.1, trivial⟩⟩, h.ex.elim fun _ z => z.2⟩
noncomputable def eBM (k : Nat) (f : FX) (o : EX) (l : LX) : EX := fun ρ H K => o ρ H fun v H => withKind k v H (l ρ H fun vs H => f (v :: vs) H K)
noncomputable def fAppend : FX := fun vs H K => arg2 vs fun o v => onRef o fun i => atList H i fun x => x.length ≤ lenMax ∧ putAt H i (.list (x ++ [v])) (K .none)
noncomputable def fExtend : FX := fun vs H K => arg2 vs fun o v => onRef o fun i => atList H i fun x => onList v H fun y => x.length + y.length ≤ lenMax ∧ putAt H i (.list (x ++ y)) (K .none)
noncomputable def fCount : FX := fun vs H K => arg2 vs fun o c => onStr c fun c => onList o H fun x => ∃ ss, strsOf x = some ss ∧ K (.int (ss.countP (· == c) : Nat)) H
noncomputable def fIndex : FX := fun vs H K => arg2 vs fun o c => onStr c fun c => onList o H fun x => ∃ ss j, strsOf x = some ss ∧ ss.findIdx? (· == c) = some j ∧ ss.length ≤ lenMax ∧ K (.int (j : Nat)) H
noncomputable def getK (k : List Nat) : List (List Nat × V) → Option V
  | [] => none
  | p :: r => if p.1 = k then some p.2 else getK k r
noncomputable def fGet : FX := fun vs H K => arg3 vs fun o k d => onStr k fun k => onRef o fun i => atDict H i fun kvs => K ((getK k kvs).getD d) H
noncomputable def foundAt (i : Int) (o : Option Nat) : Int := match o with | some k => i + k | none => -1
noncomputable def fFind : FX := fun vs H K => arg3 vs fun x c i => onStr x fun x => onStr c fun c => onInt i fun i => on1 c fun d => (0 ≤ i ∧ i ≤ x.length) ∧ K (.int (foundAt i ((x.drop i.toNat).findIdx? (· == d)))) H
noncomputable def fJoin : FX := fun vs H K => arg2 vs fun s o => onStr s fun s => onList o H fun x => s = [] ∧ ∃ ss, strsOf x = some ss ∧ (ss.map List.length).sum + ss.length ≤ 1048576 ∧ K (.str ss.flatten) H
noncomputable def fSplit (x : List Nat) (parts : List (List Nat)) : FX := fun vs H K => arg2 vs fun s t => onStr s fun s => onStr t fun t => (s = x ∧ t = [32]) ∧ newAt H (.list (parts.map .str)) K
section
variable {Γ : FC} {p : Pt}
theorem method_at {k : Nat} {id : String} {name : Str} {pl : Sem Bool} {Q : Value × List Value → Shared → Prop} {E : QV} {v : V} {w : Value}
    (slot : _root_.PySem.Slot (kindName k) name id) (hty : typeOf (.builtin id) = pure (.type "method_descriptor")) (ok : Ok Γ p) (r : RV p.role v w) (hk : isKind k v p.H) (h : Q (.builtin id, [w]) p.s) :
    wpAny Γ.M p.A (getMethod w name pl) Q E p.s := by
  match k with
  | 0 =>
    revert h
    exact onStr.run hk r fun x t _ h => getMethod_builtin (typeIs_str _ _ _) PySem.F.plainAttrs_str slot hty (fun _ e => nomatch e) h
  | 1 =>
    revert h
    exact onRef.run hk r fun i a e k h => k.run ok.hs e fun vs ws _ rs l _ => l.elim fun nn l => getMethod_builtin ⟨_, l, rfl⟩ PySem.F.plainAttrs_list slot hty (fun a e => by cases e; exact ⟨_, l, rfl⟩) h
  | k + 2 =>
    revert h
    exact onRef.run hk r fun i a e k h => k.run ok.hs e fun kvs kws _ hne hd rk _ => getMethod_builtin hd.typeIs PySem.F.plainAttrs_dict slot hty hd.mapOf.noDict h
theorem E_bm {k : Nat} {id : String} {name : Str} {o e : Expr} {rest : List Expr} {apos pos : Pos} {pl : Env → Sem Bool} {fx : FX} {x : EX} {l : LX}
    (slot : _root_.PySem.Slot (kindName k) name id) (hty : typeOf (.builtin id) = pure (.type "method_descriptor")) (hf : SoundFn Γ (.builtin id) fx) (h0 : SoundE Γ o x) (h1 : SoundL Γ (e :: rest) l)
    (hc : ∀ env, eval (.Call (.Attribute o name apos) (e :: rest) [] pos) env = (do
      let ov ← eval o env
      standAt apos.atName
      let (f, first) ← holding [ov] (getMethod ov name (pl env))
      callWith pos f first (backTo pos (starEach (e :: rest) env)) []) := by exact fun _ => rfl)
    (he : ∀ env, starEach (e :: rest) env = (false, eval e env) :: starEach rest env := by exact fun _ => rfl) (hp : ∀ env, (backTo pos (starEach rest env)).any (·.1) = false := by exact fun _ => rfl) :
    SoundE Γ (.Call (.Attribute o name apos) (e :: rest) [] pos) (eBM k fx x l) :=
  ⟨fun p Q E K ok hx h => MethodCall_ (pl := pl Γ.env) (h0.run p _ E _ ok hx fun v q w kk st r => have kk := withKind.and kk
  method_at slot hty st.ok r kk.1 (PyProof.Rows.callWith_method1 (h1.run pos (p.to q) _ E _ st.ok kk.2 fun vs q' ws kk st' r' =>
    hf.run _ Q E K (v :: vs) (w :: ws) st'.ok (.cons (r.mono st'.X.grow) r') kk ((h.step st).step st')) (he _) (hp _))) (hc _)⟩
theorem Fn_append : SoundFn Γ (.builtin "list.append") fAppend := ⟨fun p Q E K vs ws ok rs hx h => arg2.run hx rs fun o v w x r r' k => k.run r fun i a e k => k.run ok.hs e fun vs ws _ rs l k =>
  wpAny_list_append_plain l (fun h' l' hs => l'.elim fun n lo => h _ ⟨h', p.s.toks, _, _⟩ _ k.2.run (ok.put (o := .list (vs ++ [v])) e hs lo ⟨ws ++ [x], .append (.cons r' .nil) rs, n, by rw [List.push_toArray] at lo; exact lo⟩ _) .none)
    (by rw [List.size_toArray, ← rs.length]; exact lenMax_le k.1)⟩
theorem not_long {n m : Nat} (h : n + m ≤ 1048576) : Builtin.List.listTooLong (n + m) = false := by
  unfold Builtin.List.listTooLong
  exact decide_eq_false (Nat.not_lt.2 (lenMax_le h))
theorem Fn_extend : SoundFn Γ (.builtin "list.extend") fExtend := ⟨fun p Q E K vs ws ok rs hx h => arg2.run hx rs fun o v w x r r' k => k.run r fun i a e k => k.run ok.hs e fun vs us _ rs l k => onList.run k r' ok.hs fun j b ys xs e' rs' l' k => by
  have hlt : us.toArray.size + xs.toArray.size ≤ 1048576 := by rw [List.size_toArray, List.size_toArray, ← rs.length, ← rs'.length]; exact k.1
  refine l.elim fun n lo => l'.elim fun n' lo' => call_meets PySem.F.slot_list_extend ⟨_, lo, rfl⟩ PySem.F.entry_list_extend (PySem.F.args_list_extend_2 _ _)
    (PySem.AutoSeq1.list_extend_list_list_0 a us.toArray n b xs.toArray n' (by rw [not_long hlt, Bool.and_false]; exact Bool.false_ne_true) (Nat.le_trans (Nat.le_add_right _ _) (lenMax_le hlt)) (Nat.le_succ_of_le (lenMax_le hlt))) ⟨lo, lo', ?_⟩
  have up := PySem.IsL.update lo (fun x => x ++ xs.toArray)
  exact h _ ⟨_, p.s.toks, _, _⟩ _ k.2.run (ok.put (o := .list (vs ++ ys)) e (Heap.SameBut.update ..) up ⟨us ++ xs, .append rs' rs, _, by rw [List.append_toArray] at up; exact up⟩ _) .none⟩
theorem count_strs {role : Roles} {x : List Nat} {vs : List V} : ∀ {ws : List Value} {ss : List (List Nat)}, RVs role vs ws → strsOf vs = some ss → ws.countP (eqOf · x) = ss.countP (· == x) := by
  induction vs with
  | nil => exact fun h e => h.oNil (by cases e; rfl)
  | cons v vs ih =>
    intro ws ss h e
    refine h.oCons fun w us r rs => ?_
    cases v with
    | str y =>
      obtain ⟨s', q, rfl⟩ := Option.map_eq_some_iff.1 (show (strsOf vs).map (y :: ·) = some ss from e)
      exact r.oStr fun t => by rw [List.countP_cons, List.countP_cons, ih rs q]; rfl
    | _ => cases e
theorem Fn_count : SoundFn Γ (.builtin "list.count") fCount := ⟨fun p Q E K vs ws ok rs hx h => arg2.run hx rs fun o v w x r r' k => k.run r' fun c t k => onList.run k r ok.hs fun i a ys us e rs l k => k.elim fun ss k => l.elim fun n lo =>
  call_meets PySem.F.slot_list_count ⟨_, lo, rfl⟩ PySem.F.entry_list_count (PySem.F.args_list_count_2 _ _) (SeqAt.list_countAt a us.toArray n _ _ (.str ⟨c.toArray⟩ t) (eqOf · c)) ⟨lo, in_at (strs_are rs k.1).2, by
    rw [List.toList_toArray, count_strs rs k.1]
    exact h _ (p.tick _) _ k.2 (ok.tick _) .int⟩⟩
theorem idx_strs {role : Roles} {x : List Nat} {vs : List V} : ∀ {ws : List Value} {ss : List (List Nat)}, RVs role vs ws → strsOf vs = some ss → ss.length = ws.length ∧ ∀ (k : Nat) (h : k < ws.length), eqOf ws[k] x = (ss[k]? == some x) := by
  induction vs with
  | nil => exact fun h e => h.oNil (by cases e; exact ⟨rfl, fun _ h => absurd h (Nat.not_lt_zero _)⟩)
  | cons v vs ih =>
    intro ws ss h e
    refine h.oCons fun w us r rs => ?_
    cases v with
    | str y =>
      obtain ⟨s', q, rfl⟩ := Option.map_eq_some_iff.1 (show (strsOf vs).map (y :: ·) = some ss from e)
      have i := ih rs q
      exact r.oStr fun t => ⟨congrArg (· + 1) i.1, fun k h => match k with
        | 0 => rfl
        | k + 1 => i.2 k (Nat.lt_of_succ_lt_succ h)⟩
    | _ => cases e
theorem Fn_index : SoundFn Γ (.builtin "list.index") fIndex := ⟨fun p Q E K vs ws ok rs hx h => arg2.run hx rs fun o v w x r r' k => k.run r' fun c t k => onList.run k r ok.hs fun i a ys us e rs l k => k.elim fun ss k => k.elim fun j k => l.elim fun n lo => by
  have q := List.findIdx?_eq_some_iff_getElem.mp k.2.1
  have z := idx_strs (x := c) rs k.1
  refine q.elim fun q1 q => call_meets PySem.F.slot_list_index ⟨_, lo, rfl⟩ PySem.F.entry_list_index (PySem.F.args_list_index_2 _ _)
    (SeqAt.list_indexAt a us.toArray n _ _ (.str ⟨c.toArray⟩ t) (eqOf · c) j (Nat.lt_of_lt_of_eq q1 z.1) (Int.lt_of_lt_of_le (Int.ofNat_lt.2 (Nat.lt_of_lt_of_le q1 k.2.2.1)) (by decide)) ?_ fun m hm hlt => ?_) ⟨lo, in_at (strs_are rs k.1).2, h _ (p.tick _) _ k.2.2.2 (ok.tick _) .int⟩
  · have e := z.2 j (Nat.lt_of_lt_of_eq q1 z.1)
    rw [List.getElem?_eq_getElem q1] at e
    exact e.trans q.1
  · have e := z.2 m hm
    rw [List.getElem?_eq_getElem (Nat.lt_of_lt_of_eq hm z.1.symm)] at e
    exact e.trans (Bool.not_eq_true _ ▸ q.2 m hlt)⟩
theorem getK_rkv {role : Roles} {k : List Nat} {kvs : List (List Nat × V)} : ∀ {kws : List (Str × Value)}, RKv role kvs kws → ∀ d w, RV role d w → RV role ((getK k kvs).getD d) ((valueAt kws ⟨k.toArray⟩).getD w) := by
  induction kvs with
  | nil => rintro _ rfl d w r; exact r
  | cons x kvs ih =>
    rintro _ ⟨w', es, rfl, r, rest⟩ d w rd
    unfold valueAt
    rw [List.find?_cons, getK]
    by_cases hjk : x.1 = k
    · rw [if_pos hjk, decide_eq_true (show (⟨x.1.toArray⟩ : Str) = ⟨k.toArray⟩ by rw [hjk])]; exact r
    · rw [if_neg hjk, decide_eq_false (show ¬ ((⟨x.1.toArray⟩ : Str) = ⟨k.toArray⟩) by simpa using hjk)]; exact ih rest d w rd
theorem Fn_get : SoundFn Γ (.builtin "dict.get") fGet := ⟨fun p Q E K vs ws ok rs hx h => arg3.run hx rs fun o kx d w x y r r' r'' k => k.run r' fun c t k => onRef.run k r fun i a e k => k.run ok.hs e fun kvs kws _ hne hd rk k => by
  refine call_meetsIn PySem.F.slot_dict_get hd.typeIs PySem.F.entry_dict_get (PySem.F.args_dict_get_3 _ _ _) (meets_dict_get_default (_root_.PySem.strKind Γ.g.prog Γ.g.w) a (k := ⟨c.toArray⟩) (by simp [_root_.PySem.strKind, Value.isStrOf]) (by simpa using hne) y) ⟨_, hd.mapOf, ?_⟩
  have g := getK_rkv (k := c) rk d y r''
  have fin := fun w r => h _ (p.tick (p.s.toks + 1)) w k (ok.tick _) r
  cases e : valueAt kws ⟨c.toArray⟩ with
  | none => rw [e] at g; exact fin _ g
  | some u => rw [e] at g; exact fin _ g⟩
theorem find_eq (x : List Nat) (c : Nat) (i : Int) (h0 : 0 ≤ i) (h1 : i ≤ x.length) : Txt.find3 ⟨x.toArray⟩ ⟨#[c]⟩ i = foundAt i ((x.drop i.toNat).findIdx? (· == c)) := by
  unfold foundAt
  obtain ⟨n, rfl⟩ := Int.eq_ofNat_of_zero_le h0
  have hn := Int.ofNat_le.1 h1
  have hf : fromIndex (⟨x.toArray⟩ : Str).length (n : Int) = n := by unfold fromIndex; rw [if_neg (Int.not_lt.2 h0), Int.max_eq_right h0]; rfl
  have gd : ∀ v, (⟨x.toArray⟩ : Str).cps.getD v 0 = x.getD v 0 := fun v => by simp
  rw [Int.toNat_natCast]
  rcases StrLaws.find3_spec ⟨x.toArray⟩ c n with ⟨h, hn⟩ | ⟨k, h, ha, hb, hc, hd⟩
  · rw [h, (List.findIdx?_eq_none_iff).2]
    intro y hy
    obtain ⟨j, hj⟩ := List.getElem?_of_mem hy
    rw [List.getElem?_drop] at hj
    have := hn (n + j) (by rw [hf]; exact Nat.le_add_right _ _) (List.getElem?_eq_some_iff.mp hj).1
    rw [gd, List.getD_eq_getElem?_getD, hj] at this
    exact beq_eq_false_iff_ne.2 this
  · rw [hf] at ha hd
    obtain ⟨d, rfl⟩ := Nat.exists_eq_add_of_le ha
    have hb : n + d < x.length := hb
    have : (x.drop n).findIdx? (· == c) = some d := by
      rw [List.findIdx?_eq_some_iff_getElem]
      refine ⟨by rw [List.length_drop]; exact Nat.lt_sub_of_add_lt (Nat.add_comm n d ▸ hb), ?_, fun j hj => ?_⟩
      · rw [gd, List.getD_eq_getElem?_getD, List.getElem?_eq_getElem hb] at hc
        rw [List.getElem_drop]; exact beq_iff_eq.2 hc
      · have := hd (n + j) (Nat.le_add_right _ _) (Nat.add_lt_add_left hj n)
        rw [gd, List.getD_eq_getElem?_getD, List.getElem?_eq_getElem (Nat.lt_trans (Nat.add_lt_add_left hj n) hb)] at this
        rw [List.getElem_drop]; exact fun e => this (beq_iff_eq.1 e)
    rw [h, this]; rfl
theorem Fn_find : SoundFn Γ (.builtin "str.find") fFind := ⟨fun p Q E K vs ws ok rs hx h => arg3.run hx rs fun o kx d w x y r r' r'' k => k.run r fun s t k => k.run r' fun c t' k => k.run r'' fun i t'' k => (on1.ex k).elim fun e kk => by
  obtain ⟨rfl, k2⟩ := kk
  exact SC.find3 (by rw [show (⟨[e].toArray⟩ : Str) = ⟨#[e]⟩ from rfl, find_eq s e i k2.1.1 k2.1.2]; exact h _ (p.tick _) _ k2.2 (ok.tick _) .int)⟩
theorem strs_StrsAre {role : Roles} {vs : List V} : ∀ {ws : List Value} {ss : List (List Nat)}, RVs role vs ws → strsOf vs = some ss → StrsAre ws (ss.map fun l => ⟨l.toArray⟩) := by
  induction vs with
  | nil => exact fun h e => h.oNil (by cases e; exact .nil)
  | cons v vs ih =>
    intro ws ss h e
    refine h.oCons fun w us r rs => ?_
    cases v with
    | str y =>
      obtain ⟨s', q, rfl⟩ := Option.map_eq_some_iff.1 (show (strsOf vs).map (y :: ·) = some ss from e)
      exact r.oStr fun t => .cons ⟨y.toArray⟩ t (ih rs q)
    | _ => cases e
theorem glue_fold (r : List (List Nat)) : ∀ (acc : Array Nat), (r.map fun l => (⟨l.toArray⟩ : Str)).foldl (fun acc p => acc ++ (⟨#[]⟩ : Str).cps ++ p.cps) acc = acc ++ r.flatten.toArray := by
  induction r with
  | nil => intro acc; simp
  | cons y r ih => intro acc; rw [List.map_cons, List.foldl_cons, ih]; simp
theorem glued_flat (ss : List (List Nat)) : Txt.join ⟨#[]⟩ (ss.map fun l => ⟨l.toArray⟩) = ⟨ss.flatten.toArray⟩ := by
  unfold Txt.join Builtin.Str.glued
  cases ss with
  | nil => rfl
  | cons x r =>
    show (⟨List.foldl _ x.toArray ((x :: r).map _ |>.drop 1)⟩ : Str) = _
    rw [List.map_cons, List.drop_one, List.tail_cons, glue_fold]
    simp
theorem Fn_join : SoundFn Γ (.builtin "str.join") fJoin := ⟨fun p Q E K vs ws ok rs hx h => arg2.run hx rs fun o v w x r r' k => k.run r fun s t k => onList.run k r' ok.hs fun i a ys us e rs l k => by
  refine k.2.elim fun ss k2 => ?_
  rw [k.1]
  refine join_listW l.isList (by rw [List.toList_toArray]; exact strs_StrsAre rs k2.1) (Nat.zero_le _) ?_ fun t' tk => ?_
  · show ((List.map (fun x => Str.length x) (ss.map fun l => (⟨l.toArray⟩ : Str))).sum + _) ≤ _
    rw [List.map_map, List.length_map]; exact k2.2.1
  · rw [show (⟨([] : List Nat).toArray⟩ : Str) = ⟨#[]⟩ from rfl, glued_flat]
    exact h _ (p.tick _) _ k2.2.2 (ok.tick _) .str⟩
theorem strs_rvs {role : Roles} (parts : List (List Nat)) : ∀ (l : List (Str × Tok)), l.map (·.1) = parts.map (fun p => (⟨p.toArray⟩ : Str)) → RVs role (parts.map .str) (strValues l) := by
  induction parts with
  | nil =>
    intro l h
    cases l with
    | nil => exact .nil
    | cons _ _ => cases h
  | cons p ps ih =>
    intro l h
    cases l with
    | nil => cases h
    | cons x l =>
      obtain ⟨y, t⟩ := x
      rw [List.map_cons, List.map_cons] at h
      obtain rfl := (List.cons.inj h).1
      exact .cons .str (ih l (List.cons.inj h).2)
theorem Fn_split {x : List Nat} {parts : List (List Nat)} (hp : Txt.split ⟨x.toArray⟩ ⟨#[32]⟩ = parts.map fun p => (⟨p.toArray⟩ : Str)) (hl : x.length ≤ 1000) : SoundFn Γ (.builtin "str.split") (fSplit x parts) := ⟨fun p Q E K vs ws ok rs hx h =>
  arg2.run hx rs fun o v w x r r' k => k.run r fun s t k => k.run r' fun c t' k => by
    obtain ⟨⟨rfl, rfl⟩, k2⟩ := k
    refine PySem.W.KSpl.split1 (y := ⟨[32].toArray⟩) ok.F (news_newsOf (role := p.role) _ _) (by rfl) (fun D l h' tk e1 _ F' N' lt => ?_) (lenMax_le (Nat.le_trans (Nat.add_le_add_right hl 2) (by decide)))
    have n1 := N' _ (.head _)
    exact h _ ⟨h', tk, _, _⟩ _ k2.run (ok.newlist (ok.fresh n1.2.2 fun o q => absurd (lt _ q) (Nat.lt_irrefl _)) F' (kept_of_news ok.own ok.F.keep F'.keep fun p hp => N' p (.tail _ hp)) n1.1 ⟨n1.2.2, n1.2.1⟩ (strs_rvs parts l (by rw [e1]; exact hp)) _) (.ref (upd_self ..))⟩
end
open PySem PySem.W PySem.Calls PyProof.Rows
noncomputable def eDict (kvs : List (List Nat × List Nat)) : EX := fun ρ H K => newAt H (.dict (kvs.map fun p => (p.1, .str p.2))) K
noncomputable abbrev KC := (List Nat × Nat × Pos) × (List Nat × Nat × Pos)
noncomputable abbrev strE (c : List Nat × Nat × Pos) : Expr := .Constant (.str ⟨c.1.toArray⟩) c.2.1 c.2.2
noncomputable def pairsOf (items : List KC) (pos : Pos) (env : Env) : List (Sem Value × Sem Value) := items.map fun c => (eval (strE c.1) env, do let x ← eval (strE c.2) env; standAt pos; pure x)
section
variable {Γ : FC} {p : Pt}
theorem pairs_wp {prog : Program} {w : World} {A : Around} {E : QV} {pos : Pos} {env : Env} (items : List KC) : ∀ (s : Shared) (Q : List (Value × Value) → Shared → Prop),
    (∀ vs kws t', Carries (_root_.PySem.strKind prog w) vs kws → kws.map (·.1) = (items.map fun c => (⟨c.1.1.toArray⟩ : Str)) → (∀ role : Roles, RKv role (items.map fun c => (c.1.1, .str c.2.1)) kws) → Q vs { s with toks := t' }) → wpAny (model prog w) A (evalPairs (pairsOf items pos env)) Q E s := by
  induction items with
  | nil => exact fun s Q h => evalPairs_nil (h [] [] s.toks trivial rfl fun _ => rfl)
  | cons c cs ih =>
    exact fun s Q h => evalPairs_cons (wpAny_Constant_str (wpAny_bind (wpAny_Constant_str (wpAny_bind (wpAny_standAt (wpAny_pure (ih _ _ fun vs kws t' hc hk hr =>
      h ((.str ⟨c.1.1.toArray⟩ _, .str ⟨c.2.1.toArray⟩ _) :: vs) ((⟨c.1.1.toArray⟩, .str ⟨c.2.1.toArray⟩ _) :: kws) t' ⟨by simp [_root_.PySem.strKind, Value.isStrOf], rfl, hc⟩ (congrArg (_ :: ·) hk) fun role => ⟨_, _, rfl, .str, hr role⟩)))))))
theorem merged_nodup {K : Type} [DecidableEq K] (more : List (K × Value)) : ∀ (acc : List (K × Value)), ((acc ++ more).map (·.1)).Nodup → merged acc more = acc ++ more := by
  induction more with
  | nil => exact fun acc _ => (List.append_nil _).symm
  | cons p more ih =>
    intro acc h
    have hn : stored acc p.1 p.2 = acc ++ [p] := by
      unfold stored
      rw [if_neg]
      intro q
      obtain ⟨kv, hkv, e⟩ := List.any_eq_true.mp q
      rw [List.map_append, List.nodup_append] at h
      exact h.2.2 kv.1 (List.mem_map_of_mem hkv) p.1 (.head _) (of_decide_eq_true e)
    show merged (stored acc p.1 p.2) more = _
    rw [hn, ih _ (by rw [List.append_assoc]; exact h), List.append_assoc]; rfl
theorem not_modules (hO : FOk Γ) (ok : Ok Γ p) : p.s.heap.objs.size ≠ sysModules := fun q => by
  obtain ⟨mc', ns, _⟩ := hO.T.nolimit
  have h1 := ns.lt
  obtain ⟨o, es, ep, ho, _⟩ := ns
  have h2 := Heap.lt_size (ok.F.keep _ _ ho)
  rw [q] at h2
  exact absurd h2 (by decide)
theorem E_dict {keys : List (Option Expr)} {values : List Expr} {pos : Pos} {items : List KC} (hO : FOk Γ)
    (hsh : ∀ env, (evalEachOpt keys env).zip ((evalEach values env).map fun v => do let x ← v; standAt pos; pure x) = (pairsOf items pos env).map fun p => (some p.1, p.2))
    (h0 : items ≠ []) (hlen : items.length ≤ 15) (hnd : (items.map fun c => c.1.1).Nodup) :
    SoundE Γ (.Dict keys values pos) (eDict (items.map fun c => (c.1.1, c.2.1))) := ⟨fun p Q E K ok hx h => by
  refine wpAny_Dict_pairs (knd := _root_.PySem.strKind Γ.g.prog Γ.g.w) (hsh _) (by simpa [pairsOf] using h0) (by simpa [pairsOf] using hlen) (pairs_wp items _ _ fun vs kws t' hc hk hr => ⟨kws, hc, Heap.DictOf.new _, fun h' hd hs => ?_⟩)
  have kp : ∀ b o, p.s.heap.get? b = some o → h'.get? b = some o := fun b o e => (hs.2 b (Nat.ne_of_lt (Heap.lt_size e))).trans (Heap.get?_push_of_some _ e)
  have hm : merged [] kws = kws := merged_nodup kws [] (by
    rw [List.nil_append, hk]
    have : (fun c : KC => (⟨c.1.1.toArray⟩ : Str)) = (fun l : List Nat => (⟨l.toArray⟩ : Str)) ∘ fun c : KC => c.1.1 := rfl
    rw [this, ← List.map_map]
    exact List.pairwise_map.mpr (List.Pairwise.imp (fun hab e => hab (by simpa using e)) hnd))
  rw [hm] at hd
  have fr := fresh_none ok.hs (Nat.le_refl p.s.heap.objs.size)
  have k : Kept p.role p.s.heap h' := fun b o _ e => kp b o e
  exact hd.elim fun ox z => z.elim fun _ z => z.elim fun _ z => h _ ⟨h', _, _, _⟩ _ hx.run (ok.ste ⟨ok.F.keeps kp, ok.own.upd (frFresh ok.F (Nat.le_refl _)), ok.hs.alloc (o := .dict _) fr k z.1 ⟨not_modules hO ok, kws, hd, by rw [List.map_map]; exact hr _⟩, .upd fr k⟩) (.ref (upd_self ..))⟩
theorem E_free {i : Nat} {x : Str} {c : Addr} {pos : Pos} (hO : FOk Γ) (hs : Γ.slots[i]? = some (.cel x c)) (hl : Γ.env.cells.lookup x = some c) (hx : Γ.env.kindOf x = some .free)
    (hd : (x == ("__debug__" : Str)) = false) (hn : (x == ("__classdict__" : Str)) = false) : SoundE Γ (.Name x pos) (eLoc i) :=
  ⟨fun p Q E K ok hx' h => slot_at ok hs hx' fun v k r => r.elim fun w r => r.elim fun o r =>
    wpAny_Name (wpAny_loadName_free (env_kind hO) hx hl ⟨o, r.1, r.2.1⟩ (h v (p.tick p.s.toks) w k (ok.tick _) r.2.2) hn) hd⟩
noncomputable def slotOf (scope : Scope) (n : Nat) (x : Str) : Slot := match (cellsFrom n scope.names []).lookup x with
  | some c => .cel x c
  | none => .loc x
theorem slotOf_at (scope : Scope) (n : Nat) (x : Str) : ((cellsFrom n scope.names []).lookup x = none ∧ slotOf scope n x = .loc x) ∨ ∃ c, (cellsFrom n scope.names []).lookup x = some c ∧ slotOf scope n x = .cel x c := by
  unfold slotOf
  cases (cellsFrom n scope.names []).lookup x with
  | none => exact .inl ⟨rfl, rfl⟩
  | some c => exact .inr ⟨c, rfl, rfl⟩
theorem slotOf_key (scope : Scope) (n : Nat) (x : Str) : (slotOf scope n x).key.2 = x := (slotOf_at scope n x).elim (fun z => z.2 ▸ rfl) fun z => z.elim fun c z => z.2 ▸ rfl
theorem mem_of_lookup {x : Str} {c : Addr} {cs : List (Str × Addr)} (h : cs.lookup x = some c) : (x, c) ∈ cs := by
  induction cs with
  | nil => cases h
  | cons q r ih =>
    rw [List.lookup_cons] at h
    by_cases e : x = q.1
    · rw [e, beq_self_eq_true] at h
      cases h
      rw [e]; exact .head _
    · rw [beq_eq_false_iff_ne.2 e] at h; exact .tail _ (ih h)
theorem cells_get {cm : Str → Option Value} {x : Str} {c : Addr} {cs : List (Str × Addr)} {cells : List (Addr × Obj)} (h : CellsAre cm cs cells) (hm : (x, c) ∈ cs) : ∃ o, (c, o) ∈ cells ∧ o.data = .cell (cm x) := by
  induction h with
  | nil => cases hm
  | cons hd r ih =>
    rcases List.mem_cons.mp hm with e | e
    · cases e; exact ⟨_, .head _, hd⟩
    · exact (ih e).elim fun o y => ⟨o, .tail _ y.1, y.2⟩
theorem cells_back {cm : Str → Option Value} {c : Addr} {o : Obj} {cs : List (Str × Addr)} {cells : List (Addr × Obj)} (h : CellsAre cm cs cells) (hm : (c, o) ∈ cells) : ∃ x, (x, c) ∈ cs := by
  induction h with
  | nil => cases hm
  | cons hd r ih =>
    rcases List.mem_cons.mp hm with e | e
    · cases e; exact ⟨_, .head _⟩
    · exact (ih e).elim fun o y => ⟨o, .tail _ y⟩
theorem cellsFrom_above {x : Str} {c : Addr} (names : List (Str × NameKind)) : ∀ (n : Nat) (acc : List (Str × Addr)), (x, c) ∈ cellsFrom n names acc → n ≤ c ∨ (x, c) ∈ acc := by
  induction names with
  | nil => exact fun _ _ h => .inr h
  | cons q r ih =>
    intro n acc h
    unfold cellsFrom at h
    split at h
    · rcases ih _ _ h with q | q
      · exact .inl (Nat.le_of_succ_le q)
      · rcases List.mem_cons.mp q with e | e
        · cases e; exact .inl (Nat.le_refl _)
        · exact .inr e
    · exact ih _ _ h
theorem zip_ne {x : Str} {xs : List Str} {ws : List Value} (h : x ∉ xs) : ∀ p ∈ xs.zip ws, p.1 ≠ x := fun p hp q => h (q ▸ (List.of_mem_zip (a := p.1) (b := p.2) hp).1)
theorem bindL_c (kd : Str → Option NameKind) (q : Str × Value) (r : List (Str × Value)) (m : Str → Option Value) : bindL kd (q :: r) m = bindL kd r (if kd q.1 = some .local then fun y => if y = q.1 then some q.2 else m y else m) := rfl
theorem bindC_c (kd : Str → Option NameKind) (q : Str × Value) (r : List (Str × Value)) (m : Str → Option Value) : bindC kd (q :: r) m = bindC kd r (if kd q.1 = some .local then m else fun y => if y = q.1 then some q.2 else m y) := rfl
theorem bindL_out (kd : Str → Option NameKind) {x : Str} (b : List (Str × Value)) : ∀ (m : Str → Option Value), (∀ p ∈ b, p.1 ≠ x) → bindL kd b m x = m x := by
  induction b with
  | nil => exact fun m _ => rfl
  | cons q r ih =>
    intro m h
    rw [bindL_c, ih _ (fun p hp => h p (.tail _ hp))]
    have : x ≠ q.1 := Ne.symm (h q (.head _))
    split <;> simp [this]
theorem bindC_out (kd : Str → Option NameKind) {x : Str} (b : List (Str × Value)) : ∀ (m : Str → Option Value), (∀ p ∈ b, p.1 ≠ x) → bindC kd b m x = m x := by
  induction b with
  | nil => exact fun m _ => rfl
  | cons q r ih =>
    intro m h
    rw [bindC_c, ih _ (fun p hp => h p (.tail _ hp))]
    have : x ≠ q.1 := Ne.symm (h q (.head _))
    split <;> simp [this]
theorem bindLC_in (kd : Str → Option NameKind) {x : Str} {w : Value} (xs : List Str) : ∀ (ws : List Value) (i : Nat) (m : Str → Option Value), xs.Nodup → xs[i]? = some x → ws.toArray[i]? = some w →
    (kd x = some .local → bindL kd (xs.zip ws) m x = some w) ∧ (kd x ≠ some .local → bindC kd (xs.zip ws) m x = some w) := by
  induction xs with
  | nil => exact fun _ _ _ _ h => nomatch h
  | cons y ys ih =>
    intro ws i m nd h1 h2
    cases ws with
    | nil => simp at h2
    | cons u us =>
      have nd := List.nodup_cons.mp nd
      rw [List.zip_cons_cons]
      cases i with
      | zero =>
        cases h1; simp at h2; subst h2
        exact ⟨fun hk => by rw [bindL_c, bindL_out kd _ _ (zip_ne nd.1), if_pos hk]; simp, fun hk => by rw [bindC_c, bindC_out kd _ _ (zip_ne nd.1), if_neg hk]; simp⟩
      | succ i =>
        have h2 : us.toArray[i]? = some w := by simpa using h2
        exact ⟨fun hk => by rw [bindL_c]; exact (ih us i _ nd.2 h1 h2).1 hk, fun hk => by rw [bindC_c]; exact (ih us i _ nd.2 h1 h2).2 hk⟩
theorem F_cells {g : GC} {n : Nat} {f : Addr} {fo : Obj} {name qual : Str} {params : Arguments} {body : List Stmt} {scope : Scope} {dV kV doc pm cdv ct : Value} {an : Option Addr} {names rest : List Str} {xb : SX} {pad : List V → Option (List V)}
    (ho : g.K.lookup f = some fo) (hd : fo.data = .func (fnX name qual params body scope [] dV kV doc pm an cdv ct)) (hcd : codeIn g.K cdv qual = true)
    (hb : ∀ (s : Shared) role vs ws us, g.K.In s.heap → RVs role vs ws → pad vs = some us → ∃ ws', RVs role us ws' ∧ us.length = names.length ∧ BindsTo s (fnX name qual params body scope [] dV kV doc pm an cdv ct) ⟨ws, []⟩ (names.zip ws'))
    (hkd : ∀ x ∈ names, (scope.names.lookup x = some .local ∧ ∀ n, (cellsFrom n scope.names []).lookup x = none) ∨ (scope.names.lookup x = some .cell ∧ ∀ n, ((cellsFrom n scope.names []).lookup x).isSome = true))
    (hnd : (names ++ rest).Nodup) (hnc : ((cellsFrom 0 scope.names []).map (·.1)).Nodup) (hco : scope.isCoroutine = false) (hgen : scope.isGenerator = false) (hk : scope.kind = .function)
    (hbody : ∀ (base h₀ : Heap) (outer : List Env) (A₀ : Around) (L : Addr), FOk ⟨g, n, base, h₀, outer, A₀, L, f, qual, scope, cdv, cellsFrom (L + 1) scope.names [], none, (names ++ rest).map (slotOf scope (L + 1))⟩ →
      SoundB ⟨g, n, base, h₀, outer, A₀, L, f, qual, scope, cdv, cellsFrom (L + 1) scope.names [], none, (names ++ rest).map (slotOf scope (L + 1))⟩ body xb) :
    SoundF g (n + 1) f (runF rest.length pad xb) := ⟨fun Γ p R K vs ws hg hO ok rvs hx h => (onSome.ex hx).elim fun us hx => by
  subst hg
  obtain ⟨ws', rv', hlen, hbind⟩ := hb p.s p.role vs ws us (hO.X.keeps ok.F.keep) rvs hx.1
  have hnn : names.Nodup := (List.nodup_append.mp hnd).1
  refine callX_cells hO.B ok.F (news_newsOf (role := p.role) _ _) hO.T.nolimit ok.fr rfl hO.hk ((hO.X.keeps ok.F.keep) _ _ ho) hd (codeRec_of (hO.X.keeps ok.F.keep) hcd) (by have := ok.dep; omega) hbind
    (fun k x hx => (hkd x.1 (List.of_mem_zip (a := x.1) (b := x.2) hx).1).imp (·.1) fun q => ⟨q.1, q.2 k⟩) hnc (fun gH L' h₁ tk cells FG F' N' CA B' st lt => ?_) hco hgen hk
  let Γ' : FC := ⟨Γ.g, n, Γ.base, gH, Γ.fenv :: Γ.outer, p.A, L', f, qual, scope, cdv, cellsFrom (L' + 1) scope.names [], none, (names ++ rest).map (slotOf scope (L' + 1))⟩
  have hcel : ∀ x c, Slot.cel x c ∈ Γ'.slots → ∃ o, (c, o) ∈ cells ∧ o.data = .cell (bindC (envOfC qual scope L' f cdv).kindOf (names.zip ws') (fun _ => none) x) := fun x c h => (List.mem_map.mp h).elim fun y z => (slotOf_at scope (L' + 1) y).elim
    (fun w => by have := w.2.symm.trans z.2; cases this) fun w => w.elim fun c' w => by
      have e := w.2.symm.trans z.2
      cases e
      exact cells_get CA (mem_of_lookup w.1)
  have hO' : FOk Γ' := ⟨B', hO.X.keeps st, hO.T.keeps st, hk, (fun _ _ _ q => (nomatch q)), by
      show (((names ++ rest).map (slotOf scope (L' + 1))).map Slot.key).Nodup
      rw [List.map_map]
      refine List.pairwise_map.mpr (List.Pairwise.imp (fun {a b} hab e => hab ?_) hnd)
      have e : (slotOf scope (L' + 1) a).key = (slotOf scope (L' + 1) b).key := e
      rw [← slotOf_key scope (L' + 1) a, e, slotOf_key], hO.tabs, hO.inj, (fun _ x hx => (List.mem_map.mp hx).elim fun y z => (slotOf_at scope (L' + 1) y).elim (fun w => by have := w.2.symm.trans z.2; cases this) fun w => w.elim fun c w => by have := w.2.symm.trans z.2; cases this), (fun _ _ _ q => (nomatch q))⟩
  have Nold : News gH L' h₁ (newsOf p.role Γ.h₀ p.s.heap Γ.L) := fun p hp => N' p (List.mem_append_right _ hp)
  have k : Kept p.role p.s.heap h₁ := kept_of_news ok.own ok.F.keep (fun b o q => F'.keep b o (st b o q)) Nold
  let S : Addr → Prop := fun a => ∃ o, (a, o) ∈ cells
  have new : ∀ a, S a → a ≠ L' ∧ gH.get? a = none := fun a h => h.elim fun o h => (N' _ (List.mem_append_left _ h)).2
  have hcn : ∀ a, S a → p.role a = .none := fun a h => h.elim fun o h1 => (cells_back CA h1).elim fun x h2 =>
    ok.fresh (Option.eq_none_iff_forall_ne_some.2 fun ob q => by have := st a ob q; rw [(N' _ (List.mem_append_left _ h1)).2.2] at this; cases this) fun ob q =>
      absurd (Nat.lt_trans (lt _ q) ((cellsFrom_above _ _ _ h2).resolve_right fun q => nomatch q)) (Nat.lt_irrefl _)
  have gr := Grow.markP hcn
  have rv2 := rv'.mono gr
  let p' : Pt := ⟨p.A.deeper (envOfC qual scope L' f cdv), { p.s with heap := h₁, toks := tk }, markP S p.role, bindL (envOfC qual scope L' f cdv).kindOf (names.zip ws') fun _ => none, fun _ => none, us.map some ++ List.replicate rest.length none, p.H⟩
  have ok' : Ok Γ' p' :=
    ⟨⟨by show p.A.frames.map (envOfC qual scope L' f cdv :: ·) = _; rw [ok.fr]; rfl, by show p.A.depth + 1 + 4 * n + 4 < _; have := ok.dep; omega, by show p.A.units + 3 + 16 * n + 16 < _; have := ok.un; omega, ok.hand, F',
      fun a ha => by
        by_cases q : S a
        · exact .inl ⟨(new a q).2, (new a q).1⟩
        · exact (ok.own.move ok.hs.live Nold hO'.tab) a fun z => ha ((mark_out q).trans z),
      ok.hs.markP hcn k fun a q => q.elim fun o q => ⟨o, (N' _ (List.mem_append_left _ q)).1⟩⟩,
      (fun i v hi => by
        by_cases hil : i < us.length
        · have hi : (us.map some ++ List.replicate rest.length none)[i]? = some (some v) := hi
          rw [List.getElem?_append_left (by simpa using hil), List.getElem?_map] at hi
          obtain ⟨u', hu', e'⟩ := Option.map_eq_some_iff.mp hi
          cases e'
          have hin : i < names.length := hlen ▸ hil
          have hnx : names[i]? = some names[i] := List.getElem?_eq_getElem hin
          refine (rv2.get i v hu').elim fun w y => ⟨_, by show ((names ++ rest).map (slotOf scope (L' + 1)))[i]? = _; rw [List.getElem?_map, List.getElem?_append_left hin, hnx]; rfl, ?_⟩
          have bl := bindLC_in (envOfC qual scope L' f cdv).kindOf names ws' i (fun _ => none) hnn hnx y.1
          rcases hkd names[i] (List.getElem_mem hin) with q | q
          · rw [(slotOf_at scope (L' + 1) names[i]).elim (·.2) fun z => z.elim fun c z => by rw [q.2] at z; cases z.1]
            exact ⟨w, bl.1 q.1, y.2⟩
          · rcases slotOf_at scope (L' + 1) names[i] with z | ⟨c, z⟩
            · have := q.2 (L' + 1); rw [z.1] at this; cases this
            · rw [z.2]
              exact (cells_get CA (mem_of_lookup z.1)).elim fun o c => ⟨w, o, (N' _ (List.mem_append_left _ c.1)).1, by rw [c.2, bl.2 fun e => by have := q.1.symm.trans e; cases this], y.2⟩
        · have hi : (us.map some ++ List.replicate rest.length none)[i]? = some (some v) := hi
          rw [List.getElem?_append_right (by simpa using hil), List.getElem?_replicate] at hi
          split at hi <;> cases hi),
      fun x c hc => (hcel x c hc).elim fun o z => ⟨mark_in ⟨o, z.1⟩, o, _, (N' _ (List.mem_append_left _ z.1)).1, z.2⟩, fun _ _ _ q => nomatch q⟩
  have fin : ∀ (v : V) (q : Nxs) (w : Value), K v q.H → Sts Γ' p' q → RV q.role v w → LeaveK Γ.h₀ Γ.L p.m gH R w (At p.s q.h q.t) := fun v q w kk st' r =>
    leaveK_ st'.ok.F (news_newsOf (role := q.role) _ _) fun F N => h v ⟨q.h, q.t, q.role, q.H⟩ w kk ⟨F, st'.ok.own.move st'.ok.hs.live N hO.tab, st'.ok.hs, gr.trans st'.X.grow, fun a o ha _ eo => by
      have hn : ¬ S a := fun q => by rw [hcn a q] at ha; cases ha
      exact st'.X.tmp a o ((mark_out hn).trans ha) (fun q => hn ((cells_mem.mp q).elim fun x hx => (hcel x a hx).elim fun o z => ⟨o, z.1⟩)) (k a o (by rw [ha]; simp) eo)⟩ r
  exact (hbody Γ.base gH (Γ.fenv :: Γ.outer) p.A L' hO').run _ _ _ _ _ ok' hx.2 (fun q kk st' => fin .none q .none kk st' .none) fun v q w kk st' r => fin v q w kk st' r⟩
end
open PySem PySem.W PySem.Calls PyProof.Rows
noncomputable def stName : Stmt → Str
  | .FunctionDef (name := x) .. => x
  | _ => ⟨#[]⟩
noncomputable def stArgs : Stmt → Arguments
  | .FunctionDef (args := x) .. => x
  | _ => default
noncomputable def stBody : Stmt → List Stmt
  | .FunctionDef (body := x) .. => x
  | .ClassDef (body := x) .. => x
  | _ => []
noncomputable def stScope : Stmt → Scope
  | .FunctionDef (scope := x) .. => x
  | _ => default
noncomputable def fnS (k : Nat) : Stmt := (PySem.Challenge.pw_pc0137_01.main.body[k]?).getD (.Pass default)
noncomputable def mtS (k j : Nat) : Stmt := ((stBody (fnS k))[j]?).getD (.Pass default)
noncomputable def FnOk (g : GC) (f : Addr) (st : Stmt) (qual : Str) : Prop :=
  ∃ fo dV doc pm cdv, g.K.lookup f = some fo ∧ fo.data = .func (fnX (stName st) qual (stArgs st) (stBody st) (stScope st) [] dV .none doc pm none cdv .none) ∧ codeIn g.K cdv qual = true ∧ ((stArgs st).defaults = [] → dV = .none)
noncomputable def padN (k : Nat) : List V → Option (List V) := fun vs => if vs.length = k then some vs else none
noncomputable def allArgs : Nat → (List Value → Prop) → Prop
  | 0, P => P []
  | k + 1, P => ∀ a, allArgs k fun ws => P (a :: ws)
theorem allArgs.at {k : Nat} : ∀ {P : List Value → Prop}, allArgs k P → ∀ ws, ws.length = k → P ws := by
  induction k with
  | zero => exact fun h ws e => List.eq_nil_of_length_eq_zero e ▸ h
  | succ k ih =>
    intro P h ws e
    cases ws with
    | nil => cases e
    | cons a ws => exact ih (h a) ws (Nat.succ.inj e)
theorem hb_of {g : GC} {fd : FuncData} {names : List Str} {k : Nat} (hn : names.length = k) (h : allArgs k fun ws => bindArgs fd ⟨ws, []⟩ = pure (names.zip ws)) :
    ∀ (s : Shared) (role : Roles) (vs : List V) (ws : List Value) (us : List V), g.K.In s.heap → RVs role vs ws → padN k vs = some us → ∃ ws', RVs role us ws' ∧ us.length = names.length ∧ BindsTo s fd ⟨ws, []⟩ (names.zip ws') := fun s role vs ws us _ rv e => by
  unfold padN at e
  split at e
  · rename_i hl
    cases e
    exact ⟨ws, rv, hl.trans hn.symm, .of_eq (h.at ws (rv.length ▸ hl))⟩
  · cases e
structure Loc (Γ : FC) (i : Nat) (x : Str) : Prop where
  ok : FOk Γ
  slot : Γ.slots[i]? = some (.loc x)
  comp : Γ.comp = none
  kind : Γ.fenv.kindOf x = some .local
  ne : (x == ("__debug__" : Str)) = false
structure Cel (Γ : FC) (i : Nat) (x : Str) (c : Addr) : Prop where
  slot : Γ.slots[i]? = some (.cel x c)
  comp : Γ.comp = none
  kind : Γ.fenv.kindOf x = some .cell
  look : Γ.cl.lookup x = some c
  ne : (x == ("__debug__" : Str)) = false
structure Cmp (Γ : FC) (i : Nat) (x : Str) : Prop where
  ok : FOk Γ
  slot : Γ.slots[i]? = some (.cmp x)
  comp : ∃ sc C cl', Γ.comp = some (sc, C, cl')
  kind : Γ.env.kindOf x = some .local
  ne : (x == ("__debug__" : Str)) = false
structure Glob (Γ : FC) (x : Str) : Prop where
  kind : Γ.env.kindOf x = some .globalImplicit
  ne : (x == ("__debug__" : Str)) = false
section
variable {Γ : FC} {i : Nat} {x : Str} {c : Addr} {p pos : Pos}
theorem mkL (hO : FOk Γ) (i : Nat) (x : Str) (a : Γ.slots[i]? = some (.loc x) := by rfl) (b : Γ.comp = none := by rfl) (c : Γ.fenv.kindOf x = some .local := by kernel_rfl) (d : (x == ("__debug__" : Str)) = false := by kernel_rfl) : Loc Γ i x := ⟨hO, a, b, c, d⟩
theorem mkC (hO : FOk Γ) (i : Nat) (x : Str) (a : Γ.slots[i]? = some (.cmp x) := by rfl) (b : ∃ sc C cl', Γ.comp = some (sc, C, cl') := by exact ⟨_, _, _, rfl⟩) (c : Γ.env.kindOf x = some .local := by kernel_rfl) (d : (x == ("__debug__" : Str)) = false := by kernel_rfl) : Cmp Γ i x := ⟨hO, a, b, c, d⟩
theorem Loc.e (k : Loc Γ i x) : SoundE Γ (.Name x pos) (eLoc i) := E_loc k.ok k.slot k.comp k.kind k.ne
theorem e_cel (hO : FOk Γ) (k : Cel Γ i x c) : SoundE Γ (.Name x pos) (eLoc i) :=
  E_cel hO k.1 (by rw [env_of k.comp]; exact k.look) (by rw [env_of k.comp]; exact k.kind) k.ne
theorem Cmp.e (k : Cmp Γ i x) : SoundE Γ (.Name x pos) (eLoc i) := k.comp.elim fun sc e => e.elim fun C e => e.elim fun cl e => E_cmp k.ok k.slot e k.kind k.ne
theorem Loc.s (k : Loc Γ i x) : SoundSt Γ i x := St_loc k.ok k.slot k.comp k.kind
theorem Loc.n (k : Loc Γ i x) : SoundNm Γ i x := Nm_of k.comp k.s
theorem Cmp.n (k : Cmp Γ i x) : SoundNm Γ i x := k.comp.elim fun sc e => e.elim fun C e => e.elim fun cl e => Nm_cmp k.ok k.slot e k.kind
end
open PySem PySem.W PySem.Calls PyProof.Rows
noncomputable def anTab : List (List Nat) := [[116, 101, 120, 116], [115, 121, 109, 98, 111, 108, 115], [99, 97, 116, 101, 103, 111, 114, 121], [100, 105, 103, 105, 116, 115], [115, 99, 97, 108, 101], [105, 115, 95, 115, 105, 103, 110, 101, 100], [115, 105, 122, 101], [115, 105, 103, 110], [99, 111, 117, 110, 116], [97, 116], [115, 101, 101, 110], [105, 115, 95, 112, 108, 97, 105, 110], [112, 111, 105, 110, 116], [108, 101, 97, 100], [116, 114, 97, 105, 108], [110, 105, 110, 101, 115], [122, 101, 114, 111], [122, 101, 114, 111, 115], [102, 108, 111, 97, 116, 115], [98, 101, 104, 105, 110, 100], [105, 115, 95, 108, 97, 116, 101], [109, 111, 110, 101, 121], [108, 97, 115, 116], [105, 115, 95, 111, 118, 101, 114], [105, 115, 95, 105, 110, 115, 101, 114, 116, 101, 100], [102, 105, 103, 117, 114, 101, 115], [105, 115, 95, 110, 101, 103, 97, 116, 105, 118, 101], [102, 105, 108, 108], [110, 101, 120, 116], [102, 111, 117, 110, 100], [105, 115, 95, 99, 111, 117, 110, 116, 105, 110, 103], [105, 115, 95, 98, 101, 103, 117, 110], [115, 112, 111, 116], [97, 100, 100, 95, 98, 101, 104, 105, 110, 100], [116, 97, 107, 101, 95, 110, 105, 110, 101], [116, 97, 107, 101, 95, 122, 101, 114, 111], [116, 97, 107, 101, 95, 112, 111, 105, 110, 116], [116, 97, 107, 101, 95, 115, 99, 97, 108, 105, 110, 103], [116, 97, 107, 101, 95, 105, 110, 115, 101, 114, 116, 101, 100], [102, 108, 111, 97, 116, 95, 111, 110], [109, 97, 121, 95, 102, 108, 111, 97, 116], [116, 97, 107, 101, 95, 115, 105, 103, 110], [116, 97, 107, 101, 95, 109, 111, 110, 101, 121], [116, 97, 107, 101, 95, 101, 110, 100], [116, 97, 107, 101], [105, 115, 95, 119, 104, 111, 108, 101], [115, 117, 112, 112, 114, 101, 115, 115], [102, 105, 103, 117, 114, 101], [112, 108, 97, 99, 101]]
noncomputable def anT (k : Nat) : Str := match anTab[k]? with | some l => ⟨l.toArray⟩ | none => ⟨#[2000000 + k]⟩
noncomputable def globTab : List (Str × Value) := [(("cut_quotient" : Str), .ref 28), (("decimal" : Str), .ref 36), (("units_at" : Str), .ref 43), (("sign_at" : Str), .ref 152), (("count_at" : Str), .ref 157), (("signs_of" : Str), .ref 164), (("symbols_of" : Str), .ref 171), (("size_of_symbols" : Str), .ref 176), (("number_picture" : Str), .ref 307), (("read_picture" : Str), .ref 324), (("places" : Str), .ref 331), (("floating_sign" : Str), .ref 338), (("roles_of" : Str), .ref 345), (("is_suppressing" : Str), .ref 352), (("figures_laid" : Str), .ref 359), (("sign_text" : Str), .ref 366), (("insert_text" : Str), .ref 373), (("vanished" : Str), .ref 420), (("edited_text" : Str), .ref 427), (("edited" : Str), .ref 433), (("_law_draw" : Str), .ref 457), (("_law_inserted" : Str), .ref 464), (("_law_picture" : Str), .ref 471), (("_law_cut" : Str), .ref 476), (("_law_edited" : Str), .ref 481), (("_law_number" : Str), .ref 488), (("law" : Str), .ref 493), (("Picture" : Str), .ref 113), (("Sign" : Str), .ref 141), (("Order" : Str), .ref 298), (("Layer" : Str), .ref 411), (("SIGNS" : Str), .str ⟨([65, 66, 80, 83, 86, 88, 90, 57, 48, 47, 44, 46, 43, 45, 42, 36] : List Nat).toArray⟩ 284), (("PLAIN_SIGNS" : Str), .str ⟨([57, 32, 80, 32, 83, 32, 86] : List Nat).toArray⟩ 288), (("LAID_NOWHERE" : Str), .str ⟨([80, 32, 83, 32, 86] : List Nat).toArray⟩ 290), (("ALONE" : Str), .str ⟨([83, 32, 86, 32, 46, 32, 67, 82, 32, 68, 66] : List Nat).toArray⟩ 292), (("FIGURES" : Str), .str ⟨([48, 49, 50, 51, 52, 53, 54, 55, 56, 57] : List Nat).toArray⟩ 294), (("FIXED" : Str), .str ⟨([36, 43, 45] : List Nat).toArray⟩ 639), (("INSERTED" : Str), .str ⟨([66, 48, 47, 44] : List Nat).toArray⟩ 641), (("BLANK" : Str), .str ⟨([32] : List Nat).toArray⟩ 643), (("MOST_TEXT" : Str), .int 30 296), (("MOST_DIGITS" : Str), .int 18 298), (("MOST_SIZE" : Str), .int 9999 300), (("_law_table" : Str), .ref 450)]
noncomputable def builtTab : List Str := ["abs", "len", "max", "min", "sum", "ord", "chr", "int", "str", "list", "bytes", "enumerate", "range", "zip"]
noncomputable def keepTab : List Addr := [28, 36, 43, 152, 157, 164, 171, 176, 307, 324, 331, 338, 345, 352, 359, 366, 373, 420, 427, 433, 457, 464, 471, 476, 481, 488, 493, 113, 141, 298, 411]
noncomputable def fnTab : List (Addr × Stmt × Str) := [(28, fnS 2, ("cut_quotient" : Str)), (36, fnS 3, ("decimal" : Str)), (43, fnS 4, ("units_at" : Str)), (152, fnS 20, ("sign_at" : Str)), (157, fnS 21, ("count_at" : Str)), (164, fnS 22, ("signs_of" : Str)), (171, fnS 23, ("symbols_of" : Str)), (176, fnS 24, ("size_of_symbols" : Str)), (307, fnS 26, ("number_picture" : Str)), (324, fnS 29, ("read_picture" : Str)), (331, fnS 30, ("places" : Str)), (338, fnS 35, ("floating_sign" : Str)), (345, fnS 36, ("roles_of" : Str)), (352, fnS 37, ("is_suppressing" : Str)), (359, fnS 38, ("figures_laid" : Str)), (366, fnS 39, ("sign_text" : Str)), (373, fnS 40, ("insert_text" : Str)), (420, fnS 42, ("vanished" : Str)), (427, fnS 43, ("edited_text" : Str)), (433, fnS 44, ("edited" : Str)), (457, fnS 47, ("_law_draw" : Str)), (464, fnS 48, ("_law_inserted" : Str)), (471, fnS 49, ("_law_picture" : Str)), (476, fnS 50, ("_law_cut" : Str)), (481, fnS 51, ("_law_edited" : Str)), (488, fnS 52, ("_law_number" : Str)), (493, fnS 53, ("law" : Str)), (98, mtS 18 0, ("Picture.__init__" : Str)), (131, mtS 19 0, ("Sign.__init__" : Str)), (190, mtS 25 0, ("Order.__init__" : Str)), (197, mtS 25 1, ("Order.digits" : Str)), (204, mtS 25 2, ("Order.add_behind" : Str)), (211, mtS 25 3, ("Order.take_nine" : Str)), (218, mtS 25 4, ("Order.take_zero" : Str)), (225, mtS 25 5, ("Order.take_point" : Str)), (232, mtS 25 6, ("Order.take_scaling" : Str)), (239, mtS 25 7, ("Order.take_inserted" : Str)), (246, mtS 25 8, ("Order.float_on" : Str)), (253, mtS 25 9, ("Order.may_float" : Str)), (260, mtS 25 10, ("Order.take_sign" : Str)), (267, mtS 25 11, ("Order.take_money" : Str)), (274, mtS 25 12, ("Order.take_end" : Str)), (281, mtS 25 13, ("Order.take" : Str)), (288, mtS 25 14, ("Order.is_whole" : Str)), (295, mtS 25 15, ("Order.scale" : Str)), (387, mtS 41 0, ("Layer.__init__" : Str)), (394, mtS 41 1, ("Layer.suppress" : Str)), (401, mtS 41 2, ("Layer.figure" : Str)), (408, mtS 41 3, ("Layer.place" : Str))]
noncomputable def methTab : List (Addr × Addr × Str) := [(298, 197, ("digits" : Str)), (298, 204, ("add_behind" : Str)), (298, 211, ("take_nine" : Str)), (298, 218, ("take_zero" : Str)), (298, 225, ("take_point" : Str)), (298, 232, ("take_scaling" : Str)), (298, 239, ("take_inserted" : Str)), (298, 246, ("float_on" : Str)), (298, 253, ("may_float" : Str)), (298, 260, ("take_sign" : Str)), (298, 267, ("take_money" : Str)), (298, 274, ("take_end" : Str)), (298, 281, ("take" : Str)), (298, 288, ("is_whole" : Str)), (298, 295, ("scale" : Str)), (411, 394, ("suppress" : Str)), (411, 401, ("figure" : Str)), (411, 408, ("place" : Str))]
noncomputable def attrTab : List (Addr × Nat) := [(113, 0), (113, 1), (113, 2), (113, 3), (113, 4), (113, 5), (113, 6), (141, 7), (141, 8), (141, 9), (298, 10), (298, 11), (298, 12), (298, 13), (298, 14), (298, 15), (298, 16), (298, 17), (298, 18), (298, 19), (298, 20), (298, 7), (298, 21), (298, 22), (298, 23), (298, 24), (411, 25), (411, 26), (411, 27), (411, 28), (411, 29), (411, 30), (411, 31), (411, 32)]
noncomputable def vTable : V := .tup [.tup [.str [90, 90, 44, 90, 90, 57, 46, 57, 57], .int 1234567, .int 2, .str [49, 50, 44, 51, 52, 53, 46, 54, 55]], .tup [.str [36, 36, 44, 36, 36, 57], .int 234, .int 0, .str [32, 32, 36, 50, 51, 52]], .tup [.str [36, 42, 42, 44, 42, 42, 57, 46, 57, 57], .int 5, .int 0, .str [36, 42, 42, 42, 42, 42, 53, 46, 48, 48]], .tup [.str [45, 40, 52, 41, 57], .int (-42), .int 0, .str [32, 32, 45, 52, 50]], .tup [.str [43, 43, 43, 43], .int 0, .int 0, .str [32, 32, 32, 32]], .tup [.str [90, 90, 90, 46, 90, 90], .int 5, .int 2, .str [32, 32, 32, 46, 48, 53]], .tup [.str [42, 42, 46, 42, 42], .int 0, .int 0, .str [42, 42, 46, 42, 42]], .tup [.str [57, 57, 47, 57, 57, 47, 57, 57], .int 10203, .int 0, .str [48, 49, 47, 48, 50, 47, 48, 51]], .tup [.str [57, 40, 51, 41, 67, 82], .int (-7), .int 0, .str [48, 48, 55, 67, 82]], .tup [.str [57, 40, 51, 41, 68, 66], .int 7, .int 0, .str [48, 48, 55, 32, 32]], .tup [.str [90, 90, 57, 80, 80], .int 12345, .int 0, .str [49, 50, 51]], .tup [.str [43, 90, 90, 57], .int 0, .int 0, .str [43, 32, 32, 48]], .tup [.str [90, 44, 90, 90, 90], .int 0, .int 0, .str [32, 32, 32, 32, 32]], .tup [.str [36, 90, 90, 57, 86, 57, 57, 45], .int (-1999), .int 3, .str [36, 32, 32, 49, 57, 57, 45]], .tup [.str [43, 36, 36, 57], .int (-1234), .int 0, .str [45, 36, 51, 52]], .tup [.str [45, 57, 46, 57], .int (-1), .int 2, .str [32, 48, 46, 48]]]
noncomputable def tabT : List (Addr × List V × List Value) := [(450, [.tup [.str [90, 90, 44, 90, 90, 57, 46, 57, 57], .int 1234567, .int 2, .str [49, 50, 44, 51, 52, 53, 46, 54, 55]], .tup [.str [36, 36, 44, 36, 36, 57], .int 234, .int 0, .str [32, 32, 36, 50, 51, 52]], .tup [.str [36, 42, 42, 44, 42, 42, 57, 46, 57, 57], .int 5, .int 0, .str [36, 42, 42, 42, 42, 42, 53, 46, 48, 48]], .tup [.str [45, 40, 52, 41, 57], .int (-42), .int 0, .str [32, 32, 45, 52, 50]], .tup [.str [43, 43, 43, 43], .int 0, .int 0, .str [32, 32, 32, 32]], .tup [.str [90, 90, 90, 46, 90, 90], .int 5, .int 2, .str [32, 32, 32, 46, 48, 53]], .tup [.str [42, 42, 46, 42, 42], .int 0, .int 0, .str [42, 42, 46, 42, 42]], .tup [.str [57, 57, 47, 57, 57, 47, 57, 57], .int 10203, .int 0, .str [48, 49, 47, 48, 50, 47, 48, 51]], .tup [.str [57, 40, 51, 41, 67, 82], .int (-7), .int 0, .str [48, 48, 55, 67, 82]], .tup [.str [57, 40, 51, 41, 68, 66], .int 7, .int 0, .str [48, 48, 55, 32, 32]], .tup [.str [90, 90, 57, 80, 80], .int 12345, .int 0, .str [49, 50, 51]], .tup [.str [43, 90, 90, 57], .int 0, .int 0, .str [43, 32, 32, 48]], .tup [.str [90, 44, 90, 90, 90], .int 0, .int 0, .str [32, 32, 32, 32, 32]], .tup [.str [36, 90, 90, 57, 86, 57, 57, 45], .int (-1999), .int 3, .str [36, 32, 32, 49, 57, 57, 45]], .tup [.str [43, 36, 36, 57], .int (-1234), .int 0, .str [45, 36, 51, 52]], .tup [.str [45, 57, 46, 57], .int (-1), .int 2, .str [32, 48, 46, 48]]], [.ref 434, .ref 435, .ref 436, .ref 437, .ref 438, .ref 439, .ref 440, .ref 441, .ref 442, .ref 443, .ref 444, .ref 445, .ref 446, .ref 447, .ref 448, .ref 449]), (434, [.str [90, 90, 44, 90, 90, 57, 46, 57, 57], .int 1234567, .int 2, .str [49, 50, 44, 51, 52, 53, 46, 54, 55]], [.str ⟨([90, 90, 44, 90, 90, 57, 46, 57, 57] : List Nat).toArray⟩ 789, .int 1234567 790, .int 2 791, .str ⟨([49, 50, 44, 51, 52, 53, 46, 54, 55] : List Nat).toArray⟩ 792]),
  (435, [.str [36, 36, 44, 36, 36, 57], .int 234, .int 0, .str [32, 32, 36, 50, 51, 52]], [.str ⟨([36, 36, 44, 36, 36, 57] : List Nat).toArray⟩ 793, .int 234 794, .int 0 795, .str ⟨([32, 32, 36, 50, 51, 52] : List Nat).toArray⟩ 796]),
  (436, [.str [36, 42, 42, 44, 42, 42, 57, 46, 57, 57], .int 5, .int 0, .str [36, 42, 42, 42, 42, 42, 53, 46, 48, 48]], [.str ⟨([36, 42, 42, 44, 42, 42, 57, 46, 57, 57] : List Nat).toArray⟩ 797, .int 5 798, .int 0 799, .str ⟨([36, 42, 42, 42, 42, 42, 53, 46, 48, 48] : List Nat).toArray⟩ 800]),
  (437, [.str [45, 40, 52, 41, 57], .int (-42), .int 0, .str [32, 32, 45, 52, 50]], [.str ⟨([45, 40, 52, 41, 57] : List Nat).toArray⟩ 801, .int (-42) 803, .int 0 804, .str ⟨([32, 32, 45, 52, 50] : List Nat).toArray⟩ 805]),
  (438, [.str [43, 43, 43, 43], .int 0, .int 0, .str [32, 32, 32, 32]], [.str ⟨([43, 43, 43, 43] : List Nat).toArray⟩ 806, .int 0 807, .int 0 808, .str ⟨([32, 32, 32, 32] : List Nat).toArray⟩ 809]),
  (439, [.str [90, 90, 90, 46, 90, 90], .int 5, .int 2, .str [32, 32, 32, 46, 48, 53]], [.str ⟨([90, 90, 90, 46, 90, 90] : List Nat).toArray⟩ 810, .int 5 811, .int 2 812, .str ⟨([32, 32, 32, 46, 48, 53] : List Nat).toArray⟩ 813]),
  (440, [.str [42, 42, 46, 42, 42], .int 0, .int 0, .str [42, 42, 46, 42, 42]], [.str ⟨([42, 42, 46, 42, 42] : List Nat).toArray⟩ 814, .int 0 815, .int 0 816, .str ⟨([42, 42, 46, 42, 42] : List Nat).toArray⟩ 817]),
  (441, [.str [57, 57, 47, 57, 57, 47, 57, 57], .int 10203, .int 0, .str [48, 49, 47, 48, 50, 47, 48, 51]], [.str ⟨([57, 57, 47, 57, 57, 47, 57, 57] : List Nat).toArray⟩ 818, .int 10203 819, .int 0 820, .str ⟨([48, 49, 47, 48, 50, 47, 48, 51] : List Nat).toArray⟩ 821]),
  (442, [.str [57, 40, 51, 41, 67, 82], .int (-7), .int 0, .str [48, 48, 55, 67, 82]], [.str ⟨([57, 40, 51, 41, 67, 82] : List Nat).toArray⟩ 822, .int (-7) 824, .int 0 825, .str ⟨([48, 48, 55, 67, 82] : List Nat).toArray⟩ 826]),
  (443, [.str [57, 40, 51, 41, 68, 66], .int 7, .int 0, .str [48, 48, 55, 32, 32]], [.str ⟨([57, 40, 51, 41, 68, 66] : List Nat).toArray⟩ 827, .int 7 828, .int 0 829, .str ⟨([48, 48, 55, 32, 32] : List Nat).toArray⟩ 830]),
  (444, [.str [90, 90, 57, 80, 80], .int 12345, .int 0, .str [49, 50, 51]], [.str ⟨([90, 90, 57, 80, 80] : List Nat).toArray⟩ 831, .int 12345 832, .int 0 833, .str ⟨([49, 50, 51] : List Nat).toArray⟩ 834]),
  (445, [.str [43, 90, 90, 57], .int 0, .int 0, .str [43, 32, 32, 48]], [.str ⟨([43, 90, 90, 57] : List Nat).toArray⟩ 835, .int 0 836, .int 0 837, .str ⟨([43, 32, 32, 48] : List Nat).toArray⟩ 838]),
  (446, [.str [90, 44, 90, 90, 90], .int 0, .int 0, .str [32, 32, 32, 32, 32]], [.str ⟨([90, 44, 90, 90, 90] : List Nat).toArray⟩ 839, .int 0 840, .int 0 841, .str ⟨([32, 32, 32, 32, 32] : List Nat).toArray⟩ 842]),
  (447, [.str [36, 90, 90, 57, 86, 57, 57, 45], .int (-1999), .int 3, .str [36, 32, 32, 49, 57, 57, 45]], [.str ⟨([36, 90, 90, 57, 86, 57, 57, 45] : List Nat).toArray⟩ 843, .int (-1999) 845, .int 3 846, .str ⟨([36, 32, 32, 49, 57, 57, 45] : List Nat).toArray⟩ 847]),
  (448, [.str [43, 36, 36, 57], .int (-1234), .int 0, .str [45, 36, 51, 52]], [.str ⟨([43, 36, 36, 57] : List Nat).toArray⟩ 848, .int (-1234) 850, .int 0 851, .str ⟨([45, 36, 51, 52] : List Nat).toArray⟩ 852]),
  (449, [.str [45, 57, 46, 57], .int (-1), .int 2, .str [32, 48, 46, 48]], [.str ⟨([45, 57, 46, 57] : List Nat).toArray⟩ 853, .int (-1) 855, .int 2 856, .str ⟨([32, 48, 46, 48] : List Nat).toArray⟩ 857])]
noncomputable def padDecimal : List V → Option (List V)
  | [u] => some [u, .int 0]
  | [u, s] => some [u, s]
  | _ => none
noncomputable def padEdited : List V → Option (List V)
  | [u, s] => some [u, s, .bool false]
  | [u, s, b] => some [u, s, b]
  | _ => none
noncomputable def B_cut_quotient : SX :=
  sSeq (sIf (tCmp vNe (eBool (tCmp vLt (eLoc 0) (eCon (.int 0)))) (eBool (tCmp vLt (eLoc 1) (eCon (.int 0))))) (sSeq (sRet (eOp1 vNeg (eOp2 vDiv (eFun fAbs (lCons (eLoc 0) (lNil))) (eFun fAbs (lCons (eLoc 1) (lNil)))))) (sNil)) (sNil)) (sSeq (sRet (eOp2 vDiv (eFun fAbs (lCons (eLoc 0) (lNil))) (eFun fAbs (lCons (eLoc 1) (lNil))))) (sNil))
noncomputable def F_cut_quotient : FX := runF 0 (padN 2) B_cut_quotient
noncomputable def B_decimal : SX :=
  sSeq (sIf (tCmp vLt (eLoc 1) (eCon (.int 0))) (sSeq (sRet (eTup (lCons (eOp2 vMul (eLoc 0) (eOp2 vPow (eCon (.int 10)) (eOp1 vNeg (eLoc 1)))) (lCons (eCon (.int 0)) (lNil))))) (sNil)) (sNil)) (sSeq (sWhile (tAnd (tCmp vGt (eLoc 1) (eCon (.int 0))) (tAnd (tCmp vEq (eOp2 vMod (eLoc 0) (eCon (.int 10))) (eCon (.int 0))) (tTrue))) (sSeq (sSet 0 (eOp2 vDiv (eLoc 0) (eCon (.int 10)))) (sSeq (sSet 1 (eOp2 vSub (eLoc 1) (eCon (.int 1)))) (sNil)))) (sSeq (sRet (eTup (lCons (eLoc 0) (lCons (eLoc 1) (lNil))))) (sNil)))
noncomputable def F_decimal : FX := runF 0 (padDecimal) B_decimal
noncomputable def B_units_at : SX :=
  sSeq (sIf (tCmp vGe (eLoc 1) (eOp2 vIdx (eLoc 0) (eCon (.int 1)))) (sSeq (sRet (eOp2 vMul (eOp2 vIdx (eLoc 0) (eCon (.int 0))) (eOp2 vPow (eCon (.int 10)) (eOp2 vSub (eLoc 1) (eOp2 vIdx (eLoc 0) (eCon (.int 1))))))) (sNil)) (sNil)) (sSeq (sSet 3 (eOp2 vPow (eCon (.int 10)) (eOp2 vSub (eOp2 vIdx (eLoc 0) (eCon (.int 1))) (eLoc 1)))) (sSeq (sIf (tNot (tVal (eLoc 2))) (sSeq (sRet (eCal F_cut_quotient (lCons (eOp2 vIdx (eLoc 0) (eCon (.int 0))) (lCons (eLoc 3) (lNil))))) (sNil)) (sNil)) (sBad)))
noncomputable def F_units_at : FX := runF 2 (padN 3) B_units_at
noncomputable def B_Picture_init : SX :=
  sSeq (sSetAttr 113 0 (eLoc 0) (eLoc 1)) (sSeq (sSetAttr 113 1 (eLoc 0) (eLoc 2)) (sSeq (sSetAttr 113 2 (eLoc 0) (eLoc 3)) (sSeq (sSetAttr 113 3 (eLoc 0) (eLoc 4)) (sSeq (sSetAttr 113 4 (eLoc 0) (eLoc 5)) (sSeq (sSetAttr 113 5 (eLoc 0) (eLoc 6)) (sSeq (sSetAttr 113 6 (eLoc 0) (eLoc 7)) (sNil)))))))
noncomputable def F_Picture_init : FX := runF 0 (padN 8) B_Picture_init
noncomputable def B_Sign_init : SX :=
  sSeq (sSetAttr 141 7 (eLoc 0) (eLoc 1)) (sSeq (sSetAttr 141 8 (eLoc 0) (eLoc 2)) (sSeq (sSetAttr 141 9 (eLoc 0) (eLoc 3)) (sNil)))
noncomputable def F_Sign_init : FX := runF 0 (padN 4) B_Sign_init
noncomputable def B_sign_at : SX :=
  sSeq (sIf (tCmp vIn (eSlice (eLoc 0) (eLoc 1) (eOp2 vAdd (eLoc 1) (eCon (.int 2)))) (eTup (lCons (eCon (.str [67, 82])) (lCons (eCon (.str [68, 66])) (lNil))))) (sSeq (sRet (eSlice (eLoc 0) (eLoc 1) (eOp2 vAdd (eLoc 1) (eCon (.int 2))))) (sNil)) (sNil)) (sSeq (sIf (tCmp vNotIn (eOp2 vIdx (eLoc 0) (eLoc 1)) (eCon (.str [65, 66, 80, 83, 86, 88, 90, 57, 48, 47, 44, 46, 43, 45, 42, 36]))) (sBad) (sNil)) (sSeq (sRet (eOp2 vIdx (eLoc 0) (eLoc 1))) (sNil)))
noncomputable def F_sign_at : FX := runF 0 (padN 2) B_sign_at
noncomputable def B_count_at : SX :=
  sSeq (sIf (tCmp vNe (eSlice (eLoc 0) (eLoc 1) (eOp2 vAdd (eLoc 1) (eCon (.int 1)))) (eCon (.str [40]))) (sSeq (sRet (eTup (lCons (eCon (.int 1)) (lCons (eLoc 1) (lNil))))) (sNil)) (sNil)) (sSeq (sSet 2 (eBM 0 fFind (eLoc 0) (lCons (eCon (.str [41])) (lCons (eLoc 1) (lNil))))) (sSeq (sSet 3 (eSlice (eLoc 0) (eOp2 vAdd (eLoc 1) (eCon (.int 1))) (eFun fMax (lCons (eLoc 2) (lCons (eLoc 1) (lNil)))))) (sSeq (sIf (tOr (tNot (tCmp2 vLe vLe (eCon (.int 1)) (eFun fLen (lCons (eLoc 3) (lNil))) (eCon (.int 4)))) (tOr (tCmp vNe (eComp 1 (iVal true (eLoc 3)) (bName 0) (tCmp vNotIn (eLoc 0) (eCon (.str [48, 49, 50, 51, 52, 53, 54, 55, 56, 57]))) (eLoc 0)) (eLst (lNil))) (tOr (tCmp vEq (eFun fInt (lCons (eLoc 3) (lNil))) (eCon (.int 0))) (tFalse)))) (sBad) (sNil)) (sSeq (sRet (eTup (lCons (eFun fInt (lCons (eLoc 3) (lNil))) (lCons (eOp2 vAdd (eLoc 2) (eCon (.int 1))) (lNil))))) (sNil)))))
noncomputable def F_count_at : FX := runF 2 (padN 2) B_count_at
noncomputable def B_signs_of : SX :=
  sSeq (sUnp (bRev [2, 1]) (eTup (lCons (eLst (lNil)) (lCons (eCon (.int 0)) (lNil))))) (sSeq (sWhile (tCmp vLt (eLoc 2) (eFun fLen (lCons (eLoc 0) (lNil)))) (sSeq (sSet 3 (eCal F_sign_at (lCons (eLoc 0) (lCons (eLoc 2) (lNil))))) (sSeq (sUnp (bTup [4, 5]) (eCal F_count_at (lCons (eLoc 0) (lCons (eOp2 vAdd (eLoc 2) (eFun fLen (lCons (eLoc 3) (lNil)))) (lNil))))) (sSeq (sIf (tAnd (tCmp vGt (eLoc 5) (eOp2 vAdd (eLoc 2) (eFun fLen (lCons (eLoc 3) (lNil))))) (tAnd (tCmp vIn (eLoc 3) (eBM 0 (fSplit [83, 32, 86, 32, 46, 32, 67, 82, 32, 68, 66] [[83], [86], [46], [67, 82], [68, 66]]) (eCon (.str [83, 32, 86, 32, 46, 32, 67, 82, 32, 68, 66])) (lCons (eCon (.str [32])) (lNil)))) (tTrue))) (sBad) (sNil)) (sSeq (sExpr (eBM 1 fAppend (eLoc 1) (lCons (eCal (fNew 141 F_Sign_init) (lCons (eLoc 3) (lCons (eLoc 4) (lCons (eLoc 2) (lNil))))) (lNil)))) (sSeq (sSet 2 (eLoc 5)) (sNil))))))) (sSeq (sRet (eLoc 1)) (sNil)))
noncomputable def F_signs_of : FX := runF 5 (padN 1) B_signs_of
noncomputable def B_symbols_of : SX :=
  sSeq (sSet 1 (eLst (lNil))) (sSeq (sFor (iVal true (eLoc 0)) (bName 2) (sSeq (sIf (tAnd (tCmp vNe (eLoc 1) (eLst (lNil))) (tAnd (tCmp vEq (eOp2 vIdx (eOp2 vIdx (eLoc 1) (eOp1 vNeg (eCon (.int 1)))) (eCon (.int 0))) (eOp1 (vAttr 141 7) (eLoc 2))) (tTrue))) (sSeq (sPut (eLoc 1) (eOp1 vNeg (eCon (.int 1))) (eTup (lCons (eOp1 (vAttr 141 7) (eLoc 2)) (lCons (eOp2 vAdd (eOp2 vIdx (eOp2 vIdx (eLoc 1) (eOp1 vNeg (eCon (.int 1)))) (eCon (.int 1))) (eOp1 (vAttr 141 8) (eLoc 2))) (lNil))))) (sNil)) (sSeq (sExpr (eBM 1 fAppend (eLoc 1) (lCons (eTup (lCons (eOp1 (vAttr 141 7) (eLoc 2)) (lCons (eOp1 (vAttr 141 8) (eLoc 2)) (lNil)))) (lNil)))) (sNil))) (sNil))) (sSeq (sRet (eLoc 1)) (sNil)))
noncomputable def F_symbols_of : FX := runF 2 (padN 1) B_symbols_of
noncomputable def B_size_of_symbols : SX :=
  sSeq (sRet (eFun fSum (lCons (eComp 2 (iVal false (eLoc 0)) (bTup [0, 1]) (tCmp vNotIn (eLoc 0) (eBM 0 (fSplit [80, 32, 83, 32, 86] [[80], [83], [86]]) (eCon (.str [80, 32, 83, 32, 86])) (lCons (eCon (.str [32])) (lNil)))) (eOp2 vMul (eLoc 1) (eFun fLen (lCons (eLoc 0) (lNil))))) (lNil)))) (sNil)
noncomputable def F_size_of_symbols : FX := runF 0 (padN 1) B_size_of_symbols
noncomputable def B_Order_init : SX :=
  sSeq (sSetAttr 298 10 (eLoc 0) (eCon (.int 0))) (sSeq (sSetAttr 298 11 (eLoc 0) (eCon (.bool false))) (sSeq (sSetAttr 298 12 (eLoc 0) (eCon (.str []))) (sSeq (sSetAttr 298 13 (eLoc 0) (eCon (.int 0))) (sSeq (sSetAttr 298 14 (eLoc 0) (eCon (.int 0))) (sSeq (sSetAttr 298 15 (eLoc 0) (eCon (.int 0))) (sSeq (sSetAttr 298 16 (eLoc 0) (eCon (.str []))) (sSeq (sSetAttr 298 17 (eLoc 0) (eCon (.int 0))) (sSeq (sSetAttr 298 18 (eLoc 0) (eCon (.int 0))) (sSeq (sSetAttr 298 19 (eLoc 0) (eCon (.int 0))) (sSeq (sSetAttr 298 20 (eLoc 0) (eCon (.bool false))) (sSeq (sSetAttr 298 7 (eLoc 0) (eCon (.str []))) (sSeq (sSetAttr 298 21 (eLoc 0) (eCon (.str []))) (sSeq (sSetAttr 298 22 (eLoc 0) (eCon (.str []))) (sSeq (sSetAttr 298 23 (eLoc 0) (eCon (.bool false))) (sSeq (sSetAttr 298 24 (eLoc 0) (eCon (.bool false))) (sNil))))))))))))))))
noncomputable def F_Order_init : FX := runF 0 (padN 1) B_Order_init
noncomputable def B_Order_digits : SX :=
  sSeq (sRet (eOp2 vAdd (eOp2 vAdd (eOp1 (vAttr 298 15) (eLoc 0)) (eOp1 (vAttr 298 17) (eLoc 0))) (eOp1 (vAttr 298 18) (eLoc 0)))) (sNil)
noncomputable def F_Order_digits : FX := runF 0 (padN 1) B_Order_digits
noncomputable def B_Order_add_behind : SX :=
  sSeq (sIf (tCmp vNe (eOp1 (vAttr 298 12) (eLoc 0)) (eCon (.str []))) (sSeq (sSetAttr 298 19 (eLoc 0) (eOp2 vAdd (eOp1 (vAttr 298 19) (eLoc 0)) (eLoc 1))) (sSeq (sSetAttr 298 20 (eLoc 0) (eOr (eOp1 (vAttr 298 20) (eLoc 0)) (eLoc 2))) (sNil))) (sNil)) (sNil)
noncomputable def F_Order_add_behind : FX := runF 0 (padN 3) B_Order_add_behind
noncomputable def B_Order_take_nine : SX :=
  sSeq (sIf (tOr (tCmp vGt (eOp1 (vAttr 298 14) (eLoc 0)) (eCon (.int 0))) (tOr (tVal (eOp1 (vAttr 298 20) (eLoc 0))) (tFalse))) (sBad) (sNil)) (sSeq (sSetAttr 298 15 (eLoc 0) (eOp2 vAdd (eOp1 (vAttr 298 15) (eLoc 0)) (eOp1 (vAttr 141 8) (eLoc 1)))) (sSeq (sExpr (eMeth 298 33 F_Order_add_behind (eLoc 0) (lCons (eOp1 (vAttr 141 8) (eLoc 1)) (lCons (eCon (.bool false)) (lNil))))) (sNil)))
noncomputable def F_Order_take_nine : FX := runF 0 (padN 2) B_Order_take_nine
noncomputable def B_Order_take_zero : SX :=
  sSeq (sIf (tOr (tCmp vGt (eOp1 (vAttr 298 14) (eLoc 0)) (eCon (.int 0))) (tOr (tCmp vGt (eOp1 (vAttr 298 15) (eLoc 0)) (eCon (.int 0))) (tOr (tCmp vGt (eOp1 (vAttr 298 18) (eLoc 0)) (eCon (.int 0))) (tOr (tCmp vNotIn (eOp1 (vAttr 298 16) (eLoc 0)) (eTup (lCons (eCon (.str [])) (lCons (eOp1 (vAttr 141 7) (eLoc 1)) (lNil))))) (tFalse))))) (sBad) (sNil)) (sSeq (sSetAttr 298 16 (eLoc 0) (eOp1 (vAttr 141 7) (eLoc 1))) (sSeq (sSetAttr 298 17 (eLoc 0) (eOp2 vAdd (eOp1 (vAttr 298 17) (eLoc 0)) (eOp1 (vAttr 141 8) (eLoc 1)))) (sSeq (sExpr (eMeth 298 33 F_Order_add_behind (eLoc 0) (lCons (eOp1 (vAttr 141 8) (eLoc 1)) (lCons (eCon (.bool true)) (lNil))))) (sNil))))
noncomputable def F_Order_take_zero : FX := runF 0 (padN 2) B_Order_take_zero
noncomputable def B_Order_take_point : SX :=
  sSeq (sIf (tOr (tCmp vNe (eOp1 (vAttr 298 12) (eLoc 0)) (eCon (.str []))) (tOr (tCmp vGt (eOp1 (vAttr 298 13) (eLoc 0)) (eCon (.int 0))) (tOr (tAnd (tCmp vEq (eOp1 (vAttr 141 7) (eLoc 1)) (eCon (.str [46]))) (tAnd (tCmp vGt (eOp1 (vAttr 298 14) (eLoc 0)) (eCon (.int 0))) (tTrue))) (tFalse)))) (sBad) (sNil)) (sSeq (sSetAttr 298 12 (eLoc 0) (eOp1 (vAttr 141 7) (eLoc 1))) (sNil))
noncomputable def F_Order_take_point : FX := runF 0 (padN 2) B_Order_take_point
noncomputable def B_Order_take_scaling : SX :=
  sSeq (sIf (tCmp vGt (eMeth0 298 3 F_Order_digits (eLoc 0)) (eCon (.int 0))) (sSeq (sIf (tOr (tCmp vNe (eOp1 (vAttr 298 12) (eLoc 0)) (eCon (.str []))) (tOr (tCmp vGt (eOp1 (vAttr 298 13) (eLoc 0)) (eCon (.int 0))) (tFalse))) (sBad) (sNil)) (sSeq (sSetAttr 298 14 (eLoc 0) (eOp2 vAdd (eOp1 (vAttr 298 14) (eLoc 0)) (eOp1 (vAttr 141 8) (eLoc 1)))) (sSeq (sRet (eCon .none)) (sNil)))) (sNil)) (sSeq (sIf (tOr (tCmp vEq (eOp1 (vAttr 298 12) (eLoc 0)) (eCon (.str [46]))) (tOr (tVal (eOp1 (vAttr 298 24) (eLoc 0))) (tFalse))) (sBad) (sNil)) (sSeq (sSetAttr 298 13 (eLoc 0) (eOp2 vAdd (eOp1 (vAttr 298 13) (eLoc 0)) (eOp1 (vAttr 141 8) (eLoc 1)))) (sNil)))
noncomputable def F_Order_take_scaling : FX := runF 0 (padN 2) B_Order_take_scaling
noncomputable def B_Order_take_inserted : SX :=
  sSeq (sIf (tCmp vGt (eOp1 (vAttr 298 14) (eLoc 0)) (eCon (.int 0))) (sBad) (sNil)) (sSeq (sSetAttr 298 24 (eLoc 0) (eCon (.bool true))) (sNil))
noncomputable def F_Order_take_inserted : FX := runF 0 (padN 2) B_Order_take_inserted
noncomputable def B_Order_float_on : SX :=
  sSeq (sSetAttr 298 18 (eLoc 0) (eOp2 vAdd (eOp1 (vAttr 298 18) (eLoc 0)) (eLoc 2))) (sSeq (sExpr (eMeth 298 33 F_Order_add_behind (eLoc 0) (lCons (eLoc 2) (lCons (eCon (.bool true)) (lNil))))) (sNil))
noncomputable def F_Order_float_on : FX := runF 0 (padN 3) B_Order_float_on
noncomputable def B_Order_may_float : SX :=
  sSeq (sRet (eAnd (eBool (tCmp vEq (eOp1 (vAttr 298 15) (eLoc 0)) (eCon (.int 0)))) (eAnd (eBool (tCmp vEq (eOp1 (vAttr 298 17) (eLoc 0)) (eCon (.int 0)))) (eAnd (eBool (tCmp vEq (eOp1 (vAttr 298 13) (eLoc 0)) (eCon (.int 0)))) (eBool (tCmp vEq (eOp1 (vAttr 298 14) (eLoc 0)) (eCon (.int 0)))))))) (sNil)
noncomputable def F_Order_may_float : FX := runF 0 (padN 1) B_Order_may_float
noncomputable def B_Order_take_end : SX :=
  sSeq (sIf (tOr (tCmp vEq (eMeth0 298 3 F_Order_digits (eLoc 0)) (eCon (.int 0))) (tOr (tCmp vNe (eOp1 (vAttr 298 7) (eLoc 0)) (eCon (.str []))) (tOr (tCmp vGt (eOp1 (vAttr 141 8) (eLoc 1)) (eCon (.int 1))) (tFalse)))) (sBad) (sNil)) (sSeq (sSetAttr 298 7 (eLoc 0) (eOp1 (vAttr 141 7) (eLoc 1))) (sSeq (sSetAttr 298 23 (eLoc 0) (eCon (.bool true))) (sNil)))
noncomputable def F_Order_take_end : FX := runF 0 (padN 2) B_Order_take_end
noncomputable def B_Order_take_sign : SX :=
  sSeq (sIf (tCmp vEq (eOp1 (vAttr 298 10) (eLoc 0)) (eCon (.int 0))) (sSeq (sSetAttr 298 7 (eLoc 0) (eOp1 (vAttr 141 7) (eLoc 1))) (sSeq (sExpr (eMeth 298 39 F_Order_float_on (eLoc 0) (lCons (eLoc 1) (lCons (eOp2 vSub (eOp1 (vAttr 141 8) (eLoc 1)) (eCon (.int 1))) (lNil))))) (sNil))) (sSeq (sIf (tAnd (tCmp vEq (eOp1 (vAttr 298 7) (eLoc 0)) (eOp1 (vAttr 141 7) (eLoc 1))) (tAnd (tCmp vEq (eOp1 (vAttr 298 21) (eLoc 0)) (eCon (.str []))) (tAnd (tVal (eMeth0 298 40 F_Order_may_float (eLoc 0))) (tTrue)))) (sSeq (sExpr (eMeth 298 39 F_Order_float_on (eLoc 0) (lCons (eLoc 1) (lCons (eOp1 (vAttr 141 8) (eLoc 1)) (lNil))))) (sNil)) (sSeq (sExpr (eMeth 298 43 F_Order_take_end (eLoc 0) (lCons (eLoc 1) (lNil)))) (sNil))) (sNil))) (sNil)
noncomputable def F_Order_take_sign : FX := runF 0 (padN 2) B_Order_take_sign
noncomputable def B_Order_take_money : SX :=
  sSeq (sIf (tCmp vEq (eOp1 (vAttr 298 21) (eLoc 0)) (eCon (.str []))) (sSeq (sIf (tOr (tCmp vGt (eOp1 (vAttr 298 10) (eLoc 0)) (eCon (.int 1))) (tOr (tAnd (tCmp vEq (eOp1 (vAttr 298 10) (eLoc 0)) (eCon (.int 1))) (tAnd (tOr (tCmp vEq (eOp1 (vAttr 298 7) (eLoc 0)) (eCon (.str []))) (tOr (tCmp vGt (eOp1 (vAttr 298 18) (eLoc 0)) (eCon (.int 0))) (tFalse))) (tTrue))) (tFalse))) (sBad) (sNil)) (sSeq (sSetAttr 298 21 (eLoc 0) (eOp1 (vAttr 141 7) (eLoc 1))) (sSeq (sExpr (eMeth 298 39 F_Order_float_on (eLoc 0) (lCons (eLoc 1) (lCons (eOp2 vSub (eOp1 (vAttr 141 8) (eLoc 1)) (eCon (.int 1))) (lNil))))) (sNil)))) (sSeq (sIf (tVal (eMeth0 298 40 F_Order_may_float (eLoc 0))) (sSeq (sExpr (eMeth 298 39 F_Order_float_on (eLoc 0) (lCons (eLoc 1) (lCons (eOp1 (vAttr 141 8) (eLoc 1)) (lNil))))) (sNil)) (sBad)) (sNil))) (sNil)
noncomputable def F_Order_take_money : FX := runF 0 (padN 2) B_Order_take_money
noncomputable def B_Order_take : SX :=
  sSeq (sSet 2 (eOp1 (vAttr 141 7) (eLoc 1))) (sSeq (sIf (tOr (tVal (eOp1 (vAttr 298 23) (eLoc 0))) (tOr (tAnd (tVal (eOp1 (vAttr 298 11) (eLoc 0))) (tAnd (tCmp vNotIn (eLoc 2) (eTup (lCons (eCon (.str [57])) (lCons (eCon (.str [80])) (lCons (eCon (.str [86])) (lNil)))))) (tTrue))) (tOr (tAnd (tCmp vEq (eLoc 2) (eCon (.str [83]))) (tAnd (tCmp vGt (eOp1 (vAttr 298 10) (eLoc 0)) (eCon (.int 0))) (tTrue))) (tFalse)))) (sBad) (sNil)) (sSeq (sIf (tCmp vEq (eLoc 2) (eCon (.str [83]))) (sSeq (sSetAttr 298 11 (eLoc 0) (eCon (.bool true))) (sNil)) (sSeq (sIf (tCmp vEq (eLoc 2) (eCon (.str [57]))) (sSeq (sExpr (eMeth 298 34 F_Order_take_nine (eLoc 0) (lCons (eLoc 1) (lNil)))) (sNil)) (sSeq (sIf (tCmp vIn (eLoc 2) (eTup (lCons (eCon (.str [90])) (lCons (eCon (.str [42])) (lNil))))) (sSeq (sExpr (eMeth 298 35 F_Order_take_zero (eLoc 0) (lCons (eLoc 1) (lNil)))) (sNil)) (sSeq (sIf (tCmp vIn (eLoc 2) (eTup (lCons (eCon (.str [86])) (lCons (eCon (.str [46])) (lNil))))) (sSeq (sExpr (eMeth 298 36 F_Order_take_point (eLoc 0) (lCons (eLoc 1) (lNil)))) (sNil)) (sSeq (sIf (tCmp vEq (eLoc 2) (eCon (.str [80]))) (sSeq (sExpr (eMeth 298 37 F_Order_take_scaling (eLoc 0) (lCons (eLoc 1) (lNil)))) (sNil)) (sSeq (sIf (tCmp vIn (eLoc 2) (eTup (lCons (eCon (.str [43])) (lCons (eCon (.str [45])) (lNil))))) (sSeq (sExpr (eMeth 298 41 F_Order_take_sign (eLoc 0) (lCons (eLoc 1) (lNil)))) (sNil)) (sSeq (sIf (tCmp vEq (eLoc 2) (eCon (.str [36]))) (sSeq (sExpr (eMeth 298 42 F_Order_take_money (eLoc 0) (lCons (eLoc 1) (lNil)))) (sNil)) (sSeq (sIf (tCmp vIn (eLoc 2) (eTup (lCons (eCon (.str [67, 82])) (lCons (eCon (.str [68, 66])) (lNil))))) (sSeq (sExpr (eMeth 298 43 F_Order_take_end (eLoc 0) (lCons (eLoc 1) (lNil)))) (sNil)) (sSeq (sExpr (eMeth 298 38 F_Order_take_inserted (eLoc 0) (lCons (eLoc 1) (lNil)))) (sNil))) (sNil))) (sNil))) (sNil))) (sNil))) (sNil))) (sNil))) (sNil))) (sSeq (sSetAttr 298 10 (eLoc 0) (eOp2 vAdd (eOp1 (vAttr 298 10) (eLoc 0)) (eCon (.int 1)))) (sSeq (sSetAttr 298 22 (eLoc 0) (eLoc 2)) (sNil)))))
noncomputable def F_Order_take : FX := runF 1 (padN 2) B_Order_take
noncomputable def B_Order_is_whole : SX :=
  sSeq (sIf (tOr (tCmp vEq (eMeth0 298 3 F_Order_digits (eLoc 0)) (eCon (.int 0))) (tOr (tCmp vIn (eOp1 (vAttr 298 22) (eLoc 0)) (eTup (lCons (eCon (.str [44])) (lCons (eCon (.str [46])) (lNil))))) (tFalse))) (sSeq (sRet (eCon (.bool false))) (sNil)) (sNil)) (sSeq (sRet (eBool (tCmp vLe (eOp2 vAdd (eOp2 vAdd (eMeth0 298 3 F_Order_digits (eLoc 0)) (eOp1 (vAttr 298 13) (eLoc 0))) (eOp1 (vAttr 298 14) (eLoc 0))) (eCon (.int 18))))) (sNil))
noncomputable def F_Order_is_whole : FX := runF 0 (padN 1) B_Order_is_whole
noncomputable def B_Order_scale : SX :=
  sSeq (sIf (tCmp vGt (eOp1 (vAttr 298 13) (eLoc 0)) (eCon (.int 0))) (sSeq (sRet (eOp2 vAdd (eOp1 (vAttr 298 13) (eLoc 0)) (eMeth0 298 3 F_Order_digits (eLoc 0)))) (sNil)) (sNil)) (sSeq (sRet (eOp2 vSub (eOp1 (vAttr 298 19) (eLoc 0)) (eOp1 (vAttr 298 14) (eLoc 0)))) (sNil))
noncomputable def F_Order_scale : FX := runF 0 (padN 1) B_Order_scale
noncomputable def B_number_picture : SX :=
  sSeq (sUnp (bRev [3, 2]) (eTup (lCons (eCal (fNew 298 F_Order_init) lNil) (lCons (eCal F_symbols_of (lCons (eLoc 1) (lNil))) (lNil))))) (sSeq (sFor (iVal true (eLoc 1)) (bName 4) (sSeq (sExpr (eMeth 298 44 F_Order_take (eLoc 2) (lCons (eLoc 4) (lNil)))) (sNil))) (sSeq (sIf (tOr (tNot (tVal (eMeth0 298 45 F_Order_is_whole (eLoc 2)))) (tOr (tCmp vGt (eCal F_size_of_symbols (lCons (eLoc 3) (lNil))) (eCon (.int 9999))) (tFalse))) (sBad) (sNil)) (sSeq (sSet 5 (eBool (tCmp vEq (eComp 2 (iVal false (eLoc 3)) (bTup [0, 1]) (tCmp vNotIn (eLoc 0) (eBM 0 (fSplit [57, 32, 80, 32, 83, 32, 86] [[57], [80], [83], [86]]) (eCon (.str [57, 32, 80, 32, 83, 32, 86])) (lCons (eCon (.str [32])) (lNil)))) (eLoc 0)) (eLst (lNil))))) (sSeq (sSet 6 (eIf (tVal (eLoc 5)) (eCon (.str [110, 117, 109, 101, 114, 105, 99])) (eCon (.str [101, 100, 105, 116, 101, 100])))) (sSeq (sSet 7 (eOr (eOp1 (vAttr 298 11) (eLoc 2)) (eBool (tCmp vNe (eOp1 (vAttr 298 7) (eLoc 2)) (eCon (.str [])))))) (sSeq (sRet (eCal (fNew 113 F_Picture_init) (lCons (eLoc 0) (lCons (eLoc 3) (lCons (eLoc 6) (lCons (eMeth0 298 3 F_Order_digits (eLoc 2)) (lCons (eMeth0 298 4 F_Order_scale (eLoc 2)) (lCons (eLoc 7) (lCons (eCal F_size_of_symbols (lCons (eLoc 3) (lNil))) (lNil)))))))))) (sNil)))))))
noncomputable def F_number_picture : FX := runF 6 (padN 2) B_number_picture
noncomputable def B_read_picture : SX :=
  sSeq (sIf (tCmp vGt (eFun fLen (lCons (eLoc 0) (lNil))) (eCon (.int 30))) (sBad) (sNil)) (sSeq (sSet 1 (eBM 0 fJoin (eCon (.str [])) (lCons (eComp 1 (iVal true (eLoc 0)) (bName 0) (tTrue) (eIf (tCmp2 vLe vLe (eCon (.str [97])) (eLoc 0) (eCon (.str [122]))) (eFun fChr (lCons (eOp2 vSub (eFun fOrd (lCons (eLoc 0) (lNil))) (eCon (.int 32))) (lNil))) (eLoc 0))) (lNil)))) (sSeq (sSet 2 (eCal F_signs_of (lCons (eLoc 1) (lNil)))) (sSeq (sIf (tCmp vNe (eComp 1 (iVal true (eLoc 2)) (bName 0) (tCmp vIn (eOp1 (vAttr 141 7) (eLoc 0)) (eTup (lCons (eCon (.str [65])) (lCons (eCon (.str [88])) (lNil))))) (eLoc 0)) (eLst (lNil))) (sBad) (sNil)) (sSeq (sRet (eCal F_number_picture (lCons (eLoc 1) (lCons (eLoc 2) (lNil))))) (sNil)))))
noncomputable def F_read_picture : FX := runF 2 (padN 1) B_read_picture
noncomputable def B_places : SX :=
  sSeq (sSet 1 (eLst (lNil))) (sSeq (sFor (iVal false (eOp1 (vAttr 113 1) (eLoc 0))) (bTup [2, 3]) (sSeq (sExpr (eBM 1 fExtend (eLoc 1) (lCons (eOp2 vMul (eLst (lCons (eLoc 2) (lNil))) (eLoc 3)) (lNil)))) (sNil))) (sSeq (sRet (eLoc 1)) (sNil)))
noncomputable def F_places : FX := runF 3 (padN 1) B_places
noncomputable def B_floating_sign : SX :=
  sSeq (sFor (iVal true (eCon (.str [36, 43, 45]))) (bName 1) (sSeq (sIf (tCmp vGt (eBM 1 fCount (eLoc 0) (lCons (eLoc 1) (lNil))) (eCon (.int 1))) (sSeq (sRet (eLoc 1)) (sNil)) (sNil)) (sNil))) (sSeq (sRet (eCon (.str []))) (sNil))
noncomputable def F_floating_sign : FX := runF 1 (padN 1) B_floating_sign
noncomputable def B_roles_of : SX :=
  sSeq (sSet 1 (eDict [([57], [102, 105, 103, 117, 114, 101]), ([90], [122, 101, 114, 111]), ([42], [115, 116, 97, 114]), ([46], [112, 111, 105, 110, 116]), ([86], [109, 97, 114, 107]), ([80], [110, 111, 110, 101])])) (sSeq (sFor (iVal true (eCon (.str [66, 48, 47, 44]))) (bName 2) (sSeq (sPut (eLoc 1) (eLoc 2) (eCon (.str [105, 110, 115, 101, 114, 116]))) (sNil))) (sSeq (sUnp (bRev [4, 3]) (eTup (lCons (eCal F_floating_sign (lCons (eLoc 0) (lNil))) (lCons (eLst (lNil)) (lNil))))) (sSeq (sFor (iVal true (eLoc 0)) (bName 2) (sSeq (sIf (tCmp vEq (eLoc 2) (eLoc 3)) (sSeq (sExpr (eBM 1 fAppend (eLoc 4) (lCons (eIf (tCmp vIn (eCon (.str [108, 101, 97, 100])) (eLoc 4)) (eCon (.str [102, 108, 111, 97, 116])) (eCon (.str [108, 101, 97, 100]))) (lNil)))) (sNil)) (sSeq (sExpr (eBM 1 fAppend (eLoc 4) (lCons (eBM 2 fGet (eLoc 1) (lCons (eLoc 2) (lCons (eCon (.str [102, 105, 120, 101, 100])) (lNil)))) (lNil)))) (sNil))) (sNil))) (sSeq (sRet (eLoc 4)) (sNil)))))
noncomputable def F_roles_of : FX := runF 4 (padN 1) B_roles_of
noncomputable def B_is_suppressing : SX :=
  sSeq (sRet (eBool (tCmp vIn (eLoc 0) (eTup (lCons (eCon (.str [122, 101, 114, 111])) (lCons (eCon (.str [115, 116, 97, 114])) (lCons (eCon (.str [102, 108, 111, 97, 116])) (lNil)))))))) (sNil)
noncomputable def F_is_suppressing : FX := runF 0 (padN 1) B_is_suppressing
noncomputable def B_figures_laid : SX :=
  sSeq (sSet 2 (eOp2 vMod (eFun fAbs (lCons (eCal F_units_at (lCons (eLoc 1) (lCons (eOp1 (vAttr 113 4) (eLoc 0)) (lCons (eCon (.bool false)) (lNil))))) (lNil))) (eOp2 vPow (eCon (.int 10)) (eOp1 (vAttr 113 3) (eLoc 0))))) (sSeq (sSet 3 (eIf (tCmp vGt (eLoc 2) (eCon (.int 0))) (eFun fStr (lCons (eLoc 2) (lNil))) (eCon (.str [])))) (sSeq (sRet (eTup (lCons (eOp2 vAdd (eOp2 vMul (eCon (.str [48])) (eOp2 vSub (eOp1 (vAttr 113 3) (eLoc 0)) (eFun fLen (lCons (eLoc 3) (lNil))))) (eLoc 3)) (lCons (eAnd (eBool (tCmp vLt (eOp2 vIdx (eLoc 1) (eCon (.int 0))) (eCon (.int 0)))) (eBool (tCmp vGt (eLoc 2) (eCon (.int 0))))) (lNil))))) (sNil)))
noncomputable def F_figures_laid : FX := runF 2 (padN 2) B_figures_laid
noncomputable def B_sign_text : SX :=
  sSeq (sIf (tCmp vEq (eLoc 0) (eCon (.str [43]))) (sSeq (sRet (eIf (tVal (eLoc 1)) (eCon (.str [45])) (eCon (.str [43])))) (sNil)) (sNil)) (sSeq (sIf (tCmp vEq (eLoc 0) (eCon (.str [45]))) (sSeq (sRet (eIf (tVal (eLoc 1)) (eCon (.str [45])) (eCon (.str [32])))) (sNil)) (sNil)) (sSeq (sIf (tCmp vIn (eLoc 0) (eTup (lCons (eCon (.str [67, 82])) (lCons (eCon (.str [68, 66])) (lNil))))) (sSeq (sRet (eIf (tVal (eLoc 1)) (eLoc 0) (eOp2 vMul (eCon (.str [32])) (eCon (.int 2))))) (sNil)) (sNil)) (sSeq (sRet (eLoc 0)) (sNil))))
noncomputable def F_sign_text : FX := runF 0 (padN 2) B_sign_text
noncomputable def B_insert_text : SX :=
  sSeq (sRet (eIf (tCmp vEq (eLoc 0) (eCon (.str [66]))) (eCon (.str [32])) (eLoc 0))) (sNil)
noncomputable def F_insert_text : FX := runF 0 (padN 1) B_insert_text
noncomputable def B_Layer_init : SX :=
  sSeq (sSetAttr 411 25 (eLoc 0) (eLoc 1)) (sSeq (sSetAttr 411 26 (eLoc 0) (eLoc 2)) (sSeq (sSetAttr 411 27 (eLoc 0) (eLoc 3)) (sSeq (sSetAttr 411 28 (eLoc 0) (eCon (.int 0))) (sSeq (sSetAttr 411 29 (eLoc 0) (eLst (lNil))) (sSeq (sSetAttr 411 30 (eLoc 0) (eCon (.bool false))) (sSeq (sSetAttr 411 31 (eLoc 0) (eCon (.bool false))) (sSeq (sSetAttr 411 32 (eLoc 0) (eOp1 vNeg (eCon (.int 1)))) (sNil))))))))
noncomputable def F_Layer_init : FX := runF 0 (padN 4) B_Layer_init
noncomputable def B_Layer_suppress : SX :=
  sSeq (sSetAttr 411 32 (eLoc 0) (eFun fLen (lCons (eOp1 (vAttr 411 29) (eLoc 0)) (lNil)))) (sSeq (sExpr (eBM 1 fAppend (eOp1 (vAttr 411 29) (eLoc 0)) (lCons (eOp1 (vAttr 411 27) (eLoc 0)) (lNil)))) (sNil))
noncomputable def F_Layer_suppress : FX := runF 0 (padN 1) B_Layer_suppress
noncomputable def B_Layer_figure : SX :=
  sSeq (sSet 2 (eOp2 vIdx (eOp1 (vAttr 411 25) (eLoc 0)) (eOp1 (vAttr 411 28) (eLoc 0)))) (sSeq (sSetAttr 411 28 (eLoc 0) (eOp2 vAdd (eOp1 (vAttr 411 28) (eLoc 0)) (eCon (.int 1)))) (sSeq (sSetAttr 411 31 (eLoc 0) (eOr (eOp1 (vAttr 411 31) (eLoc 0)) (eCal F_is_suppressing (lCons (eLoc 1) (lNil))))) (sSeq (sSetAttr 411 30 (eLoc 0) (eOr (eOp1 (vAttr 411 30) (eLoc 0)) (eOr (eBool (tCmp vEq (eLoc 1) (eCon (.str [102, 105, 103, 117, 114, 101])))) (eBool (tCmp vNe (eLoc 2) (eCon (.str [48]))))))) (sSeq (sIf (tVal (eOp1 (vAttr 411 30) (eLoc 0))) (sSeq (sExpr (eBM 1 fAppend (eOp1 (vAttr 411 29) (eLoc 0)) (lCons (eLoc 2) (lNil)))) (sNil)) (sSeq (sExpr (eMeth0 411 46 F_Layer_suppress (eLoc 0))) (sNil))) (sNil)))))
noncomputable def F_Layer_figure : FX := runF 1 (padN 2) B_Layer_figure
noncomputable def B_Layer_place : SX :=
  sSeq (sIf (tOr (tCmp vEq (eLoc 1) (eCon (.str [102, 105, 103, 117, 114, 101]))) (tOr (tVal (eCal F_is_suppressing (lCons (eLoc 1) (lNil)))) (tFalse))) (sSeq (sExpr (eMeth 411 47 F_Layer_figure (eLoc 0) (lCons (eLoc 1) (lNil)))) (sNil)) (sSeq (sIf (tCmp vEq (eLoc 1) (eCon (.str [108, 101, 97, 100]))) (sSeq (sSetAttr 411 31 (eLoc 0) (eCon (.bool true))) (sSeq (sExpr (eMeth0 411 46 F_Layer_suppress (eLoc 0))) (sNil))) (sSeq (sIf (tAnd (tCmp vEq (eLoc 1) (eCon (.str [105, 110, 115, 101, 114, 116]))) (tAnd (tVal (eOp1 (vAttr 411 31) (eLoc 0))) (tAnd (tNot (tVal (eOp1 (vAttr 411 30) (eLoc 0)))) (tTrue)))) (sSeq (sExpr (eMeth0 411 46 F_Layer_suppress (eLoc 0))) (sNil)) (sSeq (sIf (tCmp vEq (eLoc 1) (eCon (.str [105, 110, 115, 101, 114, 116]))) (sSeq (sExpr (eBM 1 fAppend (eOp1 (vAttr 411 29) (eLoc 0)) (lCons (eCal F_insert_text (lCons (eLoc 2) (lNil))) (lNil)))) (sNil)) (sSeq (sIf (tCmp vEq (eLoc 1) (eCon (.str [102, 105, 120, 101, 100]))) (sSeq (sExpr (eBM 1 fAppend (eOp1 (vAttr 411 29) (eLoc 0)) (lCons (eCal F_sign_text (lCons (eLoc 2) (lCons (eOp1 (vAttr 411 26) (eLoc 0)) (lNil)))) (lNil)))) (sNil)) (sSeq (sIf (tCmp vNe (eLoc 1) (eCon (.str [110, 111, 110, 101]))) (sSeq (sSetAttr 411 30 (eLoc 0) (eCon (.bool true))) (sSeq (sExpr (eBM 1 fAppend (eOp1 (vAttr 411 29) (eLoc 0)) (lCons (eIf (tCmp vEq (eLoc 1) (eCon (.str [112, 111, 105, 110, 116]))) (eLoc 2) (eCon (.str []))) (lNil)))) (sNil))) (sNil)) (sNil))) (sNil))) (sNil))) (sNil))) (sNil))) (sNil)
noncomputable def F_Layer_place : FX := runF 0 (padN 3) B_Layer_place
noncomputable def B_vanished : SX :=
  sSeq (sIf (tCmp vNotIn (eCon (.str [115, 116, 97, 114])) (eLoc 2)) (sSeq (sRet (eOp2 vMul (eCon (.str [32])) (eOp1 (vAttr 113 6) (eLoc 0)))) (sNil)) (sNil)) (sSeq (sRet (eBM 0 fJoin (eCon (.str [])) (lCons (eComp 2 (iZip (eLoc 2) (eLoc 1)) (bTup [0, 1]) (tTrue) (eIf (tCmp vIn (eLoc 0) (eTup (lCons (eCon (.str [109, 97, 114, 107])) (lCons (eCon (.str [110, 111, 110, 101])) (lNil))))) (eCon (.str [])) (eIf (tCmp vEq (eLoc 0) (eCon (.str [112, 111, 105, 110, 116]))) (eLoc 1) (eOp2 vMul (eCon (.str [42])) (eFun fLen (lCons (eLoc 1) (lNil))))))) (lNil)))) (sNil))
noncomputable def F_vanished : FX := runF 0 (padN 3) B_vanished
noncomputable def B_edited_text : SX :=
  sSeq (sSet 3 (eCal F_places (lCons (eLoc 0) (lNil)))) (sSeq (sSet 4 (eCal F_roles_of (lCons (eLoc 3) (lNil)))) (sSeq (sUnp (bTup [5, 6]) (eCal F_figures_laid (lCons (eLoc 0) (lCons (eLoc 1) (lNil))))) (sSeq (sIf (tCmp vEq (eLoc 5) (eOp2 vMul (eCon (.str [48])) (eFun fLen (lCons (eLoc 5) (lNil))))) (sSeq (sIf (tVal (eLoc 2)) (sSeq (sRet (eOp2 vMul (eCon (.str [32])) (eOp1 (vAttr 113 6) (eLoc 0)))) (sNil)) (sNil)) (sSeq (sIf (tCmp vNotIn (eCon (.str [102, 105, 103, 117, 114, 101])) (eLoc 4)) (sSeq (sRet (eCal F_vanished (lCons (eLoc 0) (lCons (eLoc 3) (lCons (eLoc 4) (lNil)))))) (sNil)) (sNil)) (sNil))) (sNil)) (sSeq (sSet 7 (eCal (fNew 411 F_Layer_init) (lCons (eLoc 5) (lCons (eLoc 6) (lCons (eIf (tCmp vIn (eCon (.str [115, 116, 97, 114])) (eLoc 4)) (eCon (.str [42])) (eCon (.str [32]))) (lNil)))))) (sSeq (sFor (iZip (eLoc 4) (eLoc 3)) (bTup [8, 9]) (sSeq (sExpr (eMeth 411 48 F_Layer_place (eLoc 7) (lCons (eLoc 8) (lCons (eLoc 9) (lNil))))) (sNil))) (sSeq (sIf (tCmp vIn (eCon (.str [108, 101, 97, 100])) (eLoc 4)) (sSeq (sPut (eOp1 (vAttr 411 29) (eLoc 7)) (eOp1 (vAttr 411 32) (eLoc 7)) (eCal F_sign_text (lCons (eOp2 vIdx (eLoc 3) (eBM 1 fIndex (eLoc 4) (lCons (eCon (.str [108, 101, 97, 100])) (lNil)))) (lCons (eLoc 6) (lNil))))) (sNil)) (sNil)) (sSeq (sRet (eBM 0 fJoin (eCon (.str [])) (lCons (eOp1 (vAttr 411 29) (eLoc 7)) (lNil)))) (sNil))))))))
noncomputable def F_edited_text : FX := runF 7 (padN 3) B_edited_text
noncomputable def B_edited : SX :=
  sSeq (sRet (eFun fBytes (lCons (eComp 1 (iVal true (eCal F_edited_text (lCons (eLoc 0) (lCons (eLoc 1) (lCons (eLoc 2) (lNil)))))) (bName 0) (tTrue) (eFun fOrd (lCons (eLoc 0) (lNil)))) (lNil)))) (sNil)
noncomputable def F_edited : FX := runF 0 (padEdited) B_edited
noncomputable def B_law_draw : SX :=
  sSeq (sIf (tCmp vEq (eOp2 vIdx (eLoc 0) (eCon (.int 2))) (eCon (.int 0))) (sSeq (sPut (eLoc 0) (eCon (.int 1)) (eOp2 vAdd (eOp2 vIdx (eLoc 0) (eCon (.int 1))) (eCon (.int 1)))) (sSeq (sIf (tCmp vGt (eOp2 vIdx (eLoc 0) (eCon (.int 1))) (eFun fLen (lCons (eOp2 vIdx (eLoc 0) (eCon (.int 0))) (lNil)))) (sSeq (sRet (eOp2 vMod (eOp2 vDiv (eOp2 vMul (eOp2 vMul (eOp2 vAdd (eOp2 vIdx (eLoc 0) (eCon (.int 3))) (eCon (.int 3))) (eOp2 vAdd (eOp2 vIdx (eLoc 0) (eCon (.int 1))) (eCon (.int 2)))) (eOp2 vAdd (eOp2 vIdx (eLoc 0) (eCon (.int 1))) (eCon (.int 9)))) (eCon (.int 5))) (eLoc 1))) (sNil)) (sNil)) (sSeq (sSet 2 (eOp2 vIdx (eOp2 vIdx (eLoc 0) (eCon (.int 0))) (eOp2 vSub (eOp2 vIdx (eLoc 0) (eCon (.int 1))) (eCon (.int 1))))) (sSeq (sIf (tCmp vLt (eFun fAbs (lCons (eLoc 2) (lNil))) (eOp2 vPow (eCon (.int 10)) (eCon (.int 18)))) (sSeq (sRet (eOp2 vMod (eLoc 2) (eLoc 1))) (sNil)) (sNil)) (sSeq (sPut (eLoc 0) (eCon (.int 2)) (eOp2 vAdd (eOp2 vMul (eCon (.int 2)) (eOp2 vSub (eFun fAbs (lCons (eLoc 2) (lNil))) (eOp2 vPow (eCon (.int 10)) (eCon (.int 18))))) (eIf (tCmp vLt (eLoc 2) (eCon (.int 0))) (eCon (.int 1)) (eCon (.int 0))))) (sNil)))))) (sNil)) (sSeq (sSet 3 (eOp2 vMod (eOp2 vIdx (eLoc 0) (eCon (.int 2))) (eLoc 1))) (sSeq (sPut (eLoc 0) (eCon (.int 2)) (eOp2 vDiv (eOp2 vIdx (eLoc 0) (eCon (.int 2))) (eLoc 1))) (sSeq (sRet (eLoc 3)) (sNil))))
noncomputable def F_law_draw : FX := runF 2 (padN 2) B_law_draw
noncomputable def B_law_inserted : SX :=
  sSeq (sSet 2 (eLst (lNil))) (sSeq (sFor (iEnum (eLoc 1)) (bTup [3, 4]) (sSeq (sIf (tAnd (tCmp vGt (eLoc 3) (eCon (.int 0))) (tAnd (tCmp vEq (eCal F_law_draw (lCons (eLoc 0) (lCons (eCon (.int 4)) (lNil)))) (eCon (.int 3))) (tTrue))) (sSeq (sExpr (eBM 1 fAppend (eLoc 2) (lCons (eOp2 vIdx (eTup (lCons (eCon (.str [44])) (lCons (eCon (.str [47])) (lCons (eCon (.str [66])) (lCons (eCon (.str [48])) (lNil)))))) (eCal F_law_draw (lCons (eLoc 0) (lCons (eCon (.int 4)) (lNil))))) (lNil)))) (sNil)) (sNil)) (sSeq (sExpr (eBM 1 fAppend (eLoc 2) (lCons (eLoc 4) (lNil)))) (sNil)))) (sSeq (sRet (eLoc 2)) (sNil)))
noncomputable def F_law_inserted : FX := runF 3 (padN 2) B_law_inserted
noncomputable def B_law_picture : SX :=
  sSeq (sUnp (bRev [4, 3, 2]) (eTup (lCons (eCal F_law_draw (lCons (eLoc 0) (lCons (eCon (.int 6)) (lNil)))) (lCons (eOp2 vAdd (eCon (.int 1)) (eCal F_law_draw (lCons (eLoc 0) (lCons (eLoc 1) (lNil))))) (lCons (eCal F_law_draw (lCons (eLoc 0) (lCons (eLoc 1) (lNil)))) (lNil)))))) (sSeq (sSet 5 (eOp2 vIdx (eTup (lCons (eCon (.str [90])) (lCons (eCon (.str [42])) (lCons (eCon (.str [36])) (lCons (eCon (.str [43])) (lCons (eCon (.str [45])) (lCons (eCon (.str [])) (lNil)))))))) (eLoc 2))) (sSeq (sSet 6 (eIf (tCmp vLt (eLoc 2) (eCon (.int 5))) (eOp2 vMul (eLst (lCons (eLoc 5) (lNil))) (eOp2 vAdd (eLoc 3) (eIf (tCmp vIn (eLoc 2) (eTup (lCons (eCon (.int 2)) (lCons (eCon (.int 3)) (lCons (eCon (.int 4)) (lNil)))))) (eCon (.int 1)) (eCon (.int 0))))) (eOp2 vMul (eLst (lCons (eCon (.str [57])) (lNil))) (eLoc 3)))) (sSeq (sUnp (bRev [8, 7]) (eTup (lCons (eCal F_law_draw (lCons (eLoc 0) (lCons (eCon (.int 3)) (lNil)))) (lCons (eCal F_law_draw (lCons (eLoc 0) (lCons (eLoc 1) (lNil)))) (lNil))))) (sSeq (sSet 9 (eAnd (eBool (tCmp vEq (eLoc 4) (eCon (.int 0)))) (eAnd (eBool (tCmp vLt (eLoc 2) (eCon (.int 5)))) (eBool (tCmp vEq (eCal F_law_draw (lCons (eLoc 0) (lCons (eCon (.int 2)) (lNil)))) (eCon (.int 1))))))) (sSeq (sSet 10 (eCal F_law_inserted (lCons (eLoc 0) (lCons (eOp2 vAdd (eLoc 6) (eOp2 vMul (eLst (lCons (eCon (.str [57])) (lNil))) (eLoc 4))) (lNil))))) (sSeq (sSet 11 (eLst (lNil))) (sSeq (sIf (tAnd (tCmp vGt (eLoc 7) (eCon (.int 0))) (tAnd (tCmp vGt (eLoc 8) (eCon (.int 0))) (tTrue))) (sSeq (sSet 11 (eOp2 vAdd (eLst (lCons (eOp2 vIdx (eTup (lCons (eCon (.str [46])) (lCons (eCon (.str [86])) (lNil)))) (eOp2 vSub (eLoc 7) (eCon (.int 1)))) (lNil))) (eOp2 vMul (eLst (lCons (eIf (tVal (eLoc 9)) (eLoc 5) (eCon (.str [57]))) (lNil))) (eLoc 8)))) (sNil)) (sSeq (sIf (tCmp vEq (eCal F_law_draw (lCons (eLoc 0) (lCons (eCon (.int 4)) (lNil)))) (eCon (.int 3))) (sSeq (sSet 11 (eOp2 vMul (eLst (lCons (eCon (.str [80])) (lNil))) (eOp2 vAdd (eCon (.int 1)) (eCal F_law_draw (lCons (eLoc 0) (lCons (eCon (.int 2)) (lNil))))))) (sNil)) (sNil)) (sNil))) (sSeq (sSet 12 (eIf (tCmp vNotIn (eLoc 2) (eTup (lCons (eCon (.int 3)) (lCons (eCon (.int 4)) (lNil))))) (eCal F_law_draw (lCons (eLoc 0) (lCons (eCon (.int 6)) (lNil)))) (eCon (.int 0)))) (sSeq (sSet 13 (eIf (tCmp vIn (eLoc 12) (eTup (lCons (eCon (.int 1)) (lCons (eCon (.int 2)) (lNil))))) (eLst (lCons (eOp2 vIdx (eTup (lCons (eCon (.str [43])) (lCons (eCon (.str [45])) (lNil)))) (eOp2 vSub (eLoc 12) (eCon (.int 1)))) (lNil))) (eLst (lNil)))) (sSeq (sIf (tAnd (tCmp vNe (eLoc 2) (eCon (.int 2))) (tAnd (tCmp vNotIn (eLoc 2) (eTup (lCons (eCon (.int 3)) (lCons (eCon (.int 4)) (lNil))))) (tAnd (tCmp vEq (eCal F_law_draw (lCons (eLoc 0) (lCons (eCon (.int 3)) (lNil)))) (eCon (.int 2))) (tTrue)))) (sSeq (sExpr (eBM 1 fAppend (eLoc 13) (lCons (eCon (.str [36])) (lNil)))) (sNil)) (sNil)) (sSeq (sSet 14 (eIf (tCmp vGt (eLoc 12) (eCon (.int 2))) (eLst (lCons (eOp2 vIdx (eTup (lCons (eCon (.str [67, 82])) (lCons (eCon (.str [68, 66])) (lCons (eCon (.str [45])) (lNil))))) (eOp2 vSub (eLoc 12) (eCon (.int 3)))) (lNil))) (eLst (lNil)))) (sSeq (sIf (tAnd (tCmp vEq (eOp2 vAdd (eLoc 13) (eLoc 14)) (eLst (lNil))) (tAnd (tCmp vEq (eLoc 2) (eCon (.int 5))) (tAnd (tCmp vNotIn (eCon (.str [44])) (eLoc 10)) (tAnd (tCmp vNotIn (eCon (.str [46])) (eLoc 11)) (tTrue))))) (sSeq (sSet 14 (eLst (lCons (eCon (.str [43])) (lNil)))) (sNil)) (sNil)) (sSeq (sRet (eOp2 vAdd (eOp2 vAdd (eOp2 vAdd (eLoc 13) (eLoc 10)) (eLoc 11)) (eLoc 14))) (sNil))))))))))))))
noncomputable def F_law_picture : FX := runF 13 (padN 2) B_law_picture
noncomputable def B_law_cut : SX :=
  sSeq (sSet 3 (eComp 2 (iEnum (eLoc 0)) (bTup [0, 1]) (tCmp vIn (eLoc 1) (eTup (lCons (eCon (.str [46])) (lCons (eCon (.str [86])) (lNil))))) (eLoc 0))) (sSeq (sSet 4 (eComp 1 (iVal true (eTup (lCons (eCon (.str [36])) (lCons (eCon (.str [43])) (lCons (eCon (.str [45])) (lNil)))))) (bName 0) (tCmp vGt (eBM 1 fCount (eLoc 1) (lCons (eLoc 0) (lNil))) (eCon (.int 1))) (eLoc 0))) (sSeq (sUnp (bRev [7, 6, 5]) (eTup (lCons (eCon (.int 0)) (lCons (eCon (.int 0)) (lCons (eLst (lNil)) (lNil)))))) (sSeq (sFor (iEnum (eLoc 0)) (bTup [8, 9]) (sSeq (sSet 10 (eOr (eBool (tCmp vIn (eLoc 9) (eTup (lCons (eCon (.str [57])) (lCons (eCon (.str [90])) (lCons (eCon (.str [42])) (lNil))))))) (eAnd (eBool (tCmp vIn (eLoc 9) (eLoc 4))) (eBool (tCmp vIn (eLoc 9) (eLoc 7)))))) (sSeq (sExpr (eBM 1 fAppend (eLoc 7) (lCons (eLoc 9) (lNil)))) (sSeq (sSet 6 (eOp2 vAdd (eLoc 6) (eIf (tVal (eLoc 10)) (eCon (.int 1)) (eCon (.int 0))))) (sSeq (sSet 5 (eOp2 vAdd (eLoc 5) (eIf (tAnd (tVal (eLoc 10)) (tAnd (tCmp vNe (eLoc 3) (eLst (lNil))) (tAnd (tCmp vGt (eLoc 8) (eOp2 vIdx (eLoc 3) (eCon (.int 0)))) (tTrue)))) (eCon (.int 1)) (eCon (.int 0))))) (sNil)))))) (sSeq (sSet 5 (eOp2 vSub (eLoc 5) (eBM 1 fCount (eLoc 0) (lCons (eCon (.str [80])) (lNil))))) (sSeq (sSet 11 (eOp2 vMod (eOp2 vDiv (eOp2 vMul (eFun fAbs (lCons (eLoc 1) (lNil))) (eOp2 vPow (eCon (.int 10)) (eFun fMax (lCons (eLoc 5) (lCons (eCon (.int 0)) (lNil)))))) (eOp2 vPow (eCon (.int 10)) (eOp2 vAdd (eLoc 2) (eFun fMax (lCons (eOp2 vSub (eCon (.int 0)) (eLoc 5)) (lCons (eCon (.int 0)) (lNil))))))) (eOp2 vPow (eCon (.int 10)) (eLoc 6)))) (sSeq (sRet (eTup (lCons (eIf (tCmp vLt (eLoc 1) (eCon (.int 0))) (eOp2 vSub (eCon (.int 0)) (eLoc 11)) (eLoc 11)) (lCons (eLoc 5) (lCons (eLoc 6) (lNil)))))) (sNil)))))))
noncomputable def F_law_cut : FX := runF 9 (padN 3) B_law_cut
noncomputable def B_law_edited : SX :=
  sSeq (sSet 3 (eComp 1 (iRange (eLoc 2)) (bName 0) (tTrue) (eOp2 vMod (eOp2 vDiv (eFun fAbs (lCons (eLoc 2) (lNil))) (eOp2 vPow (eCon (.int 10)) (eOp2 vSub (eOp2 vSub (eLoc 3) (eCon (.int 1))) (eLoc 0)))) (eCon (.int 10))))) (sSeq (sSet 4 (eComp 1 (iVal true (eTup (lCons (eCon (.str [36])) (lCons (eCon (.str [43])) (lCons (eCon (.str [45])) (lNil)))))) (bName 0) (tCmp vGt (eBM 1 fCount (eLoc 1) (lCons (eLoc 0) (lNil))) (eCon (.int 1))) (eLoc 0))) (sSeq (sUnp (bRev [7, 6, 5]) (eTup (lCons (eLst (lNil)) (lCons (eOp1 vNeg (eCon (.int 1))) (lCons (eCon (.int 0)) (lNil)))))) (sSeq (sFor (iVal true (eLoc 0)) (bName 8) (sSeq (sUnp (bRev [10, 9]) (eTup (lCons (eCon (.str [112, 108, 97, 105, 110])) (lCons (eLoc 8) (lNil))))) (sSeq (sIf (tAnd (tCmp vIn (eLoc 8) (eLoc 4)) (tAnd (tCmp vLt (eLoc 6) (eCon (.int 0))) (tTrue))) (sSeq (sUnp (bRev [6, 10, 9]) (eTup (lCons (eCon (.str [108, 101, 97, 100])) (lCons (eCon (.str [])) (lCons (eFun fLen (lCons (eLoc 5) (lNil))) (lNil)))))) (sNil)) (sSeq (sIf (tOr (tCmp vIn (eLoc 8) (eTup (lCons (eCon (.str [57])) (lCons (eCon (.str [90])) (lCons (eCon (.str [42])) (lNil)))))) (tOr (tCmp vIn (eLoc 8) (eLoc 4)) (tFalse))) (sSeq (sUnp (bRev [7, 10, 9]) (eTup (lCons (eIf (tCmp vNe (eLoc 8) (eCon (.str [57]))) (eCon (.str [108, 111, 111, 115, 101])) (eCon (.str [110, 105, 110, 101]))) (lCons (eFun fStr (lCons (eOp2 vIdx (eLoc 3) (eLoc 7)) (lNil))) (lCons (eOp2 vAdd (eLoc 7) (eCon (.int 1))) (lNil)))))) (sNil)) (sSeq (sIf (tCmp vIn (eLoc 8) (eTup (lCons (eCon (.str [44])) (lCons (eCon (.str [47])) (lCons (eCon (.str [66])) (lCons (eCon (.str [48])) (lNil))))))) (sSeq (sUnp (bRev [10, 9]) (eTup (lCons (eCon (.str [112, 117, 116, 32, 105, 110])) (lCons (eIf (tCmp vEq (eLoc 8) (eCon (.str [66]))) (eCon (.str [32])) (eLoc 8)) (lNil))))) (sNil)) (sSeq (sIf (tCmp vIn (eLoc 8) (eTup (lCons (eCon (.str [43])) (lCons (eCon (.str [45])) (lNil))))) (sSeq (sSet 10 (eIf (tCmp vLt (eLoc 1) (eCon (.int 0))) (eCon (.str [45])) (eIf (tCmp vEq (eLoc 8) (eCon (.str [43]))) (eCon (.str [43])) (eCon (.str [32]))))) (sNil)) (sSeq (sIf (tCmp vIn (eLoc 8) (eTup (lCons (eCon (.str [67, 82])) (lCons (eCon (.str [68, 66])) (lNil))))) (sSeq (sSet 10 (eIf (tCmp vLt (eLoc 1) (eCon (.int 0))) (eLoc 8) (eCon (.str [32, 32])))) (sNil)) (sSeq (sIf (tCmp vIn (eLoc 8) (eTup (lCons (eCon (.str [46])) (lCons (eCon (.str [86])) (lCons (eCon (.str [80])) (lNil)))))) (sSeq (sUnp (bRev [10, 9]) (eTup (lCons (eIf (tCmp vNe (eLoc 8) (eCon (.str [80]))) (eCon (.str [112, 111, 105, 110, 116])) (eCon (.str [112, 108, 97, 105, 110]))) (lCons (eIf (tCmp vEq (eLoc 8) (eCon (.str [46]))) (eCon (.str [46])) (eCon (.str []))) (lNil))))) (sNil)) (sNil)) (sNil))) (sNil))) (sNil))) (sNil))) (sNil))) (sSeq (sExpr (eBM 1 fAppend (eLoc 5) (lCons (eTup (lCons (eLoc 9) (lCons (eLoc 10) (lNil)))) (lNil)))) (sNil))))) (sSeq (sSet 11 (eIf (tCmp vIn (eCon (.str [42])) (eLoc 0)) (eCon (.str [42])) (eCon (.str [32])))) (sSeq (sIf (tAnd (tCmp vEq (eLoc 1) (eCon (.int 0))) (tAnd (tCmp vNotIn (eCon (.str [110, 105, 110, 101])) (eComp 2 (iVal false (eLoc 5)) (bTup [0, 1]) (tTrue) (eLoc 0))) (tTrue))) (sSeq (sRet (eBM 0 fJoin (eCon (.str [])) (lCons (eComp 2 (iVal false (eLoc 5)) (bTup [0, 1]) (tTrue) (eIf (tAnd (tCmp vEq (eLoc 0) (eCon (.str [112, 111, 105, 110, 116]))) (tAnd (tCmp vEq (eLoc 13) (eCon (.str [42]))) (tAnd (tCmp vNe (eLoc 1) (eCon (.str []))) (tTrue)))) (eCon (.str [46])) (eOp2 vMul (eLoc 13) (eFun fLen (lCons (eIf (tCmp vNe (eLoc 0) (eCon (.str [108, 101, 97, 100]))) (eLoc 1) (eCon (.str [32]))) (lNil)))))) (lNil)))) (sNil)) (sNil)) (sSeq (sSet 12 (eFun fMin (lCons (eOp2 vAdd (eComp 2 (iEnum (eLoc 5)) (bTup [0, 1]) (tCmp vIn (eOp2 vIdx (eLoc 1) (eCon (.int 0))) (eTup (lCons (eCon (.str [108, 101, 97, 100])) (lCons (eCon (.str [108, 111, 111, 115, 101])) (lNil))))) (eLoc 0)) (eLst (lCons (eFun fLen (lCons (eLoc 5) (lNil))) (lNil)))) (lNil)))) (sSeq (sSet 13 (eFun fMin (lCons (eComp 2 (iEnum (eLoc 5)) (bTup [0, 1]) (tOr (tCmp vIn (eOp2 vIdx (eLoc 1) (eCon (.int 0))) (eTup (lCons (eCon (.str [110, 105, 110, 101])) (lCons (eCon (.str [112, 111, 105, 110, 116])) (lNil))))) (tOr (tAnd (tCmp vEq (eOp2 vIdx (eLoc 1) (eCon (.int 0))) (eCon (.str [108, 111, 111, 115, 101]))) (tAnd (tCmp vNe (eOp2 vIdx (eLoc 1) (eCon (.int 1))) (eCon (.str [48]))) (tTrue))) (tFalse))) (eLoc 0)) (lNil)))) (sSeq (sSet 14 (eLst (lNil))) (sSeq (sFor (iEnum (eLoc 5)) (bTup [15, 16]) (sSeq (sSet 17 (eAnd (eBool (tCmp2 vLe vLt (eLoc 12) (eLoc 15) (eLoc 13))) (eBool (tCmp vIn (eOp2 vIdx (eLoc 16) (eCon (.int 0))) (eTup (lCons (eCon (.str [108, 101, 97, 100])) (lCons (eCon (.str [108, 111, 111, 115, 101])) (lCons (eCon (.str [112, 117, 116, 32, 105, 110])) (lNil))))))))) (sSeq (sExpr (eBM 1 fAppend (eLoc 14) (lCons (eIf (tVal (eLoc 17)) (eLoc 11) (eOp2 vIdx (eLoc 16) (eCon (.int 1)))) (lNil)))) (sNil)))) (sSeq (sIf (tCmp vNe (eLoc 4) (eLst (lNil))) (sSeq (sPut (eLoc 14) (eOp2 vSub (eLoc 13) (eCon (.int 1))) (eIf (tCmp vEq (eOp2 vIdx (eLoc 4) (eCon (.int 0))) (eCon (.str [36]))) (eOp2 vIdx (eLoc 4) (eCon (.int 0))) (eIf (tCmp vLt (eLoc 1) (eCon (.int 0))) (eCon (.str [45])) (eIf (tCmp vEq (eOp2 vIdx (eLoc 4) (eCon (.int 0))) (eCon (.str [43]))) (eCon (.str [43])) (eCon (.str [32])))))) (sNil)) (sNil)) (sSeq (sRet (eBM 0 fJoin (eCon (.str [])) (lCons (eLoc 14) (lNil)))) (sNil))))))))))))
noncomputable def F_law_edited : FX := runF 15 (padN 3) B_law_edited
noncomputable def B_law_number : SX :=
  sSeq (sSet 1 (eOp2 vAdd (eOp2 vMul (eOp2 vIdx (eTup (lCons (eCon (.int 0)) (lCons (eCon (.int 1)) (lCons (eCon (.int 5)) (lCons (eCon (.int 10)) (lCons (eCon (.int 99)) (lCons (eCon (.int 100)) (lCons (eCon (.int 1050)) (lCons (eCon (.int 987654321)) (lNil)))))))))) (eCal F_law_draw (lCons (eLoc 0) (lCons (eCon (.int 8)) (lNil))))) (eOp2 vIdx (eTup (lCons (eCon (.int 1)) (lCons (eCon (.int 1)) (lCons (eCon (.int 10)) (lCons (eCon (.int 100)) (lCons (eCon (.int 1000)) (lNil))))))) (eCal F_law_draw (lCons (eLoc 0) (lCons (eCon (.int 5)) (lNil)))))) (eCal F_law_draw (lCons (eLoc 0) (lCons (eCon (.int 3)) (lNil)))))) (sSeq (sRet (eTup (lCons (eIf (tCmp vGt (eCal F_law_draw (lCons (eLoc 0) (lCons (eCon (.int 3)) (lNil)))) (eCon (.int 0))) (eLoc 1) (eOp2 vSub (eCon (.int 0)) (eLoc 1))) (lCons (eCal F_law_draw (lCons (eLoc 0) (lCons (eCon (.int 5)) (lNil)))) (lNil))))) (sNil))
noncomputable def F_law_number : FX := runF 1 (padN 1) B_law_number
noncomputable def B_law : SX :=
  sSeq (sFor (iVal false (eCon vTable)) (bTup [2, 3, 4, 5]) (sSeq (sIf (tCmp vNe (eCal F_edited (lCons (eCal F_read_picture (lCons (eLoc 2) (lNil))) (lCons (eCal F_decimal (lCons (eLoc 3) (lCons (eLoc 4) (lNil)))) (lNil)))) (eFun fBytes (lCons (eComp 1 (iVal true (eLoc 5)) (bName 0) (tTrue) (eFun fOrd (lCons (eLoc 0) (lNil)))) (lNil)))) (sSeq (sRet (eCon (.bool false))) (sNil)) (sNil)) (sNil))) (sSeq (sSet 6 (eCal F_law_picture (lCons (eLoc 1) (lCons (eCon (.int 4)) (lNil))))) (sSeq (sSet 7 (eCal F_read_picture (lCons (eBM 0 fJoin (eCon (.str [])) (lCons (eLoc 6) (lNil))) (lNil)))) (sSeq (sFor (iRange (eCon (.int 2))) (bName 8) (sSeq (sUnp (bTup [3, 4]) (eCal F_law_number (lCons (eLoc 1) (lNil)))) (sSeq (sUnp (bTup [9, 10, 11]) (eCal F_law_cut (lCons (eLoc 6) (lCons (eLoc 3) (lCons (eLoc 4) (lNil)))))) (sSeq (sSet 2 (eCal F_law_edited (lCons (eLoc 6) (lCons (eLoc 9) (lCons (eLoc 11) (lNil)))))) (sSeq (sSet 5 (eFun fBytes (lCons (eComp 1 (iVal true (eLoc 2)) (bName 0) (tTrue) (eFun fOrd (lCons (eLoc 0) (lNil)))) (lNil)))) (sSeq (sIf (tOr (tCmp vNe (eCal F_edited (lCons (eLoc 7) (lCons (eCal F_decimal (lCons (eLoc 3) (lCons (eLoc 4) (lNil)))) (lNil)))) (eLoc 5)) (tOr (tCmp vNe (eFun fLen (lCons (eLoc 5) (lNil))) (eOp1 (vAttr 113 6) (eLoc 7))) (tFalse))) (sSeq (sRet (eCon (.bool false))) (sNil)) (sNil)) (sSeq (sIf (tAnd (tCmp vNotIn (eCon (.str [42])) (eLoc 6)) (tAnd (tCmp vNe (eCal F_edited (lCons (eLoc 7) (lCons (eCal F_decimal (lCons (eLoc 3) (lCons (eLoc 4) (lNil)))) (lCons (eCon (.bool true)) (lNil))))) (eIf (tCmp vEq (eLoc 9) (eCon (.int 0))) (eOp2 vMul (eCon (.bytes [32])) (eFun fLen (lCons (eLoc 5) (lNil)))) (eLoc 5))) (tTrue))) (sSeq (sRet (eCon (.bool false))) (sNil)) (sNil)) (sNil)))))))) (sSeq (sRet (eBool (tCmp vEq (eCal F_edited (lCons (eLoc 7) (lCons (eCal F_decimal (lCons (eCon (.int 0)) (lNil))) (lNil)))) (eFun fBytes (lCons (eComp 1 (iVal true (eCal F_law_edited (lCons (eLoc 6) (lCons (eCon (.int 0)) (lCons (eLoc 11) (lNil)))))) (bName 0) (tTrue) (eFun fOrd (lCons (eLoc 0) (lNil)))) (lNil)))))) (sNil)))))
open PySem PySem.W PySem.Calls PyProof.Rows
noncomputable def fdOf (K : Frag) (f : Addr) : FuncData := match K.lookup f with
  | some ⟨_, _, .func fd, _⟩ => fd
  | _ => default
structure Facts (g : GC) : Prop where
  inj : ∀ i j, g.an i = g.an j → i = j
  anEq : ∀ (k : Nat) (l : List Nat), anTab[k]? = some l → g.an k = ⟨l.toArray⟩
  fns : ∀ p ∈ fnTab, FnOk g p.1 p.2.1 p.2.2
  gl : ∀ (i : Nat) (p : Str × Value), globTab[i]? = some p → nsIn g.K mainGlobals p.1 = some (some p.2)
  bl : ∀ (i : Nat) (x : Str), builtTab[i]? = some x → nsIn g.K mainGlobals x = some none
  keep : ∀ (i : Nat) (f : Addr), keepTab[i]? = some f → keepIn g.K (.ref f) = true
  clsPicture : ClsOk g 113 98
  clsSign : ClsOk g 141 131
  clsOrder : ClsOk g 298 190
  clsLayer : ClsOk g 411 387
  meth : ∀ (i : Nat) (C f : Addr) (m : Str), methTab[i]? = some (C, f, m) → MethOk g C f m
  attr : ∀ (i : Nat) (C : Addr) (k : Nat), attrTab[i]? = some (C, k) → AttrOk g C k
  seta : ∀ (i : Nat) (C : Addr) (k : Nat), attrTab[i]? = some (C, k) → SetOk g C k
  tabs : g.tabs = tabT
  tabK : ∀ p ∈ tabT, g.K.lookup p.1 = some (tupObj p.2.2)
  table : ∀ role : Roles, (∀ p ∈ g.tabs, role p.1 = .tup p.2.1 p.2.2) → RV role vTable (.ref 450)
  dec : ∃ t, ∀ S u, peek g.K S (bindArgs (fdOf g.K 36) ⟨[u], []⟩) = some [(("units" : Str), u), (("scale" : Str), .int 0 t)]
  dec2 : ∀ S u v, peek g.K S (bindArgs (fdOf g.K 36) ⟨[u, v], []⟩) = some [(("units" : Str), u), (("scale" : Str), v)]
  edi3 : ∀ S u v x, peek g.K S (bindArgs (fdOf g.K 433) ⟨[u, v, x], []⟩) = some [(("picture" : Str), u), (("number" : Str), v), (("is_blank_zero" : Str), x)]
  edi : ∀ S u v, peek g.K S (bindArgs (fdOf g.K 433) ⟨[u, v], []⟩) = some [(("picture" : Str), u), (("number" : Str), v), (("is_blank_zero" : Str), .bool false)]
theorem Facts.fn {g : GC} (hF : Facts g) (i : Nat) (f : Addr) (st : Stmt) (q : Str) (e : fnTab[i]? = some (f, st, q)) : FnOk g f st q := hF.fns _ (List.mem_of_getElem? e)
section
variable {Γ : FC}
theorem scope_loc {scope : Scope} (h : (scope.names.all fun x => !(x.2 == .local) || (scope.names.lookup x.1 == some .local)) = true) : ∀ x ∈ scope.names, x.2 = .local → scope.names.lookup x.1 = some .local := fun x hx e => by
  have := List.all_eq_true.mp h x hx
  rw [e] at this
  simpa using this
theorem scope_ncell {scope : Scope} (h : (scope.names.all fun x => !(x.2 == .cell)) = true) : ∀ x ∈ scope.names, x.2 ≠ .cell := fun x hx e => by
  have := List.all_eq_true.mp h x hx
  rw [e] at this
  simp at this
theorem F_fn {g : GC} {n f k : Nat} {st : Stmt} {qual : Str} {xb : SX} (names : List Str) (more : List Slot) (hk : FnOk g f st qual) (hl : names.length = k)
    (hb : ∀ doc pm cdv, allArgs k fun ws => bindArgs (fnX (stName st) qual (stArgs st) (stBody st) (stScope st) [] .none .none doc pm none cdv .none) ⟨ws, []⟩ = pure (names.zip ws))
    (hbody : ∀ (cdv : Value) (base h₀ : Heap) (outer : List Env) (A₀ : Around) (L : Addr), FOk ⟨g, n, base, h₀, outer, A₀, L, f, qual, stScope st, cdv, [], none, names.map Slot.loc ++ more⟩ →
      SoundB ⟨g, n, base, h₀, outer, A₀, L, f, qual, stScope st, cdv, [], none, names.map Slot.loc ++ more⟩ (stBody st) xb)
    (hz : (stArgs st).defaults = [] := by kernel_rfl) (hloc : (names.all fun x => (stScope st).names.lookup x == some .local) = true := by kernel_rfl) (hnd : names.Nodup := by decide +kernel) (hnk : ((names.map Slot.loc ++ more).map Slot.key).Nodup := by decide +kernel)
    (hmore : (more.all fun | .loc _ => true | _ => false) = true := by rfl) (hcell : ((stScope st).names.all fun x => !(x.2 == .cell)) = true := by kernel_rfl) (hco : (stScope st).isCoroutine = false := by rfl) (hgen : (stScope st).isGenerator = false := by rfl) (hkd : (stScope st).kind = .function := by rfl) :
    SoundF g (n + 1) f (runF more.length (padN k) xb) := by
  obtain ⟨fo, dV, doc, pm, cdv, ho, hd, hcd, hz'⟩ := hk
  obtain rfl := hz' hz
  exact F_plain (names := names) (more := more) ho hd hcd (hb_of hl (hb doc pm cdv)) hloc hnd hnk hmore (scope_ncell hcell) hco hgen hkd (hbody cdv)
theorem split_LAID_NOWHERE : SoundFn Γ (.builtin "str.split") (fSplit [80, 32, 83, 32, 86] [[80], [83], [86]]) := Fn_split (by decide +kernel) (by decide)
theorem split_PLAIN_SIGNS : SoundFn Γ (.builtin "str.split") (fSplit [57, 32, 80, 32, 83, 32, 86] [[57], [80], [83], [86]]) := Fn_split (by decide +kernel) (by decide)
theorem split_ALONE : SoundFn Γ (.builtin "str.split") (fSplit [83, 32, 86, 32, 46, 32, 67, 82, 32, 68, 66] [[83], [86], [46], [67, 82], [68, 66]]) := Fn_split (by decide +kernel) (by decide)
theorem st_cel {i : Nat} {x : Str} {c : Addr} (hO : FOk Γ) (k : Cel Γ i x c) (hcd : ∀ j y, Γ.slots[j]? = some (.cel y c) → j = i) : SoundSt Γ i x := St_cel hO k.slot k.comp k.kind k.look hcd
theorem cellsFrom_nodup (names : List (Str × NameKind)) : ∀ (n : Nat) (acc : List (Str × Addr)), (acc.map (·.2)).Nodup → (∀ p ∈ acc, p.2 < n) → ((cellsFrom n names acc).map (·.2)).Nodup := by
  induction names with
  | nil => exact fun _ _ h _ => h
  | cons q r ih =>
    intro n acc h hl
    unfold cellsFrom
    split
    · refine ih (n + 1) ((q.1, n) :: acc) (List.nodup_cons.2 ⟨fun z => ?_, h⟩) fun p hp => (List.mem_cons.mp hp).elim (fun e => e ▸ Nat.lt_succ_self _) fun e => Nat.lt_succ_of_lt (hl p e)
      obtain ⟨p, hp, e⟩ := List.mem_map.mp z
      exact Nat.ne_of_lt (hl p hp) e
    · exact ih n acc h hl
theorem snd_uniq {x y : Str} {c : Addr} {l : List (Str × Addr)} (nd : (l.map (·.2)).Nodup) (h1 : (x, c) ∈ l) (h2 : (y, c) ∈ l) : x = y := by
  induction l with
  | nil => cases h1
  | cons p r ih =>
    rw [List.map_cons, List.nodup_cons] at nd
    have no : ∀ z, (z, c) ∈ r → p.2 ≠ c := fun z h e => nd.1 (e ▸ List.mem_map_of_mem (f := fun p : Str × Addr => p.2) h)
    rcases List.mem_cons.mp h1 with e1 | e1 <;> rcases List.mem_cons.mp h2 with e2 | e2
    · exact (congrArg Prod.fst e1).trans (congrArg Prod.fst e2).symm
    · exact absurd (congrArg Prod.snd e1).symm (no _ e2)
    · exact absurd (congrArg Prod.snd e2).symm (no _ e1)
    · exact ih nd.2 e1 e2
theorem slot_uniq {scope : Scope} {k : Nat} {all : List Str} {i j : Nat} {x y : Str} {c : Addr} (hnd : all.Nodup) (hi : (all.map (slotOf scope k))[i]? = some (.cel x c)) (hj : (all.map (slotOf scope k))[j]? = some (.cel y c)) : j = i := by
  have key : ∀ {i : Nat} {x : Str}, (all.map (slotOf scope k))[i]? = some (.cel x c) → all[i]? = some x ∧ (x, c) ∈ cellsFrom k scope.names [] := fun {i x} h => by
    rw [List.getElem?_map] at h
    obtain ⟨z, e, h'⟩ := Option.map_eq_some_iff.1 h
    rcases slotOf_at scope k z with w | ⟨c', w⟩
    · rw [w.2] at h'; cases h'
    · rw [w.2] at h'; cases h'
      exact ⟨e, mem_of_lookup w.1⟩
  have a := key hi
  have b := key hj
  obtain rfl := snd_uniq (cellsFrom_nodup scope.names k [] List.nodup_nil (fun _ h => nomatch h)) a.2 b.2
  exact (List.getElem_inj hnd).mp ((List.getElem?_eq_some_iff.mp b.1).2.trans (List.getElem?_eq_some_iff.mp a.1).2.symm)
end
section
variable {Γ : FC}
theorem comp_nd (hO : FOk Γ) (hc : Γ.comp = none) {names : List Str} (hn : names.Nodup) : ((names.map Slot.cmp ++ Γ.slots).map Slot.key).Nodup := by
  rw [List.map_append, List.map_map, List.nodup_append]
  refine ⟨List.pairwise_map.mpr (List.Pairwise.imp (fun {a b} hab e => hab (congrArg Prod.snd e)) hn), hO.nd, fun a ha b hb e => ?_⟩
  obtain ⟨x, _, rfl⟩ := List.mem_map.mp ha
  obtain ⟨y, hy, rfl⟩ := List.mem_map.mp hb
  cases y with
  | loc z => cases congrArg Prod.fst e
  | cel z c => cases congrArg Prod.fst e
  | cmp z => exact hO.ncmp hc z hy
noncomputable def closOf (sc : Scope) (cells : List (Str × Addr)) : List (Str × Addr) := sc.names.foldl (fun acc p => if p.2 == .free then (p.1, (cells.lookup p.1).getD 0) :: acc else acc) []
noncomputable def cAt (sc : Scope) (k : Nat) (x : Str) : Addr := ((cellsFrom k sc.names []).lookup x).getD 0
theorem e_comp {bv : Bool} {elt target iter : Expr} {ifs : List Expr} {scope : Scope} {pos : Pos} {it : IX} {bind : Bnd} {cond : TX} {y : EX} (names : List Str)
    (hO : FOk Γ) (hc : Γ.comp = none) (h1 : SoundI Γ bv target iter it)
    (h2 : ∀ C, FOk (Γ.inComp scope C (closOf scope Γ.cl) names) → SoundTg (Γ.inComp scope C (closOf scope Γ.cl) names) bv target bind)
    (h3 : ∀ C, FOk (Γ.inComp scope C (closOf scope Γ.cl) names) → SoundIfs (Γ.inComp scope C (closOf scope Γ.cl) names) ifs cond)
    (h4 : ∀ C, FOk (Γ.inComp scope C (closOf scope Γ.cl) names) → SoundE (Γ.inComp scope C (closOf scope Γ.cl) names) elt y)
    (hs : ∀ env x, foldedSetIterable iter env x = pure x := by intro _ _; kernel_rfl) (hclos : closureFor scope Γ.fenv = pure (closOf scope Γ.cl) := by kernel_rfl) (hkind : scope.kind = .function := by rfl)
    (hl : (scope.names.all fun x => !(x.2 == .local) || (scope.names.lookup x.1 == some .local)) = true := by kernel_rfl) (hcell : (scope.names.all fun x => !(x.2 == .cell)) = true := by kernel_rfl) (hn : names.Nodup := by decide +kernel) :
    SoundE Γ (.ListComp elt [⟨target, iter, ifs, 0⟩] scope pos) (eComp names.length it bind cond y) :=
  E_comp hO hc h1 h2 h3 h4 hs hclos hkind (scope_loc hl) (scope_ncell hcell) (comp_nd hO hc hn)
theorem s_setC {bv : Bool} {i : Nat} {x : Str} {elt target iter : Expr} {ifs : List Expr} {scope : Scope} {p pos spos : Pos} {it : IX} {bind : Bnd} {cond : TX} {y : EX} (names : List Str)
    (hO : FOk Γ) (hc : Γ.comp = none) (h1 : SoundI Γ bv target iter it)
    (h2 : ∀ C, FOk (Γ.inComp scope C (closOf scope Γ.cl) names) → SoundTg (Γ.inComp scope C (closOf scope Γ.cl) names) bv target bind)
    (h3 : ∀ C, FOk (Γ.inComp scope C (closOf scope Γ.cl) names) → SoundIfs (Γ.inComp scope C (closOf scope Γ.cl) names) ifs cond)
    (h4 : ∀ C, FOk (Γ.inComp scope C (closOf scope Γ.cl) names) → SoundE (Γ.inComp scope C (closOf scope Γ.cl) names) elt y) (hst : SoundSt Γ i x)
    (hs : ∀ env x, foldedSetIterable iter env x = pure x := by intro _ _; kernel_rfl) (hclos : closureFor scope Γ.fenv = pure (closOf scope Γ.cl) := by kernel_rfl) (hkind : scope.kind = .function := by rfl)
    (hl : (scope.names.all fun x => !(x.2 == .local) || (scope.names.lookup x.1 == some .local)) = true := by kernel_rfl) (hcell : (scope.names.all fun x => !(x.2 == .cell)) = true := by kernel_rfl) (hn : names.Nodup := by decide +kernel)
    (hsw : swapsWith (.ListComp elt [⟨target, iter, ifs, 0⟩] scope pos) (some (.Name x p)) spos.line Γ.env = pure true := by kernel_rfl) :
    SoundS Γ (.Assign [.Name x p] (.ListComp elt [⟨target, iter, ifs, 0⟩] scope pos) spos) (sSet i (eComp names.length it bind cond y)) :=
  S_setC hO hc h1 h2 h3 h4 hs hclos hkind (scope_loc hl) (scope_ncell hcell) (comp_nd hO hc hn) hst hsw
noncomputable def kcOf : List (Option Expr) → List Expr → List KC
  | some (.Constant (.str a) k p) :: r, .Constant (.str b) k' p' :: r' => ((a.cps.toList, k, p), (b.cps.toList, k', p')) :: kcOf r r'
  | _, _ => []
theorem s_dict (hO : FOk Γ) {keys : List (Option Expr)} {values : List Expr} {pos : Pos} {kvs : List (List Nat × List Nat)} (h1 : (kcOf keys values).map (fun c => (c.1.1, c.2.1)) = kvs)
    (hsh : ∀ env, (evalEachOpt keys env).zip ((evalEach values env).map fun v => do let x ← v; standAt pos; pure x) = (pairsOf (kcOf keys values) pos env).map fun p => (some p.1, p.2))
    (h0 : kvs ≠ []) (hl : kvs.length ≤ 15) (hnd : (kvs.map (·.1)).Nodup) : SoundE Γ (.Dict keys values pos) (eDict kvs) := by
  subst h1
  refine E_dict hO hsh (fun e => h0 (by rw [e]; rfl)) (by simpa using hl) ?_
  rw [List.map_map] at hnd
  exact hnd
end
theorem fdOf_eq {K : Frag} {f : Addr} {fo : Obj} {fd : FuncData} (h : K.lookup f = some fo) (hd : fo.data = .func fd) : fdOf K f = fd := by
  unfold fdOf
  rw [h]
  obtain ⟨c, d, da, sl⟩ := fo
  simp only at hd
  subst hd
  rfl
theorem hb_decimal {g : GC} (hF : Facts g) {fo : Obj} {fd : FuncData} (ho : g.K.lookup 36 = some fo) (hd : fo.data = .func fd) :
    ∀ (s : Shared) (role : Roles) (vs : List V) (ws : List Value) (us : List V), g.K.In s.heap → RVs role vs ws → padDecimal vs = some us → ∃ ws', RVs role us ws' ∧ us.length = ([("units" : Str), ("scale" : Str)] : List Str).length ∧ BindsTo s fd ⟨ws, []⟩ (([("units" : Str), ("scale" : Str)] : List Str).zip ws') := fun s role vs ws us X rv e => by
  have q := fdOf_eq ho hd
  have d1 := hF.dec
  have d2 := hF.dec2
  rw [q] at d1 d2
  match vs, e with
  | [u], rfl => exact rv.o1 fun w r => d1.elim fun t h => ⟨[w, .int 0 t], .cons r (.cons .int .nil), rfl, kp_binds X fun S => h S w⟩
  | [u, v], rfl => exact rv.o2 fun w x r r' => ⟨[w, x], .cons r (.cons r' .nil), rfl, kp_binds X fun S => d2 S w x⟩
theorem hb_edited {g : GC} (hF : Facts g) {fo : Obj} {fd : FuncData} (ho : g.K.lookup 433 = some fo) (hd : fo.data = .func fd) :
    ∀ (s : Shared) (role : Roles) (vs : List V) (ws : List Value) (us : List V), g.K.In s.heap → RVs role vs ws → padEdited vs = some us → ∃ ws', RVs role us ws' ∧ us.length = ([("picture" : Str), ("number" : Str), ("is_blank_zero" : Str)] : List Str).length ∧ BindsTo s fd ⟨ws, []⟩ (([("picture" : Str), ("number" : Str), ("is_blank_zero" : Str)] : List Str).zip ws') := fun s role vs ws us X rv e => by
  have q := fdOf_eq ho hd
  have d1 := hF.edi
  have d2 := hF.edi3
  rw [q] at d1 d2
  match vs, e with
  | [u, v], rfl => exact rv.o2 fun w x r r' => ⟨[w, x, .bool false], .cons r (.cons r' (.cons .bool .nil)), rfl, kp_binds X fun S => d1 S w x⟩
  | [u, v, b], rfl => exact rv.o3 fun w x y r r' r'' => ⟨[w, x, y], .cons r (.cons r' (.cons r'' .nil)), rfl, kp_binds X fun S => d2 S w x y⟩
open PySem PySem.W PySem.Calls PyProof.Rows
noncomputable def eNew (vs : List V) : EX := fun _ H K => newAt H (.list vs) K
section
variable {Γ : FC} {P : (Str → Option Value) → Prop}
structure SoundEP (P : (Str → Option Value) → Prop) (Γ : FC) (e : Expr) (x : EX) : Prop where
  run : ∀ (p : Pt) (Q E : QV) (K : KV), P p.m → Ok Γ p → x p.ρ p.H K → ThenE Γ p K Q → wpAny Γ.M p.A (eval e Γ.env) Q E p.s
structure SoundLP (P : (Str → Option Value) → Prop) (Γ : FC) (es : List Expr) (x : LX) : Prop where
  run : ∀ (pos : Pos) (p : Pt) (Q : List Value → Shared → Prop) (E : QV) (K : KL), P p.m → Ok Γ p → x p.ρ p.H K → ThenL Γ p K Q → wpAny Γ.M p.A (spliced (backTo pos (starEach es Γ.env))) Q E p.s
theorem EP_of {e : Expr} {x : EX} (h : SoundE Γ e x) : SoundEP P Γ e x := ⟨fun p Q E K _ => h.run p Q E K⟩
theorem LP_of {es : List Expr} {x : LX} (h : SoundL Γ es x) : SoundLP P Γ es x := ⟨fun pos p Q E K _ => h.run pos p Q E K⟩
theorem LP_cons {e : Expr} {es : List Expr} {x : EX} {y : LX} (h1 : SoundEP P Γ e x) (h2 : SoundLP P Γ es y) (he : ∀ env, starEach (e :: es) env = (false, eval e env) :: starEach es env) : SoundLP P Γ (e :: es) (lCons x y) :=
  ⟨fun pos p Q E K hP ok hx h => args_cons (h1.run p _ E _ hP ok hx fun v q w k st r => h2.run pos (p.to q) _ E _ hP st.ok k fun vs q' ws k' st' r' => h _ q' _ k' (st.trans st') (.cons (r.mono st'.X.grow) r')) (he _)⟩
theorem EP_bin {op : Operator} {l r : Expr} {pos : Pos} {o : V → V → Hp → KV → Prop} {x y : EX} (h1 : SoundEP P Γ l x) (h2 : SoundE Γ r y) (h3 : SoundO2 Γ (binaryOp op) o) : SoundEP P Γ (.BinOp l op r pos) (eOp2 o x y) :=
  ⟨fun p Q E K hP ok hx h => wpAny_BinOp (h1.run p _ E _ hP ok hx fun v q w k st r => h2.run (p.to q) _ E _ st.ok k fun u q' w' k' st' r' =>
    h3.run _ Q E K v u w w' st'.ok (r.mono st'.X.grow) r' k' ((h.step st).step st'))⟩
theorem EP_lst {es : List Expr} {pos : Pos} {x : LX} (h1 : SoundLP P Γ es x) : SoundEP P Γ (.List es pos) (eLst x) :=
  ⟨fun p Q E K hP ok hx h => wpAny_List (h1.run pos p _ E _ hP ok hx fun vs q ws k st r => have k := cond_and k
    ⟨lenMax_le (r.length ▸ Nat.le_of_ble_eq_true k.1),
    h _ ⟨q.h.push (PySem.W.listOf ws.toArray 0), q.t, _, _⟩ _ k.2.run (st.trans (st.ok.newlist (c := 0) (fresh_none st.ok.hs (Nat.le_refl _)) (st.ok.F.push _) (kept_push _) (Heap.get?_push_size _ rfl) (frFresh st.ok.F (Nat.le_refl _)) r _)) (.ref (upd_self ..))⟩)⟩
theorem EP_fn {id : String} {x : Str} {e : Expr} {rest : List Expr} {pp pos : Pos} {fx : FX} {l : LX} (hO : FOk Γ) (e0 : nsIn Γ.g.K mainGlobals x = some none) (hv : bootBuiltins x = some (.builtin id)) (hn : x ≠ "__name__")
    (hx : Γ.env.kindOf x = some .globalImplicit) (hd : (x == ("__debug__" : Str)) = false) (hf : SoundFn Γ (.builtin id) fx) (h1 : SoundLP P Γ (e :: rest) l)
    (hc : ∀ env, eval (.Call (.Name x pp) (e :: rest) [] pos) env = (do callWith pos (← eval (.Name x pp) env) [] (backTo pos (starEach (e :: rest) env)) (backToKw pos (keywordEach [] env))))
    (he : ∀ env, starEach (e :: rest) env = (false, eval e env) :: starEach rest env) (hp : ∀ env, (backTo pos (starEach rest env)).any (·.1) = false) :
    SoundEP P Γ (.Call (.Name x pp) (e :: rest) [] pos) (eFun fx l) :=
  ⟨fun p Q E K hP ok hx' h => Call_ (built_at hO ok e0 hv hn hx hd (PyProof.Rows.callWith_builtin1 (h1.run pos p _ E _ hP ok hx' fun vs q ws k st r => hf.run (p.to q) Q E K vs ws st.ok r k (h.step st)) (he _) (hp _))) (hc _)⟩
theorem EP_ty {T : String} {x : Str} {e : Expr} {rest : List Expr} {pp pos : Pos} {fx : FX} {l : LX} (hO : FOk Γ) (e0 : nsIn Γ.g.K mainGlobals x = some none) (hv : bootBuiltins x = some (.type T)) (hn : x ≠ "__name__")
    (hx : Γ.env.kindOf x = some .globalImplicit) (hd : (x == ("__debug__" : Str)) = false) (hf : SoundFn Γ (.type T) fx) (h1 : SoundLP P Γ (e :: rest) l)
    (hc : ∀ env, eval (.Call (.Name x pp) (e :: rest) [] pos) env = (do callWith pos (← eval (.Name x pp) env) [] (backTo pos (starEach (e :: rest) env)) (backToKw pos (keywordEach [] env))))
    (he : ∀ env, starEach (e :: rest) env = (false, eval e env) :: starEach rest env) (hp : ∀ env, (backTo pos (starEach rest env)).any (·.1) = false) :
    SoundEP P Γ (.Call (.Name x pp) (e :: rest) [] pos) (eFun fx l) :=
  ⟨fun p Q E K hP ok hx' h => Call_ (built_at hO ok e0 hv hn hx hd (PyProof.Rows.callWith_type1 (h1.run pos p _ E _ hP ok hx' fun vs q ws k st r => hf.run (p.to q) Q E K vs ws st.ok r k (h.step st)) (he _) (hp _))) (hc _)⟩
theorem ints_rvs {role : Roles} {ws : List Value} {ns : List Int} (h : IntsAre ws ns) : RVs role (ns.map .int) ws := by
  induction h with
  | nil => exact .nil
  | cons n t h ih => exact .cons .int ih
theorem RVs.take {r : Roles} {vs : List V} : ∀ {ws : List Value}, RVs r vs ws → ∀ k : Nat, RVs r (vs.take k) (ws.take k) := by
  induction vs with
  | nil => exact fun h k => h.oNil (by rw [List.take_nil, List.take_nil]; exact .nil)
  | cons v vs ih => exact fun h k => h.oCons fun w ws a t => match k with
    | 0 => .nil
    | k + 1 => .cons a (ih t k)
theorem pick_upto (ws : List Value) (b : Nat) : slicePick ws.toArray none (some (b : Int)) none = (ws.take b).toArray := by
  have e : sliceBounds none (some (b : Int)) none ws.toArray.size = (((0 : Nat) : Int), ((min b ws.length : Nat) : Int), 1) := by
    unfold sliceBounds
    simp [Int.not_lt.2 (Int.natCast_nonneg b)]
    omega
  rw [PySem.W.kmk_pick_nat ws.toArray e]
  simp
theorem EP_upto {x : Str} {B : Addr} {ws : List Value} {ns : List Int} {pp hp sp pos : Pos} {k b : Nat} (hO : FOk Γ) (hc : Γ.comp = none) (hk : Γ.fenv.kindOf x = some .local) (hd : (x == ("__debug__" : Str)) = false)
    (hl : Γ.h₀.IsList B ws.toArray) (hi : IntsAre ws ns) (hz : ws.length ≤ lenMax) (hP : ∀ m, P m → m x = some (.ref B)) :
    SoundEP P Γ (.Subscript (.Name x pp) (.Slice none (some (.Constant (.int (b : Int)) k hp)) none sp) pos) (eNew ((ns.take b).map .int)) := ⟨fun p Q E K hPm ok hx h => by
  refine wpAny_Subscript_list_slice ?_ (fun _ _ => rfl)
  rw [env_of hc]
  refine wpAny_Name (wpAny_loadName_local hO.hk hk ok.F.ns (hP p.m hPm) ?_) hd
  rw [evalPart_none]
  refine wpAny_pure ?_
  show wpAny _ _ (eval (.Constant (.int (b : Int)) k hp) Γ.fenv) _ _ _
  refine wpAny_Constant_int ⟨B, ws.toArray, none, some (b : Int), rfl, hl.elim fun o z => ⟨o, ok.F.keep _ _ z.1, z.2⟩, lenMax_le hz, .none, .int _ _, ?_⟩
  have s1 := ok.keep (ok.F.push { cls := .type "slice", data := .fields #[.none, .int (b : Int) p.s.toks, .none] }) (kept_push _) (p.s.toks + 1)
  have fr := fresh_none s1.ok.hs (Nat.le_refl (p.s.heap.push { cls := .type "slice", data := .fields #[.none, .int (b : Int) p.s.toks, .none] }).objs.size)
  have fo := frFresh s1.ok.F (Nat.le_refl (p.s.heap.push { cls := .type "slice", data := .fields #[.none, .int (b : Int) p.s.toks, .none] }).objs.size)
  have get := Heap.get?_push_size (p.s.heap.push { cls := .type "slice", data := .fields #[.none, .int (b : Int) p.s.toks, .none] }) (o := (PySem.W.listOf (ws.take b).toArray 0)) rfl
  rw [Heap.size_push] at fr fo get
  have rv : RVs p.role ((ns.take b).map .int) (ws.take b) := by rw [List.map_take]; exact (ints_rvs hi).take _
  rw [pick_upto]
  exact h _ ⟨_, p.s.toks + 1, _, _⟩ _ hx.run (s1.trans (s1.ok.newlist (c := 0) fr (s1.ok.F.push _) (kept_push _) get fo rv _)) (.ref (upd_self ..))⟩
theorem SP_set {i : Nat} {x : Str} {e : Expr} {pp pos : Pos} {y : EX} (h1 : SoundEP P Γ e y) (h2 : SoundSt Γ i x) (hs : swapsWith e (some (.Name x pp)) pos.line Γ.env = pure false)
    (p : Pt) (Q : QF) (E : QV) (N : KN) (hP : P p.m) (ok : Ok Γ p) (hx : y p.ρ p.H fun v H => N (p.ρ.set i (some v)) H) (n : ThenN Γ p N Q) : wpAny Γ.M p.A (exec (.Assign [.Name x pp] e pos) Γ.env) Q E p.s :=
  wpAny_Assign_Name (h1.run p _ E _ hP ok hx fun v q w k s r => h2.run (p.to q) _ E v w s.ok r fun h' t' m' s' => n _ k (s.s.trans s')) hs
end
open PySem PySem.W PySem.Calls PyProof.Rows
section
variable (g : GC) (base h₀ : Heap) (outer : List Env) (A₀ : Around) (L : Addr) (cdv : Value)
noncomputable abbrev G_cut_quotient : FC :=
  ⟨g, 0, base, h₀, outer, A₀, L, 28, "cut_quotient", stScope (fnS 2), cdv, [], none, ([("top" : Str), ("bottom" : Str)] : List Str).map Slot.loc ++ ([] : List Slot)⟩
noncomputable abbrev G_decimal : FC :=
  ⟨g, 0, base, h₀, outer, A₀, L, 36, "decimal", stScope (fnS 3), cdv, [], none, ([("units" : Str), ("scale" : Str)] : List Str).map Slot.loc ++ ([] : List Slot)⟩
noncomputable abbrev G_units_at : FC :=
  ⟨g, 1, base, h₀, outer, A₀, L, 43, "units_at", stScope (fnS 4), cdv, [], none, ([("a" : Str), ("scale" : Str), ("is_rounded" : Str)] : List Str).map Slot.loc ++ ([.loc "size", .loc "half"] : List Slot)⟩
noncomputable abbrev G_Picture_init : FC :=
  ⟨g, 0, base, h₀, outer, A₀, L, 98, "Picture.__init__", stScope (mtS 18 0), cdv, [], none, ([("self" : Str), ("text" : Str), ("symbols" : Str), ("category" : Str), ("digits" : Str), ("scale" : Str), ("is_signed" : Str), ("size" : Str)] : List Str).map Slot.loc ++ ([] : List Slot)⟩
noncomputable abbrev G_Sign_init : FC :=
  ⟨g, 0, base, h₀, outer, A₀, L, 131, "Sign.__init__", stScope (mtS 19 0), cdv, [], none, ([("self" : Str), ("sign" : Str), ("count" : Str), ("at" : Str)] : List Str).map Slot.loc ++ ([] : List Slot)⟩
noncomputable abbrev G_sign_at : FC :=
  ⟨g, 0, base, h₀, outer, A₀, L, 152, "sign_at", stScope (fnS 20), cdv, [], none, ([("text" : Str), ("at" : Str)] : List Str).map Slot.loc ++ ([] : List Slot)⟩
noncomputable abbrev G_count_at : FC :=
  ⟨g, 0, base, h₀, outer, A₀, L, 157, "count_at", stScope (fnS 21), cdv, [], none, ([("text" : Str), ("at" : Str)] : List Str).map Slot.loc ++ ([.loc "end", .loc "figures"] : List Slot)⟩
noncomputable abbrev G_signs_of : FC :=
  ⟨g, 2, base, h₀, outer, A₀, L, 164, "signs_of", stScope (fnS 22), cdv, [], none, ([("text" : Str)] : List Str).map Slot.loc ++ ([.loc "found", .loc "at", .loc "sign", .loc "count", .loc "end"] : List Slot)⟩
noncomputable abbrev G_symbols_of : FC :=
  ⟨g, 0, base, h₀, outer, A₀, L, 171, "symbols_of", stScope (fnS 23), cdv, [], none, ([("signs" : Str)] : List Str).map Slot.loc ++ ([.loc "found", .loc "one"] : List Slot)⟩
noncomputable abbrev G_size_of_symbols : FC :=
  ⟨g, 0, base, h₀, outer, A₀, L, 176, "size_of_symbols", stScope (fnS 24), cdv, [], none, ([("symbols" : Str)] : List Str).map Slot.loc ++ ([] : List Slot)⟩
noncomputable abbrev G_Order_init : FC :=
  ⟨g, 0, base, h₀, outer, A₀, L, 190, "Order.__init__", stScope (mtS 25 0), cdv, [], none, ([("self" : Str)] : List Str).map Slot.loc ++ ([] : List Slot)⟩
noncomputable abbrev G_Order_digits : FC :=
  ⟨g, 0, base, h₀, outer, A₀, L, 197, "Order.digits", stScope (mtS 25 1), cdv, [], none, ([("self" : Str)] : List Str).map Slot.loc ++ ([] : List Slot)⟩
noncomputable abbrev G_Order_add_behind : FC :=
  ⟨g, 0, base, h₀, outer, A₀, L, 204, "Order.add_behind", stScope (mtS 25 2), cdv, [], none, ([("self" : Str), ("count" : Str), ("is_loose" : Str)] : List Str).map Slot.loc ++ ([] : List Slot)⟩
noncomputable abbrev G_Order_take_nine : FC :=
  ⟨g, 1, base, h₀, outer, A₀, L, 211, "Order.take_nine", stScope (mtS 25 3), cdv, [], none, ([("self" : Str), ("one" : Str)] : List Str).map Slot.loc ++ ([] : List Slot)⟩
noncomputable abbrev G_Order_take_zero : FC :=
  ⟨g, 1, base, h₀, outer, A₀, L, 218, "Order.take_zero", stScope (mtS 25 4), cdv, [], none, ([("self" : Str), ("one" : Str)] : List Str).map Slot.loc ++ ([] : List Slot)⟩
noncomputable abbrev G_Order_take_point : FC :=
  ⟨g, 0, base, h₀, outer, A₀, L, 225, "Order.take_point", stScope (mtS 25 5), cdv, [], none, ([("self" : Str), ("one" : Str)] : List Str).map Slot.loc ++ ([] : List Slot)⟩
noncomputable abbrev G_Order_take_scaling : FC :=
  ⟨g, 1, base, h₀, outer, A₀, L, 232, "Order.take_scaling", stScope (mtS 25 6), cdv, [], none, ([("self" : Str), ("one" : Str)] : List Str).map Slot.loc ++ ([] : List Slot)⟩
noncomputable abbrev G_Order_take_inserted : FC :=
  ⟨g, 0, base, h₀, outer, A₀, L, 239, "Order.take_inserted", stScope (mtS 25 7), cdv, [], none, ([("self" : Str), ("one" : Str)] : List Str).map Slot.loc ++ ([] : List Slot)⟩
noncomputable abbrev G_Order_float_on : FC :=
  ⟨g, 1, base, h₀, outer, A₀, L, 246, "Order.float_on", stScope (mtS 25 8), cdv, [], none, ([("self" : Str), ("one" : Str), ("count" : Str)] : List Str).map Slot.loc ++ ([] : List Slot)⟩
noncomputable abbrev G_Order_may_float : FC :=
  ⟨g, 0, base, h₀, outer, A₀, L, 253, "Order.may_float", stScope (mtS 25 9), cdv, [], none, ([("self" : Str)] : List Str).map Slot.loc ++ ([] : List Slot)⟩
noncomputable abbrev G_Order_take_end : FC :=
  ⟨g, 1, base, h₀, outer, A₀, L, 274, "Order.take_end", stScope (mtS 25 12), cdv, [], none, ([("self" : Str), ("one" : Str)] : List Str).map Slot.loc ++ ([] : List Slot)⟩
noncomputable abbrev G_Order_take_sign : FC :=
  ⟨g, 2, base, h₀, outer, A₀, L, 260, "Order.take_sign", stScope (mtS 25 10), cdv, [], none, ([("self" : Str), ("one" : Str)] : List Str).map Slot.loc ++ ([] : List Slot)⟩
noncomputable abbrev G_Order_take_money : FC :=
  ⟨g, 2, base, h₀, outer, A₀, L, 267, "Order.take_money", stScope (mtS 25 11), cdv, [], none, ([("self" : Str), ("one" : Str)] : List Str).map Slot.loc ++ ([] : List Slot)⟩
noncomputable abbrev G_Order_take : FC :=
  ⟨g, 3, base, h₀, outer, A₀, L, 281, "Order.take", stScope (mtS 25 13), cdv, [], none, ([("self" : Str), ("one" : Str)] : List Str).map Slot.loc ++ ([.loc "sign"] : List Slot)⟩
noncomputable abbrev G_Order_is_whole : FC :=
  ⟨g, 1, base, h₀, outer, A₀, L, 288, "Order.is_whole", stScope (mtS 25 14), cdv, [], none, ([("self" : Str)] : List Str).map Slot.loc ++ ([] : List Slot)⟩
noncomputable abbrev G_Order_scale : FC :=
  ⟨g, 1, base, h₀, outer, A₀, L, 295, "Order.scale", stScope (mtS 25 15), cdv, [], none, ([("self" : Str)] : List Str).map Slot.loc ++ ([] : List Slot)⟩
noncomputable abbrev G_number_picture : FC :=
  ⟨g, 4, base, h₀, outer, A₀, L, 307, "number_picture", stScope (fnS 26), cdv, [], none, ([("text" : Str), ("signs" : Str)] : List Str).map Slot.loc ++ ([.loc "order", .loc "symbols", .loc "one", .loc "plain", .loc "category", .loc "is_signed"] : List Slot)⟩
noncomputable abbrev G_read_picture : FC :=
  ⟨g, 5, base, h₀, outer, A₀, L, 324, "read_picture", stScope (fnS 29), cdv, [], none, ([("text" : Str)] : List Str).map Slot.loc ++ ([.loc "great", .loc "signs"] : List Slot)⟩
noncomputable abbrev G_places : FC :=
  ⟨g, 0, base, h₀, outer, A₀, L, 331, "places", stScope (fnS 30), cdv, [], none, ([("picture" : Str)] : List Str).map Slot.loc ++ ([.loc "found", .loc "sign", .loc "count"] : List Slot)⟩
noncomputable abbrev G_floating_sign : FC :=
  ⟨g, 0, base, h₀, outer, A₀, L, 338, "floating_sign", stScope (fnS 35), cdv, [], none, ([("signs" : Str)] : List Str).map Slot.loc ++ ([.loc "sign"] : List Slot)⟩
noncomputable abbrev G_roles_of : FC :=
  ⟨g, 1, base, h₀, outer, A₀, L, 345, "roles_of", stScope (fnS 36), cdv, [], none, ([("signs" : Str)] : List Str).map Slot.loc ++ ([.loc "plain", .loc "sign", .loc "floating", .loc "found"] : List Slot)⟩
noncomputable abbrev G_is_suppressing : FC :=
  ⟨g, 0, base, h₀, outer, A₀, L, 352, "is_suppressing", stScope (fnS 37), cdv, [], none, ([("role" : Str)] : List Str).map Slot.loc ++ ([] : List Slot)⟩
noncomputable abbrev G_figures_laid : FC :=
  ⟨g, 2, base, h₀, outer, A₀, L, 359, "figures_laid", stScope (fnS 38), cdv, [], none, ([("picture" : Str), ("number" : Str)] : List Str).map Slot.loc ++ ([.loc "units", .loc "text"] : List Slot)⟩
noncomputable abbrev G_sign_text : FC :=
  ⟨g, 0, base, h₀, outer, A₀, L, 366, "sign_text", stScope (fnS 39), cdv, [], none, ([("sign" : Str), ("is_negative" : Str)] : List Str).map Slot.loc ++ ([] : List Slot)⟩
noncomputable abbrev G_insert_text : FC :=
  ⟨g, 0, base, h₀, outer, A₀, L, 373, "insert_text", stScope (fnS 40), cdv, [], none, ([("sign" : Str)] : List Str).map Slot.loc ++ ([] : List Slot)⟩
noncomputable abbrev G_Layer_init : FC :=
  ⟨g, 0, base, h₀, outer, A₀, L, 387, "Layer.__init__", stScope (mtS 41 0), cdv, [], none, ([("self" : Str), ("figures" : Str), ("is_negative" : Str), ("fill" : Str)] : List Str).map Slot.loc ++ ([] : List Slot)⟩
noncomputable abbrev G_Layer_suppress : FC :=
  ⟨g, 0, base, h₀, outer, A₀, L, 394, "Layer.suppress", stScope (mtS 41 1), cdv, [], none, ([("self" : Str)] : List Str).map Slot.loc ++ ([] : List Slot)⟩
noncomputable abbrev G_Layer_figure : FC :=
  ⟨g, 1, base, h₀, outer, A₀, L, 401, "Layer.figure", stScope (mtS 41 2), cdv, [], none, ([("self" : Str), ("role" : Str)] : List Str).map Slot.loc ++ ([.loc "figure"] : List Slot)⟩
noncomputable abbrev G_Layer_place : FC :=
  ⟨g, 2, base, h₀, outer, A₀, L, 408, "Layer.place", stScope (mtS 41 3), cdv, [], none, ([("self" : Str), ("role" : Str), ("sign" : Str)] : List Str).map Slot.loc ++ ([] : List Slot)⟩
noncomputable abbrev G_vanished : FC :=
  ⟨g, 0, base, h₀, outer, A₀, L, 420, "vanished", stScope (fnS 42), cdv, [], none, ([("picture" : Str), ("signs" : Str), ("roles" : Str)] : List Str).map Slot.loc ++ ([] : List Slot)⟩
noncomputable abbrev G_edited_text : FC :=
  ⟨g, 3, base, h₀, outer, A₀, L, 427, "edited_text", stScope (fnS 43), cdv, [], none, ([("picture" : Str), ("number" : Str), ("is_blank_zero" : Str)] : List Str).map Slot.loc ++ ([.loc "signs", .loc "roles", .loc "figures", .loc "is_negative", .loc "layer", .loc "role", .loc "sign"] : List Slot)⟩
noncomputable abbrev G_edited : FC :=
  ⟨g, 4, base, h₀, outer, A₀, L, 433, "edited", stScope (fnS 44), cdv, [], none, ([("picture" : Str), ("number" : Str), ("is_blank_zero" : Str)] : List Str).map Slot.loc ++ ([] : List Slot)⟩
noncomputable abbrev G_law_draw : FC :=
  ⟨g, 0, base, h₀, outer, A₀, L, 457, "_law_draw", stScope (fnS 47), cdv, [], none, ([("pen" : Str), ("many" : Str)] : List Str).map Slot.loc ++ ([.loc "cell", .loc "digit"] : List Slot)⟩
noncomputable abbrev G_law_inserted : FC :=
  ⟨g, 1, base, h₀, outer, A₀, L, 464, "_law_inserted", stScope (fnS 48), cdv, [], none, ([("pen" : Str), ("signs" : Str)] : List Str).map Slot.loc ++ ([.loc "found", .loc "spot", .loc "sign"] : List Slot)⟩
noncomputable abbrev G_law_picture : FC :=
  ⟨g, 2, base, h₀, outer, A₀, L, 471, "_law_picture", stScope (fnS 49), cdv, [], none, ([("pen" : Str), ("most" : Str)] : List Str).map Slot.loc ++ ([.loc "way", .loc "loose", .loc "nines", .loc "float_sign", .loc "ahead", .loc "has_point", .loc "late", .loc "is_loose", .loc "whole", .loc "behind", .loc "sign", .loc "front", .loc "last"] : List Slot)⟩
noncomputable abbrev G_law_cut : FC :=
  ⟨g, 0, base, h₀, outer, A₀, L, 476, "_law_cut", stScope (fnS 50), cdv, cellsFrom (L + 1) (stScope (fnS 50)).names [], none, ([("signs" : Str), ("units" : Str), ("scale" : Str)] ++ [("spot" : Str), ("floats" : Str), ("behind_point" : Str), ("digits" : Str), ("seen" : Str), ("at" : Str), ("sign" : Str), ("is_digit" : Str), ("held" : Str)] : List Str).map (slotOf (stScope (fnS 50)) (L + 1))⟩
noncomputable abbrev G_law_edited : FC :=
  ⟨g, 0, base, h₀, outer, A₀, L, 481, "_law_edited", stScope (fnS 51), cdv, cellsFrom (L + 1) (stScope (fnS 51)).names [], none, ([("signs" : Str), ("units" : Str), ("digits" : Str)] ++ [("figures" : Str), ("floats" : Str), ("cells" : Str), ("first" : Str), ("turn" : Str), ("sign" : Str), ("kind" : Str), ("text" : Str), ("fill" : Str), ("begin" : Str), ("count" : Str), ("words" : Str), ("at" : Str), ("cell" : Str), ("hidden" : Str)] : List Str).map (slotOf (stScope (fnS 51)) (L + 1))⟩
noncomputable abbrev G_law_number : FC :=
  ⟨g, 1, base, h₀, outer, A₀, L, 488, "_law_number", stScope (fnS 52), cdv, [], none, ([("pen" : Str)] : List Str).map Slot.loc ++ ([.loc "units"] : List Slot)⟩
noncomputable abbrev G_law (fa : Addr) : FC :=
  ⟨g, 6, base, h₀, outer, A₀, L, fa, "law", stScope (fnS 53), cdv, [], none, ([("script" : Str)] : List Str).map Slot.loc ++ ([.loc "pen", .loc "text", .loc "units", .loc "scale", .loc "due", .loc "signs", .loc "picture", .loc "turn", .loc "held", .loc "behind_point", .loc "digits"] : List Slot)⟩
end
section
variable {g : GC} (hF : Facts g) {base h₀ : Heap} {outer : List Env} {A₀ : Around} {L : Addr} {cdv : Value}
include hF
theorem S_cut_quotient (hO : FOk (G_cut_quotient g base h₀ outer A₀ L cdv)) :
    SoundB (G_cut_quotient g base h₀ outer A₀ L cdv) (stBody (fnS 2)) B_cut_quotient := by
  have l_top := mkL hO 0 "top"
  have l_bottom := mkL hO 1 "bottom"
  exact (B_cons (S_if (T_cmp (E_cmp1 l_top.e E_int C_lt) (E_cmp1 l_bottom.e E_int C_lt) C_ne) (B_cons (S_ret (E_un (E_bin (E_fn hO (hF.bl 0 _ rfl) Fn_abs (L_cons l_top.e L_nil)) (E_fn hO (hF.bl 0 _ rfl) Fn_abs (L_cons l_bottom.e L_nil)) O_div) O_neg)) B_nil) B_nil) (B_cons (S_ret (E_bin (E_fn hO (hF.bl 0 _ rfl) Fn_abs (L_cons l_top.e L_nil)) (E_fn hO (hF.bl 0 _ rfl) Fn_abs (L_cons l_bottom.e L_nil)) O_div)) B_nil))
theorem D_cut_quotient : SoundF g 1 28 F_cut_quotient :=
  F_fn [("top" : Str), ("bottom" : Str)] [] (k := 2) (hF.fn 0 _ _ _ rfl) rfl (fun _ _ _ _ _ => show _ = _ by kernel_rfl) (fun cdv base h₀ outer A₀ L hO => S_cut_quotient hF hO)
theorem S_decimal (hO : FOk (G_decimal g base h₀ outer A₀ L cdv)) :
    SoundB (G_decimal g base h₀ outer A₀ L cdv) (stBody (fnS 3)) B_decimal := by
  have l_units := mkL hO 0 "units"
  have l_scale := mkL hO 1 "scale"
  exact (B_cons (S_if (T_cmp l_scale.e E_int C_lt) (B_cons (S_ret (E_tup (L_cons (E_bin l_units.e (E_bin E_int (E_un l_scale.e O_neg) O_pow) O_mul) (L_cons E_int L_nil)))) B_nil) B_nil) (B_cons (S_while (T_bool (A_and (T_cmp l_scale.e E_int C_gt) (A_and (T_cmp (E_bin l_units.e E_int O_mod) E_int C_eq) A_and_nil))) (B_cons (S_set (E_bin l_units.e E_int O_div) l_units.s) (B_cons (S_set (E_bin l_scale.e E_int O_sub) l_scale.s) B_nil))) (B_cons (S_ret (E_tup (L_cons l_units.e (L_cons l_scale.e L_nil)))) B_nil)))
theorem D_decimal : SoundF g 1 36 F_decimal := by
  obtain ⟨fo, dV, doc, pm, cdv, ho, hd, hcd, hz⟩ := hF.fn 1 _ _ _ rfl
  exact F_plain (names := [("units" : Str), ("scale" : Str)]) (more := []) ho hd hcd (hb_decimal hF ho hd) (by kernel_rfl) (by decide +kernel) (by decide +kernel) rfl (scope_ncell (by kernel_rfl)) rfl rfl rfl (fun base h₀ outer A₀ L hO => S_decimal hF hO)
theorem S_units_at (hO : FOk (G_units_at g base h₀ outer A₀ L cdv)) :
    SoundB (G_units_at g base h₀ outer A₀ L cdv) (stBody (fnS 4)) B_units_at := by
  have l_a := mkL hO 0 "a"
  have l_scale := mkL hO 1 "scale"
  have l_is_rounded := mkL hO 2 "is_rounded"
  have l_size := mkL hO 3 "size"
  exact (B_cons (S_if (T_cmp l_scale.e (E_idx l_a.e E_int) C_ge) (B_cons (S_ret (E_bin (E_idx l_a.e E_int) (E_bin E_int (E_bin l_scale.e (E_idx l_a.e E_int) O_sub) O_pow) O_mul)) B_nil) B_nil) (B_cons (S_set (E_bin E_int (E_bin (E_idx l_a.e E_int) l_scale.e O_sub) O_pow) l_size.s) (B_cons (S_if (T_not (T_val l_is_rounded.e)) (B_cons (S_ret (E_call hO (hF.gl 0 _ rfl) (hF.keep 0 _ rfl) ((D_cut_quotient hF).mono (by decide : 1 ≤ 1)) (L_cons (E_idx l_a.e E_int) (L_cons l_size.e L_nil)))) B_nil) B_nil) B_bad)))
theorem D_units_at : SoundF g 2 43 F_units_at :=
  F_fn [("a" : Str), ("scale" : Str), ("is_rounded" : Str)] [.loc "size", .loc "half"] (k := 3) (hF.fn 2 _ _ _ rfl) rfl (fun _ _ _ _ _ _ => show _ = _ by kernel_rfl) (fun cdv base h₀ outer A₀ L hO => S_units_at hF hO)
theorem S_Picture_init (hO : FOk (G_Picture_init g base h₀ outer A₀ L cdv)) :
    SoundB (G_Picture_init g base h₀ outer A₀ L cdv) (stBody (mtS 18 0)) B_Picture_init := by
  have l_self := mkL hO 0 "self"
  have l_text := mkL hO 1 "text"
  have l_symbols := mkL hO 2 "symbols"
  have l_category := mkL hO 3 "category"
  have l_digits := mkL hO 4 "digits"
  have l_scale := mkL hO 5 "scale"
  have l_is_signed := mkL hO 6 "is_signed"
  have l_size := mkL hO 7 "size"
  exact (B_cons (S_attr hO (hF.anEq 0 _ rfl) (hF.seta 0 _ _ rfl) l_text.e l_self.e) (B_cons (S_attr hO (hF.anEq 1 _ rfl) (hF.seta 1 _ _ rfl) l_symbols.e l_self.e) (B_cons (S_attr hO (hF.anEq 2 _ rfl) (hF.seta 2 _ _ rfl) l_category.e l_self.e) (B_cons (S_attr hO (hF.anEq 3 _ rfl) (hF.seta 3 _ _ rfl) l_digits.e l_self.e) (B_cons (S_attr hO (hF.anEq 4 _ rfl) (hF.seta 4 _ _ rfl) l_scale.e l_self.e) (B_cons (S_attr hO (hF.anEq 5 _ rfl) (hF.seta 5 _ _ rfl) l_is_signed.e l_self.e) (B_cons (S_attr hO (hF.anEq 6 _ rfl) (hF.seta 6 _ _ rfl) l_size.e l_self.e) B_nil)))))))
theorem D_Picture_init : SoundF g 1 98 F_Picture_init :=
  F_fn [("self" : Str), ("text" : Str), ("symbols" : Str), ("category" : Str), ("digits" : Str), ("scale" : Str), ("is_signed" : Str), ("size" : Str)] [] (k := 8) (hF.fn 27 _ _ _ rfl) rfl (fun _ _ _ _ _ _ _ _ _ _ _ => show _ = _ by kernel_rfl) (fun cdv base h₀ outer A₀ L hO => S_Picture_init hF hO)
theorem S_Sign_init (hO : FOk (G_Sign_init g base h₀ outer A₀ L cdv)) :
    SoundB (G_Sign_init g base h₀ outer A₀ L cdv) (stBody (mtS 19 0)) B_Sign_init := by
  have l_self := mkL hO 0 "self"
  have l_sign := mkL hO 1 "sign"
  have l_count := mkL hO 2 "count"
  have l_at := mkL hO 3 "at"
  exact (B_cons (S_attr hO (hF.anEq 7 _ rfl) (hF.seta 7 _ _ rfl) l_sign.e l_self.e) (B_cons (S_attr hO (hF.anEq 8 _ rfl) (hF.seta 8 _ _ rfl) l_count.e l_self.e) (B_cons (S_attr hO (hF.anEq 9 _ rfl) (hF.seta 9 _ _ rfl) l_at.e l_self.e) B_nil)))
theorem D_Sign_init : SoundF g 1 131 F_Sign_init :=
  F_fn [("self" : Str), ("sign" : Str), ("count" : Str), ("at" : Str)] [] (k := 4) (hF.fn 28 _ _ _ rfl) rfl (fun _ _ _ _ _ _ _ => show _ = _ by kernel_rfl) (fun cdv base h₀ outer A₀ L hO => S_Sign_init hF hO)
theorem S_sign_at (hO : FOk (G_sign_at g base h₀ outer A₀ L cdv)) :
    SoundB (G_sign_at g base h₀ outer A₀ L cdv) (stBody (fnS 20)) B_sign_at := by
  have l_text := mkL hO 0 "text"
  have l_at := mkL hO 1 "at"
  exact (B_cons (S_if (T_cmp (E_slice l_text.e l_at.e (E_bin l_at.e E_int O_add)) (E_tup (L_cons E_str (L_cons E_str L_nil))) C_in) (B_cons (S_ret (E_slice l_text.e l_at.e (E_bin l_at.e E_int O_add))) B_nil) B_nil) (B_cons (S_if (T_cmp (E_idx l_text.e l_at.e) (E_glob hO (hF.gl 31 _ rfl) (fun _ _ => .str)) C_notin) B_bad B_nil) (B_cons (S_ret (E_idx l_text.e l_at.e)) B_nil)))
theorem D_sign_at : SoundF g 1 152 F_sign_at :=
  F_fn [("text" : Str), ("at" : Str)] [] (k := 2) (hF.fn 3 _ _ _ rfl) rfl (fun _ _ _ _ _ => show _ = _ by kernel_rfl) (fun cdv base h₀ outer A₀ L hO => S_sign_at hF hO)
theorem S_count_at (hO : FOk (G_count_at g base h₀ outer A₀ L cdv)) :
    SoundB (G_count_at g base h₀ outer A₀ L cdv) (stBody (fnS 21)) B_count_at := by
  have l_text := mkL hO 0 "text"
  have l_at := mkL hO 1 "at"
  have l_end := mkL hO 2 "end"
  have l_figures := mkL hO 3 "figures"
  exact (B_cons (S_if (T_cmp (E_slice l_text.e l_at.e (E_bin l_at.e E_int O_add)) E_str C_ne) (B_cons (S_ret (E_tup (L_cons E_int (L_cons l_at.e L_nil)))) B_nil) B_nil) (B_cons (S_set (E_bm PySem.F.slot_str_find rfl Fn_find l_text.e (L_cons E_str (L_cons l_at.e L_nil))) l_end.s) (B_cons (S_set (E_slice l_text.e (E_bin l_at.e E_int O_add) (E_fn hO (hF.bl 2 _ rfl) Fn_max (L_cons l_end.e (L_cons l_at.e L_nil)))) l_figures.s) (B_cons (S_if (T_bool (A_or (T_not (T_cmp2 E_int (E_fn hO (hF.bl 1 _ rfl) Fn_len (L_cons l_figures.e L_nil)) E_int C_le C_le)) (A_or (T_cmp (e_comp [("sign" : Str)] hO rfl (I_val (fun _ _ _ => rfl) l_figures.e) (fun C hO' => have c_sign := mkC hO' 0 "sign"; (Tg_nm c_sign.n)) (fun C hO' => have c_sign := mkC hO' 0 "sign"; (Ifs_one (T_cmp c_sign.e (E_glob hO' (hF.gl 35 _ rfl) (fun _ _ => .str)) C_notin))) (fun C hO' => have c_sign := mkC hO' 0 "sign"; c_sign.e)) (E_lst L_nil) C_ne) (A_or (T_cmp (E_ty hO (hF.bl 7 _ rfl) Fn_int (L_cons l_figures.e L_nil)) E_int C_eq) A_or_nil)))) B_bad B_nil) (B_cons (S_ret (E_tup (L_cons (E_ty hO (hF.bl 7 _ rfl) Fn_int (L_cons l_figures.e L_nil)) (L_cons (E_bin l_end.e E_int O_add) L_nil)))) B_nil)))))
theorem D_count_at : SoundF g 1 157 F_count_at :=
  F_fn [("text" : Str), ("at" : Str)] [.loc "end", .loc "figures"] (k := 2) (hF.fn 4 _ _ _ rfl) rfl (fun _ _ _ _ _ => show _ = _ by kernel_rfl) (fun cdv base h₀ outer A₀ L hO => S_count_at hF hO)
theorem S_signs_of (hO : FOk (G_signs_of g base h₀ outer A₀ L cdv)) :
    SoundB (G_signs_of g base h₀ outer A₀ L cdv) (stBody (fnS 22)) B_signs_of := by
  have l_text := mkL hO 0 "text"
  have l_found := mkL hO 1 "found"
  have l_at := mkL hO 2 "at"
  have l_sign := mkL hO 3 "sign"
  have l_count := mkL hO 4 "count"
  have l_end := mkL hO 5 "end"
  exact (B_cons (S_swp (names := [("found" : Str), ("at" : Str)]) rfl (E_tup (L_cons (E_lst L_nil) (L_cons E_int L_nil))) (Rs_cons l_at.n (Rs_cons l_found.n Rs_nil)) rfl) (B_cons (S_while (T_cmp l_at.e (E_fn hO (hF.bl 1 _ rfl) Fn_len (L_cons l_text.e L_nil)) C_lt) (B_cons (S_set (E_call hO (hF.gl 3 _ rfl) (hF.keep 3 _ rfl) ((D_sign_at hF).mono (by decide : 1 ≤ 2)) (L_cons l_text.e (L_cons l_at.e L_nil))) l_sign.s) (B_cons (S_unp rfl (E_call hO (hF.gl 4 _ rfl) (hF.keep 4 _ rfl) ((D_count_at hF).mono (by decide : 1 ≤ 2)) (L_cons l_text.e (L_cons (E_bin l_at.e (E_fn hO (hF.bl 1 _ rfl) Fn_len (L_cons l_sign.e L_nil)) O_add) L_nil))) (Tg_tup (Ts_cons l_count.n (Ts_cons l_end.n Ts_nil)) rfl rfl (by kernel_rfl))) (B_cons (S_if (T_bool (A_and (T_cmp l_end.e (E_bin l_at.e (E_fn hO (hF.bl 1 _ rfl) Fn_len (L_cons l_sign.e L_nil)) O_add) C_gt) (A_and (T_cmp l_sign.e (E_bm PySem.F.slot_str_split rfl split_ALONE (E_glob hO (hF.gl 34 _ rfl) (fun _ _ => .str)) (L_cons E_str L_nil)) C_in) A_and_nil))) B_bad B_nil) (B_cons (S_expr (E_bm PySem.F.slot_list_append rfl Fn_append l_found.e (L_cons (E_new hO (hF.gl 28 _ rfl) (hF.keep 28 _ rfl) (hF.clsSign) ((D_Sign_init hF).mono (by decide : 1 ≤ 2 - 1)) (by decide : 1 ≤ 2) (L_cons l_sign.e (L_cons l_count.e (L_cons l_at.e L_nil)))) L_nil))) (B_cons (S_set l_end.e l_at.s) B_nil)))))) (B_cons (S_ret l_found.e) B_nil)))
theorem D_signs_of : SoundF g 3 164 F_signs_of :=
  F_fn [("text" : Str)] [.loc "found", .loc "at", .loc "sign", .loc "count", .loc "end"] (k := 1) (hF.fn 5 _ _ _ rfl) rfl (fun _ _ _ _ => show _ = _ by kernel_rfl) (fun cdv base h₀ outer A₀ L hO => S_signs_of hF hO)
theorem S_symbols_of (hO : FOk (G_symbols_of g base h₀ outer A₀ L cdv)) :
    SoundB (G_symbols_of g base h₀ outer A₀ L cdv) (stBody (fnS 23)) B_symbols_of := by
  have l_signs := mkL hO 0 "signs"
  have l_found := mkL hO 1 "found"
  have l_one := mkL hO 2 "one"
  exact (B_cons (S_set (E_lst L_nil) l_found.s) (B_cons (S_for (I_val (fun _ _ _ => rfl) l_signs.e) (Tg_nm l_one.n) (B_cons (S_if (T_bool (A_and (T_cmp l_found.e (E_lst L_nil) C_ne) (A_and (T_cmp (E_idx (E_idx l_found.e (E_un E_int O_neg)) E_int) (E_attr hO (hF.anEq 7 _ rfl) (hF.attr 7 _ _ rfl) l_one.e) C_eq) A_and_nil))) (B_cons (S_put (E_tup (L_cons (E_attr hO (hF.anEq 7 _ rfl) (hF.attr 7 _ _ rfl) l_one.e) (L_cons (E_bin (E_idx (E_idx l_found.e (E_un E_int O_neg)) E_int) (E_attr hO (hF.anEq 8 _ rfl) (hF.attr 8 _ _ rfl) l_one.e) O_add) L_nil))) l_found.e (E_un E_int O_neg)) B_nil) (B_cons (S_expr (E_bm PySem.F.slot_list_append rfl Fn_append l_found.e (L_cons (E_tup (L_cons (E_attr hO (hF.anEq 7 _ rfl) (hF.attr 7 _ _ rfl) l_one.e) (L_cons (E_attr hO (hF.anEq 8 _ rfl) (hF.attr 8 _ _ rfl) l_one.e) L_nil))) L_nil))) B_nil)) B_nil) rfl (fun _ => by kernel_rfl)) (B_cons (S_ret l_found.e) B_nil)))
theorem D_symbols_of : SoundF g 1 171 F_symbols_of :=
  F_fn [("signs" : Str)] [.loc "found", .loc "one"] (k := 1) (hF.fn 6 _ _ _ rfl) rfl (fun _ _ _ _ => show _ = _ by kernel_rfl) (fun cdv base h₀ outer A₀ L hO => S_symbols_of hF hO)
theorem S_size_of_symbols (hO : FOk (G_size_of_symbols g base h₀ outer A₀ L cdv)) :
    SoundB (G_size_of_symbols g base h₀ outer A₀ L cdv) (stBody (fnS 24)) B_size_of_symbols := by
  have l_symbols := mkL hO 0 "symbols"
  exact (B_cons (S_ret (E_fn hO (hF.bl 4 _ rfl) Fn_sum (L_cons (e_comp [("sign" : Str), ("count" : Str)] hO rfl (I_val (fun h => nomatch h) l_symbols.e) (fun C hO' => have c_sign := mkC hO' 0 "sign"; have c_count := mkC hO' 1 "count"; (Tg_tup (Ts_cons c_sign.n (Ts_cons c_count.n Ts_nil)) rfl rfl (by kernel_rfl))) (fun C hO' => have c_sign := mkC hO' 0 "sign"; (Ifs_one (T_cmp c_sign.e (E_bm PySem.F.slot_str_split rfl split_LAID_NOWHERE (E_glob hO' (hF.gl 33 _ rfl) (fun _ _ => .str)) (L_cons E_str L_nil)) C_notin))) (fun C hO' => have c_sign := mkC hO' 0 "sign"; have c_count := mkC hO' 1 "count"; (E_bin c_count.e (E_fn hO' (hF.bl 1 _ rfl) Fn_len (L_cons c_sign.e L_nil)) O_mul))) L_nil))) B_nil)
theorem D_size_of_symbols : SoundF g 1 176 F_size_of_symbols :=
  F_fn [("symbols" : Str)] [] (k := 1) (hF.fn 7 _ _ _ rfl) rfl (fun _ _ _ _ => show _ = _ by kernel_rfl) (fun cdv base h₀ outer A₀ L hO => S_size_of_symbols hF hO)
theorem S_Order_init (hO : FOk (G_Order_init g base h₀ outer A₀ L cdv)) :
    SoundB (G_Order_init g base h₀ outer A₀ L cdv) (stBody (mtS 25 0)) B_Order_init := by
  have l_self := mkL hO 0 "self"
  exact (B_cons (S_attr hO (hF.anEq 10 _ rfl) (hF.seta 10 _ _ rfl) E_int l_self.e) (B_cons (S_attr hO (hF.anEq 11 _ rfl) (hF.seta 11 _ _ rfl) E_bool l_self.e) (B_cons (S_attr hO (hF.anEq 12 _ rfl) (hF.seta 12 _ _ rfl) E_str l_self.e) (B_cons (S_attr hO (hF.anEq 13 _ rfl) (hF.seta 13 _ _ rfl) E_int l_self.e) (B_cons (S_attr hO (hF.anEq 14 _ rfl) (hF.seta 14 _ _ rfl) E_int l_self.e) (B_cons (S_attr hO (hF.anEq 15 _ rfl) (hF.seta 15 _ _ rfl) E_int l_self.e) (B_cons (S_attr hO (hF.anEq 16 _ rfl) (hF.seta 16 _ _ rfl) E_str l_self.e) (B_cons (S_attr hO (hF.anEq 17 _ rfl) (hF.seta 17 _ _ rfl) E_int l_self.e) (B_cons (S_attr hO (hF.anEq 18 _ rfl) (hF.seta 18 _ _ rfl) E_int l_self.e) (B_cons (S_attr hO (hF.anEq 19 _ rfl) (hF.seta 19 _ _ rfl) E_int l_self.e) (B_cons (S_attr hO (hF.anEq 20 _ rfl) (hF.seta 20 _ _ rfl) E_bool l_self.e) (B_cons (S_attr hO (hF.anEq 7 _ rfl) (hF.seta 21 _ _ rfl) E_str l_self.e) (B_cons (S_attr hO (hF.anEq 21 _ rfl) (hF.seta 22 _ _ rfl) E_str l_self.e) (B_cons (S_attr hO (hF.anEq 22 _ rfl) (hF.seta 23 _ _ rfl) E_str l_self.e) (B_cons (S_attr hO (hF.anEq 23 _ rfl) (hF.seta 24 _ _ rfl) E_bool l_self.e) (B_cons (S_attr hO (hF.anEq 24 _ rfl) (hF.seta 25 _ _ rfl) E_bool l_self.e) B_nil))))))))))))))))
theorem D_Order_init : SoundF g 1 190 F_Order_init :=
  F_fn [("self" : Str)] [] (k := 1) (hF.fn 29 _ _ _ rfl) rfl (fun _ _ _ _ => show _ = _ by kernel_rfl) (fun cdv base h₀ outer A₀ L hO => S_Order_init hF hO)
theorem S_Order_digits (hO : FOk (G_Order_digits g base h₀ outer A₀ L cdv)) :
    SoundB (G_Order_digits g base h₀ outer A₀ L cdv) (stBody (mtS 25 1)) B_Order_digits := by
  have l_self := mkL hO 0 "self"
  exact (B_cons (S_ret (E_bin (E_bin (E_attr hO (hF.anEq 15 _ rfl) (hF.attr 15 _ _ rfl) l_self.e) (E_attr hO (hF.anEq 17 _ rfl) (hF.attr 17 _ _ rfl) l_self.e) O_add) (E_attr hO (hF.anEq 18 _ rfl) (hF.attr 18 _ _ rfl) l_self.e) O_add)) B_nil)
theorem D_Order_digits : SoundF g 1 197 F_Order_digits :=
  F_fn [("self" : Str)] [] (k := 1) (hF.fn 30 _ _ _ rfl) rfl (fun _ _ _ _ => show _ = _ by kernel_rfl) (fun cdv base h₀ outer A₀ L hO => S_Order_digits hF hO)
theorem S_Order_add_behind (hO : FOk (G_Order_add_behind g base h₀ outer A₀ L cdv)) :
    SoundB (G_Order_add_behind g base h₀ outer A₀ L cdv) (stBody (mtS 25 2)) B_Order_add_behind := by
  have l_self := mkL hO 0 "self"
  have l_count := mkL hO 1 "count"
  have l_is_loose := mkL hO 2 "is_loose"
  exact (B_cons (S_if (T_cmp (E_attr hO (hF.anEq 12 _ rfl) (hF.attr 12 _ _ rfl) l_self.e) E_str C_ne) (B_cons (S_attr hO (hF.anEq 19 _ rfl) (hF.seta 19 _ _ rfl) (E_bin (E_attr hO (hF.anEq 19 _ rfl) (hF.attr 19 _ _ rfl) l_self.e) l_count.e O_add) l_self.e) (B_cons (S_attr hO (hF.anEq 20 _ rfl) (hF.seta 20 _ _ rfl) (E_or (E_attr hO (hF.anEq 20 _ rfl) (hF.attr 20 _ _ rfl) l_self.e) (E_and1 l_is_loose.e)) l_self.e) B_nil)) B_nil) B_nil)
theorem D_Order_add_behind : SoundF g 1 204 F_Order_add_behind :=
  F_fn [("self" : Str), ("count" : Str), ("is_loose" : Str)] [] (k := 3) (hF.fn 31 _ _ _ rfl) rfl (fun _ _ _ _ _ _ => show _ = _ by kernel_rfl) (fun cdv base h₀ outer A₀ L hO => S_Order_add_behind hF hO)
theorem S_Order_take_nine (hO : FOk (G_Order_take_nine g base h₀ outer A₀ L cdv)) :
    SoundB (G_Order_take_nine g base h₀ outer A₀ L cdv) (stBody (mtS 25 3)) B_Order_take_nine := by
  have l_self := mkL hO 0 "self"
  have l_one := mkL hO 1 "one"
  exact (B_cons (S_if (T_bool (A_or (T_cmp (E_attr hO (hF.anEq 14 _ rfl) (hF.attr 14 _ _ rfl) l_self.e) E_int C_gt) (A_or (T_val (E_attr hO (hF.anEq 20 _ rfl) (hF.attr 20 _ _ rfl) l_self.e)) A_or_nil))) B_bad B_nil) (B_cons (S_attr hO (hF.anEq 15 _ rfl) (hF.seta 15 _ _ rfl) (E_bin (E_attr hO (hF.anEq 15 _ rfl) (hF.attr 15 _ _ rfl) l_self.e) (E_attr hO (hF.anEq 8 _ rfl) (hF.attr 8 _ _ rfl) l_one.e) O_add) l_self.e) (B_cons (S_expr (E_meth hO (hF.anEq 33 _ rfl) (hF.meth 1 _ _ _ rfl) ((D_Order_add_behind hF).mono (by decide : 1 ≤ 1)) l_self.e (L_cons (E_attr hO (hF.anEq 8 _ rfl) (hF.attr 8 _ _ rfl) l_one.e) (L_cons E_bool L_nil)))) B_nil)))
theorem D_Order_take_nine : SoundF g 2 211 F_Order_take_nine :=
  F_fn [("self" : Str), ("one" : Str)] [] (k := 2) (hF.fn 32 _ _ _ rfl) rfl (fun _ _ _ _ _ => show _ = _ by kernel_rfl) (fun cdv base h₀ outer A₀ L hO => S_Order_take_nine hF hO)
theorem S_Order_take_zero (hO : FOk (G_Order_take_zero g base h₀ outer A₀ L cdv)) :
    SoundB (G_Order_take_zero g base h₀ outer A₀ L cdv) (stBody (mtS 25 4)) B_Order_take_zero := by
  have l_self := mkL hO 0 "self"
  have l_one := mkL hO 1 "one"
  exact (B_cons (S_if (T_bool (A_or (T_cmp (E_attr hO (hF.anEq 14 _ rfl) (hF.attr 14 _ _ rfl) l_self.e) E_int C_gt) (A_or (T_cmp (E_attr hO (hF.anEq 15 _ rfl) (hF.attr 15 _ _ rfl) l_self.e) E_int C_gt) (A_or (T_cmp (E_attr hO (hF.anEq 18 _ rfl) (hF.attr 18 _ _ rfl) l_self.e) E_int C_gt) (A_or (T_cmp (E_attr hO (hF.anEq 16 _ rfl) (hF.attr 16 _ _ rfl) l_self.e) (E_tup (L_cons E_str (L_cons (E_attr hO (hF.anEq 7 _ rfl) (hF.attr 7 _ _ rfl) l_one.e) L_nil))) C_notin) A_or_nil))))) B_bad B_nil) (B_cons (S_attr hO (hF.anEq 16 _ rfl) (hF.seta 16 _ _ rfl) (E_attr hO (hF.anEq 7 _ rfl) (hF.attr 7 _ _ rfl) l_one.e) l_self.e) (B_cons (S_attr hO (hF.anEq 17 _ rfl) (hF.seta 17 _ _ rfl) (E_bin (E_attr hO (hF.anEq 17 _ rfl) (hF.attr 17 _ _ rfl) l_self.e) (E_attr hO (hF.anEq 8 _ rfl) (hF.attr 8 _ _ rfl) l_one.e) O_add) l_self.e) (B_cons (S_expr (E_meth hO (hF.anEq 33 _ rfl) (hF.meth 1 _ _ _ rfl) ((D_Order_add_behind hF).mono (by decide : 1 ≤ 1)) l_self.e (L_cons (E_attr hO (hF.anEq 8 _ rfl) (hF.attr 8 _ _ rfl) l_one.e) (L_cons E_bool L_nil)))) B_nil))))
theorem D_Order_take_zero : SoundF g 2 218 F_Order_take_zero :=
  F_fn [("self" : Str), ("one" : Str)] [] (k := 2) (hF.fn 33 _ _ _ rfl) rfl (fun _ _ _ _ _ => show _ = _ by kernel_rfl) (fun cdv base h₀ outer A₀ L hO => S_Order_take_zero hF hO)
theorem S_Order_take_point (hO : FOk (G_Order_take_point g base h₀ outer A₀ L cdv)) :
    SoundB (G_Order_take_point g base h₀ outer A₀ L cdv) (stBody (mtS 25 5)) B_Order_take_point := by
  have l_self := mkL hO 0 "self"
  have l_one := mkL hO 1 "one"
  exact (B_cons (S_if (T_bool (A_or (T_cmp (E_attr hO (hF.anEq 12 _ rfl) (hF.attr 12 _ _ rfl) l_self.e) E_str C_ne) (A_or (T_cmp (E_attr hO (hF.anEq 13 _ rfl) (hF.attr 13 _ _ rfl) l_self.e) E_int C_gt) (A_or (T_bool (A_and (T_cmp (E_attr hO (hF.anEq 7 _ rfl) (hF.attr 7 _ _ rfl) l_one.e) E_str C_eq) (A_and (T_cmp (E_attr hO (hF.anEq 14 _ rfl) (hF.attr 14 _ _ rfl) l_self.e) E_int C_gt) A_and_nil))) A_or_nil)))) B_bad B_nil) (B_cons (S_attr hO (hF.anEq 12 _ rfl) (hF.seta 12 _ _ rfl) (E_attr hO (hF.anEq 7 _ rfl) (hF.attr 7 _ _ rfl) l_one.e) l_self.e) B_nil))
theorem D_Order_take_point : SoundF g 1 225 F_Order_take_point :=
  F_fn [("self" : Str), ("one" : Str)] [] (k := 2) (hF.fn 34 _ _ _ rfl) rfl (fun _ _ _ _ _ => show _ = _ by kernel_rfl) (fun cdv base h₀ outer A₀ L hO => S_Order_take_point hF hO)
theorem S_Order_take_scaling (hO : FOk (G_Order_take_scaling g base h₀ outer A₀ L cdv)) :
    SoundB (G_Order_take_scaling g base h₀ outer A₀ L cdv) (stBody (mtS 25 6)) B_Order_take_scaling := by
  have l_self := mkL hO 0 "self"
  have l_one := mkL hO 1 "one"
  exact (B_cons (S_if (T_cmp (E_meth0 hO (hF.anEq 3 _ rfl) (hF.meth 0 _ _ _ rfl) ((D_Order_digits hF).mono (by decide : 1 ≤ 1)) l_self.e) E_int C_gt) (B_cons (S_if (T_bool (A_or (T_cmp (E_attr hO (hF.anEq 12 _ rfl) (hF.attr 12 _ _ rfl) l_self.e) E_str C_ne) (A_or (T_cmp (E_attr hO (hF.anEq 13 _ rfl) (hF.attr 13 _ _ rfl) l_self.e) E_int C_gt) A_or_nil))) B_bad B_nil) (B_cons (S_attr hO (hF.anEq 14 _ rfl) (hF.seta 14 _ _ rfl) (E_bin (E_attr hO (hF.anEq 14 _ rfl) (hF.attr 14 _ _ rfl) l_self.e) (E_attr hO (hF.anEq 8 _ rfl) (hF.attr 8 _ _ rfl) l_one.e) O_add) l_self.e) (B_cons S_ret0 B_nil))) B_nil) (B_cons (S_if (T_bool (A_or (T_cmp (E_attr hO (hF.anEq 12 _ rfl) (hF.attr 12 _ _ rfl) l_self.e) E_str C_eq) (A_or (T_val (E_attr hO (hF.anEq 24 _ rfl) (hF.attr 25 _ _ rfl) l_self.e)) A_or_nil))) B_bad B_nil) (B_cons (S_attr hO (hF.anEq 13 _ rfl) (hF.seta 13 _ _ rfl) (E_bin (E_attr hO (hF.anEq 13 _ rfl) (hF.attr 13 _ _ rfl) l_self.e) (E_attr hO (hF.anEq 8 _ rfl) (hF.attr 8 _ _ rfl) l_one.e) O_add) l_self.e) B_nil)))
theorem D_Order_take_scaling : SoundF g 2 232 F_Order_take_scaling :=
  F_fn [("self" : Str), ("one" : Str)] [] (k := 2) (hF.fn 35 _ _ _ rfl) rfl (fun _ _ _ _ _ => show _ = _ by kernel_rfl) (fun cdv base h₀ outer A₀ L hO => S_Order_take_scaling hF hO)
theorem S_Order_take_inserted (hO : FOk (G_Order_take_inserted g base h₀ outer A₀ L cdv)) :
    SoundB (G_Order_take_inserted g base h₀ outer A₀ L cdv) (stBody (mtS 25 7)) B_Order_take_inserted := by
  have l_self := mkL hO 0 "self"
  exact (B_cons (S_if (T_cmp (E_attr hO (hF.anEq 14 _ rfl) (hF.attr 14 _ _ rfl) l_self.e) E_int C_gt) B_bad B_nil) (B_cons (S_attr hO (hF.anEq 24 _ rfl) (hF.seta 25 _ _ rfl) E_bool l_self.e) B_nil))
theorem D_Order_take_inserted : SoundF g 1 239 F_Order_take_inserted :=
  F_fn [("self" : Str), ("one" : Str)] [] (k := 2) (hF.fn 36 _ _ _ rfl) rfl (fun _ _ _ _ _ => show _ = _ by kernel_rfl) (fun cdv base h₀ outer A₀ L hO => S_Order_take_inserted hF hO)
theorem S_Order_float_on (hO : FOk (G_Order_float_on g base h₀ outer A₀ L cdv)) :
    SoundB (G_Order_float_on g base h₀ outer A₀ L cdv) (stBody (mtS 25 8)) B_Order_float_on := by
  have l_self := mkL hO 0 "self"
  have l_count := mkL hO 2 "count"
  exact (B_cons (S_attr hO (hF.anEq 18 _ rfl) (hF.seta 18 _ _ rfl) (E_bin (E_attr hO (hF.anEq 18 _ rfl) (hF.attr 18 _ _ rfl) l_self.e) l_count.e O_add) l_self.e) (B_cons (S_expr (E_meth hO (hF.anEq 33 _ rfl) (hF.meth 1 _ _ _ rfl) ((D_Order_add_behind hF).mono (by decide : 1 ≤ 1)) l_self.e (L_cons l_count.e (L_cons E_bool L_nil)))) B_nil))
theorem D_Order_float_on : SoundF g 2 246 F_Order_float_on :=
  F_fn [("self" : Str), ("one" : Str), ("count" : Str)] [] (k := 3) (hF.fn 37 _ _ _ rfl) rfl (fun _ _ _ _ _ _ => show _ = _ by kernel_rfl) (fun cdv base h₀ outer A₀ L hO => S_Order_float_on hF hO)
theorem S_Order_may_float (hO : FOk (G_Order_may_float g base h₀ outer A₀ L cdv)) :
    SoundB (G_Order_may_float g base h₀ outer A₀ L cdv) (stBody (mtS 25 9)) B_Order_may_float := by
  have l_self := mkL hO 0 "self"
  exact (B_cons (S_ret (E_and (E_cmp1 (E_attr hO (hF.anEq 15 _ rfl) (hF.attr 15 _ _ rfl) l_self.e) E_int C_eq) (E_and (E_cmp1 (E_attr hO (hF.anEq 17 _ rfl) (hF.attr 17 _ _ rfl) l_self.e) E_int C_eq) (E_and (E_cmp1 (E_attr hO (hF.anEq 13 _ rfl) (hF.attr 13 _ _ rfl) l_self.e) E_int C_eq) (E_and1 (E_cmp1 (E_attr hO (hF.anEq 14 _ rfl) (hF.attr 14 _ _ rfl) l_self.e) E_int C_eq)))))) B_nil)
theorem D_Order_may_float : SoundF g 1 253 F_Order_may_float :=
  F_fn [("self" : Str)] [] (k := 1) (hF.fn 38 _ _ _ rfl) rfl (fun _ _ _ _ => show _ = _ by kernel_rfl) (fun cdv base h₀ outer A₀ L hO => S_Order_may_float hF hO)
theorem S_Order_take_end (hO : FOk (G_Order_take_end g base h₀ outer A₀ L cdv)) :
    SoundB (G_Order_take_end g base h₀ outer A₀ L cdv) (stBody (mtS 25 12)) B_Order_take_end := by
  have l_self := mkL hO 0 "self"
  have l_one := mkL hO 1 "one"
  exact (B_cons (S_if (T_bool (A_or (T_cmp (E_meth0 hO (hF.anEq 3 _ rfl) (hF.meth 0 _ _ _ rfl) ((D_Order_digits hF).mono (by decide : 1 ≤ 1)) l_self.e) E_int C_eq) (A_or (T_cmp (E_attr hO (hF.anEq 7 _ rfl) (hF.attr 21 _ _ rfl) l_self.e) E_str C_ne) (A_or (T_cmp (E_attr hO (hF.anEq 8 _ rfl) (hF.attr 8 _ _ rfl) l_one.e) E_int C_gt) A_or_nil)))) B_bad B_nil) (B_cons (S_attr hO (hF.anEq 7 _ rfl) (hF.seta 21 _ _ rfl) (E_attr hO (hF.anEq 7 _ rfl) (hF.attr 7 _ _ rfl) l_one.e) l_self.e) (B_cons (S_attr hO (hF.anEq 23 _ rfl) (hF.seta 24 _ _ rfl) E_bool l_self.e) B_nil)))
theorem D_Order_take_end : SoundF g 2 274 F_Order_take_end :=
  F_fn [("self" : Str), ("one" : Str)] [] (k := 2) (hF.fn 41 _ _ _ rfl) rfl (fun _ _ _ _ _ => show _ = _ by kernel_rfl) (fun cdv base h₀ outer A₀ L hO => S_Order_take_end hF hO)
theorem S_Order_take_sign (hO : FOk (G_Order_take_sign g base h₀ outer A₀ L cdv)) :
    SoundB (G_Order_take_sign g base h₀ outer A₀ L cdv) (stBody (mtS 25 10)) B_Order_take_sign := by
  have l_self := mkL hO 0 "self"
  have l_one := mkL hO 1 "one"
  exact (B_cons (S_if (T_cmp (E_attr hO (hF.anEq 10 _ rfl) (hF.attr 10 _ _ rfl) l_self.e) E_int C_eq) (B_cons (S_attr hO (hF.anEq 7 _ rfl) (hF.seta 21 _ _ rfl) (E_attr hO (hF.anEq 7 _ rfl) (hF.attr 7 _ _ rfl) l_one.e) l_self.e) (B_cons (S_expr (E_meth hO (hF.anEq 39 _ rfl) (hF.meth 7 _ _ _ rfl) ((D_Order_float_on hF).mono (by decide : 2 ≤ 2)) l_self.e (L_cons l_one.e (L_cons (E_bin (E_attr hO (hF.anEq 8 _ rfl) (hF.attr 8 _ _ rfl) l_one.e) E_int O_sub) L_nil)))) B_nil)) (B_cons (S_if (T_bool (A_and (T_cmp (E_attr hO (hF.anEq 7 _ rfl) (hF.attr 21 _ _ rfl) l_self.e) (E_attr hO (hF.anEq 7 _ rfl) (hF.attr 7 _ _ rfl) l_one.e) C_eq) (A_and (T_cmp (E_attr hO (hF.anEq 21 _ rfl) (hF.attr 22 _ _ rfl) l_self.e) E_str C_eq) (A_and (T_val (E_meth0 hO (hF.anEq 40 _ rfl) (hF.meth 8 _ _ _ rfl) ((D_Order_may_float hF).mono (by decide : 1 ≤ 2)) l_self.e)) A_and_nil)))) (B_cons (S_expr (E_meth hO (hF.anEq 39 _ rfl) (hF.meth 7 _ _ _ rfl) ((D_Order_float_on hF).mono (by decide : 2 ≤ 2)) l_self.e (L_cons l_one.e (L_cons (E_attr hO (hF.anEq 8 _ rfl) (hF.attr 8 _ _ rfl) l_one.e) L_nil)))) B_nil) (B_cons (S_expr (E_meth hO (hF.anEq 43 _ rfl) (hF.meth 11 _ _ _ rfl) ((D_Order_take_end hF).mono (by decide : 2 ≤ 2)) l_self.e (L_cons l_one.e L_nil))) B_nil)) B_nil)) B_nil)
theorem D_Order_take_sign : SoundF g 3 260 F_Order_take_sign :=
  F_fn [("self" : Str), ("one" : Str)] [] (k := 2) (hF.fn 39 _ _ _ rfl) rfl (fun _ _ _ _ _ => show _ = _ by kernel_rfl) (fun cdv base h₀ outer A₀ L hO => S_Order_take_sign hF hO)
theorem S_Order_take_money (hO : FOk (G_Order_take_money g base h₀ outer A₀ L cdv)) :
    SoundB (G_Order_take_money g base h₀ outer A₀ L cdv) (stBody (mtS 25 11)) B_Order_take_money := by
  have l_self := mkL hO 0 "self"
  have l_one := mkL hO 1 "one"
  exact (B_cons (S_if (T_cmp (E_attr hO (hF.anEq 21 _ rfl) (hF.attr 22 _ _ rfl) l_self.e) E_str C_eq) (B_cons (S_if (T_bool (A_or (T_cmp (E_attr hO (hF.anEq 10 _ rfl) (hF.attr 10 _ _ rfl) l_self.e) E_int C_gt) (A_or (T_bool (A_and (T_cmp (E_attr hO (hF.anEq 10 _ rfl) (hF.attr 10 _ _ rfl) l_self.e) E_int C_eq) (A_and (T_bool (A_or (T_cmp (E_attr hO (hF.anEq 7 _ rfl) (hF.attr 21 _ _ rfl) l_self.e) E_str C_eq) (A_or (T_cmp (E_attr hO (hF.anEq 18 _ rfl) (hF.attr 18 _ _ rfl) l_self.e) E_int C_gt) A_or_nil))) A_and_nil))) A_or_nil))) B_bad B_nil) (B_cons (S_attr hO (hF.anEq 21 _ rfl) (hF.seta 22 _ _ rfl) (E_attr hO (hF.anEq 7 _ rfl) (hF.attr 7 _ _ rfl) l_one.e) l_self.e) (B_cons (S_expr (E_meth hO (hF.anEq 39 _ rfl) (hF.meth 7 _ _ _ rfl) ((D_Order_float_on hF).mono (by decide : 2 ≤ 2)) l_self.e (L_cons l_one.e (L_cons (E_bin (E_attr hO (hF.anEq 8 _ rfl) (hF.attr 8 _ _ rfl) l_one.e) E_int O_sub) L_nil)))) B_nil))) (B_cons (S_if (T_val (E_meth0 hO (hF.anEq 40 _ rfl) (hF.meth 8 _ _ _ rfl) ((D_Order_may_float hF).mono (by decide : 1 ≤ 2)) l_self.e)) (B_cons (S_expr (E_meth hO (hF.anEq 39 _ rfl) (hF.meth 7 _ _ _ rfl) ((D_Order_float_on hF).mono (by decide : 2 ≤ 2)) l_self.e (L_cons l_one.e (L_cons (E_attr hO (hF.anEq 8 _ rfl) (hF.attr 8 _ _ rfl) l_one.e) L_nil)))) B_nil) B_bad) B_nil)) B_nil)
theorem D_Order_take_money : SoundF g 3 267 F_Order_take_money :=
  F_fn [("self" : Str), ("one" : Str)] [] (k := 2) (hF.fn 40 _ _ _ rfl) rfl (fun _ _ _ _ _ => show _ = _ by kernel_rfl) (fun cdv base h₀ outer A₀ L hO => S_Order_take_money hF hO)
theorem S_Order_take (hO : FOk (G_Order_take g base h₀ outer A₀ L cdv)) :
    SoundB (G_Order_take g base h₀ outer A₀ L cdv) (stBody (mtS 25 13)) B_Order_take := by
  have l_self := mkL hO 0 "self"
  have l_one := mkL hO 1 "one"
  have l_sign := mkL hO 2 "sign"
  exact (B_cons (S_set (E_attr hO (hF.anEq 7 _ rfl) (hF.attr 7 _ _ rfl) l_one.e) l_sign.s) (B_cons (S_if (T_bool (A_or (T_val (E_attr hO (hF.anEq 23 _ rfl) (hF.attr 24 _ _ rfl) l_self.e)) (A_or (T_bool (A_and (T_val (E_attr hO (hF.anEq 11 _ rfl) (hF.attr 11 _ _ rfl) l_self.e)) (A_and (T_cmp l_sign.e (E_tup (L_cons E_str (L_cons E_str (L_cons E_str L_nil)))) C_notin) A_and_nil))) (A_or (T_bool (A_and (T_cmp l_sign.e E_str C_eq) (A_and (T_cmp (E_attr hO (hF.anEq 10 _ rfl) (hF.attr 10 _ _ rfl) l_self.e) E_int C_gt) A_and_nil))) A_or_nil)))) B_bad B_nil) (B_cons (S_if (T_cmp l_sign.e E_str C_eq) (B_cons (S_attr hO (hF.anEq 11 _ rfl) (hF.seta 11 _ _ rfl) E_bool l_self.e) B_nil) (B_cons (S_if (T_cmp l_sign.e E_str C_eq) (B_cons (S_expr (E_meth hO (hF.anEq 34 _ rfl) (hF.meth 2 _ _ _ rfl) ((D_Order_take_nine hF).mono (by decide : 2 ≤ 3)) l_self.e (L_cons l_one.e L_nil))) B_nil) (B_cons (S_if (T_cmp l_sign.e (E_tup (L_cons E_str (L_cons E_str L_nil))) C_in) (B_cons (S_expr (E_meth hO (hF.anEq 35 _ rfl) (hF.meth 3 _ _ _ rfl) ((D_Order_take_zero hF).mono (by decide : 2 ≤ 3)) l_self.e (L_cons l_one.e L_nil))) B_nil) (B_cons (S_if (T_cmp l_sign.e (E_tup (L_cons E_str (L_cons E_str L_nil))) C_in) (B_cons (S_expr (E_meth hO (hF.anEq 36 _ rfl) (hF.meth 4 _ _ _ rfl) ((D_Order_take_point hF).mono (by decide : 1 ≤ 3)) l_self.e (L_cons l_one.e L_nil))) B_nil) (B_cons (S_if (T_cmp l_sign.e E_str C_eq) (B_cons (S_expr (E_meth hO (hF.anEq 37 _ rfl) (hF.meth 5 _ _ _ rfl) ((D_Order_take_scaling hF).mono (by decide : 2 ≤ 3)) l_self.e (L_cons l_one.e L_nil))) B_nil) (B_cons (S_if (T_cmp l_sign.e (E_tup (L_cons E_str (L_cons E_str L_nil))) C_in) (B_cons (S_expr (E_meth hO (hF.anEq 41 _ rfl) (hF.meth 9 _ _ _ rfl) ((D_Order_take_sign hF).mono (by decide : 3 ≤ 3)) l_self.e (L_cons l_one.e L_nil))) B_nil) (B_cons (S_if (T_cmp l_sign.e E_str C_eq) (B_cons (S_expr (E_meth hO (hF.anEq 42 _ rfl) (hF.meth 10 _ _ _ rfl) ((D_Order_take_money hF).mono (by decide : 3 ≤ 3)) l_self.e (L_cons l_one.e L_nil))) B_nil) (B_cons (S_if (T_cmp l_sign.e (E_tup (L_cons E_str (L_cons E_str L_nil))) C_in) (B_cons (S_expr (E_meth hO (hF.anEq 43 _ rfl) (hF.meth 11 _ _ _ rfl) ((D_Order_take_end hF).mono (by decide : 2 ≤ 3)) l_self.e (L_cons l_one.e L_nil))) B_nil) (B_cons (S_expr (E_meth hO (hF.anEq 38 _ rfl) (hF.meth 6 _ _ _ rfl) ((D_Order_take_inserted hF).mono (by decide : 1 ≤ 3)) l_self.e (L_cons l_one.e L_nil))) B_nil)) B_nil)) B_nil)) B_nil)) B_nil)) B_nil)) B_nil)) B_nil)) (B_cons (S_attr hO (hF.anEq 10 _ rfl) (hF.seta 10 _ _ rfl) (E_bin (E_attr hO (hF.anEq 10 _ rfl) (hF.attr 10 _ _ rfl) l_self.e) E_int O_add) l_self.e) (B_cons (S_attr hO (hF.anEq 22 _ rfl) (hF.seta 23 _ _ rfl) l_sign.e l_self.e) B_nil)))))
theorem D_Order_take : SoundF g 4 281 F_Order_take :=
  F_fn [("self" : Str), ("one" : Str)] [.loc "sign"] (k := 2) (hF.fn 42 _ _ _ rfl) rfl (fun _ _ _ _ _ => show _ = _ by kernel_rfl) (fun cdv base h₀ outer A₀ L hO => S_Order_take hF hO)
theorem S_Order_is_whole (hO : FOk (G_Order_is_whole g base h₀ outer A₀ L cdv)) :
    SoundB (G_Order_is_whole g base h₀ outer A₀ L cdv) (stBody (mtS 25 14)) B_Order_is_whole := by
  have l_self := mkL hO 0 "self"
  exact (B_cons (S_if (T_bool (A_or (T_cmp (E_meth0 hO (hF.anEq 3 _ rfl) (hF.meth 0 _ _ _ rfl) ((D_Order_digits hF).mono (by decide : 1 ≤ 1)) l_self.e) E_int C_eq) (A_or (T_cmp (E_attr hO (hF.anEq 22 _ rfl) (hF.attr 23 _ _ rfl) l_self.e) (E_tup (L_cons E_str (L_cons E_str L_nil))) C_in) A_or_nil))) (B_cons (S_ret E_bool) B_nil) B_nil) (B_cons (S_ret (E_cmp1 (E_bin (E_bin (E_meth0 hO (hF.anEq 3 _ rfl) (hF.meth 0 _ _ _ rfl) ((D_Order_digits hF).mono (by decide : 1 ≤ 1)) l_self.e) (E_attr hO (hF.anEq 13 _ rfl) (hF.attr 13 _ _ rfl) l_self.e) O_add) (E_attr hO (hF.anEq 14 _ rfl) (hF.attr 14 _ _ rfl) l_self.e) O_add) (E_glob hO (hF.gl 40 _ rfl) (fun _ _ => .int)) C_le)) B_nil))
theorem D_Order_is_whole : SoundF g 2 288 F_Order_is_whole :=
  F_fn [("self" : Str)] [] (k := 1) (hF.fn 43 _ _ _ rfl) rfl (fun _ _ _ _ => show _ = _ by kernel_rfl) (fun cdv base h₀ outer A₀ L hO => S_Order_is_whole hF hO)
theorem S_Order_scale (hO : FOk (G_Order_scale g base h₀ outer A₀ L cdv)) :
    SoundB (G_Order_scale g base h₀ outer A₀ L cdv) (stBody (mtS 25 15)) B_Order_scale := by
  have l_self := mkL hO 0 "self"
  exact (B_cons (S_if (T_cmp (E_attr hO (hF.anEq 13 _ rfl) (hF.attr 13 _ _ rfl) l_self.e) E_int C_gt) (B_cons (S_ret (E_bin (E_attr hO (hF.anEq 13 _ rfl) (hF.attr 13 _ _ rfl) l_self.e) (E_meth0 hO (hF.anEq 3 _ rfl) (hF.meth 0 _ _ _ rfl) ((D_Order_digits hF).mono (by decide : 1 ≤ 1)) l_self.e) O_add)) B_nil) B_nil) (B_cons (S_ret (E_bin (E_attr hO (hF.anEq 19 _ rfl) (hF.attr 19 _ _ rfl) l_self.e) (E_attr hO (hF.anEq 14 _ rfl) (hF.attr 14 _ _ rfl) l_self.e) O_sub)) B_nil))
theorem D_Order_scale : SoundF g 2 295 F_Order_scale :=
  F_fn [("self" : Str)] [] (k := 1) (hF.fn 44 _ _ _ rfl) rfl (fun _ _ _ _ => show _ = _ by kernel_rfl) (fun cdv base h₀ outer A₀ L hO => S_Order_scale hF hO)
theorem S_number_picture (hO : FOk (G_number_picture g base h₀ outer A₀ L cdv)) :
    SoundB (G_number_picture g base h₀ outer A₀ L cdv) (stBody (fnS 26)) B_number_picture := by
  have l_text := mkL hO 0 "text"
  have l_signs := mkL hO 1 "signs"
  have l_order := mkL hO 2 "order"
  have l_symbols := mkL hO 3 "symbols"
  have l_one := mkL hO 4 "one"
  have l_plain := mkL hO 5 "plain"
  have l_category := mkL hO 6 "category"
  have l_is_signed := mkL hO 7 "is_signed"
  exact (B_cons (S_swp (names := [("order" : Str), ("symbols" : Str)]) rfl (E_tup (L_cons (E_new0 hO (hF.gl 29 _ rfl) (hF.keep 29 _ rfl) (hF.clsOrder) ((D_Order_init hF).mono (by decide : 1 ≤ 4 - 1)) (by decide : 1 ≤ 4)) (L_cons (E_call hO (hF.gl 6 _ rfl) (hF.keep 6 _ rfl) ((D_symbols_of hF).mono (by decide : 1 ≤ 4)) (L_cons l_signs.e L_nil)) L_nil))) (Rs_cons l_symbols.n (Rs_cons l_order.n Rs_nil)) rfl) (B_cons (S_for (I_val (fun _ _ _ => rfl) l_signs.e) (Tg_nm l_one.n) (B_cons (S_expr (E_meth hO (hF.anEq 44 _ rfl) (hF.meth 12 _ _ _ rfl) ((D_Order_take hF).mono (by decide : 4 ≤ 4)) l_order.e (L_cons l_one.e L_nil))) B_nil) rfl (fun _ => by kernel_rfl)) (B_cons (S_if (T_bool (A_or (T_not (T_val (E_meth0 hO (hF.anEq 45 _ rfl) (hF.meth 13 _ _ _ rfl) ((D_Order_is_whole hF).mono (by decide : 2 ≤ 4)) l_order.e))) (A_or (T_cmp (E_call hO (hF.gl 7 _ rfl) (hF.keep 7 _ rfl) ((D_size_of_symbols hF).mono (by decide : 1 ≤ 4)) (L_cons l_symbols.e L_nil)) (E_glob hO (hF.gl 41 _ rfl) (fun _ _ => .int)) C_gt) A_or_nil))) B_bad B_nil) (B_cons (S_set (E_cmp1 (e_comp [("sign" : Str), ("count" : Str)] hO rfl (I_val (fun h => nomatch h) l_symbols.e) (fun C hO' => have c_sign := mkC hO' 0 "sign"; have c_count := mkC hO' 1 "count"; (Tg_tup (Ts_cons c_sign.n (Ts_cons c_count.n Ts_nil)) rfl rfl (by kernel_rfl))) (fun C hO' => have c_sign := mkC hO' 0 "sign"; (Ifs_one (T_cmp c_sign.e (E_bm PySem.F.slot_str_split rfl split_PLAIN_SIGNS (E_glob hO' (hF.gl 32 _ rfl) (fun _ _ => .str)) (L_cons E_str L_nil)) C_notin))) (fun C hO' => have c_sign := mkC hO' 0 "sign"; c_sign.e)) (E_lst L_nil) C_eq) l_plain.s) (B_cons (S_set (E_if (T_val l_plain.e) E_str E_str) l_category.s) (B_cons (S_set (E_or (E_attr hO (hF.anEq 11 _ rfl) (hF.attr 11 _ _ rfl) l_order.e) (E_and1 (E_cmp1 (E_attr hO (hF.anEq 7 _ rfl) (hF.attr 21 _ _ rfl) l_order.e) E_str C_ne))) l_is_signed.s) (B_cons (S_ret (E_new hO (hF.gl 27 _ rfl) (hF.keep 27 _ rfl) (hF.clsPicture) ((D_Picture_init hF).mono (by decide : 1 ≤ 4 - 1)) (by decide : 1 ≤ 4) (L_cons l_text.e (L_cons l_symbols.e (L_cons l_category.e (L_cons (E_meth0 hO (hF.anEq 3 _ rfl) (hF.meth 0 _ _ _ rfl) ((D_Order_digits hF).mono (by decide : 1 ≤ 4)) l_order.e) (L_cons (E_meth0 hO (hF.anEq 4 _ rfl) (hF.meth 14 _ _ _ rfl) ((D_Order_scale hF).mono (by decide : 2 ≤ 4)) l_order.e) (L_cons l_is_signed.e (L_cons (E_call hO (hF.gl 7 _ rfl) (hF.keep 7 _ rfl) ((D_size_of_symbols hF).mono (by decide : 1 ≤ 4)) (L_cons l_symbols.e L_nil)) L_nil))))))))) B_nil)))))))
theorem D_number_picture : SoundF g 5 307 F_number_picture :=
  F_fn [("text" : Str), ("signs" : Str)] [.loc "order", .loc "symbols", .loc "one", .loc "plain", .loc "category", .loc "is_signed"] (k := 2) (hF.fn 8 _ _ _ rfl) rfl (fun _ _ _ _ _ => show _ = _ by kernel_rfl) (fun cdv base h₀ outer A₀ L hO => S_number_picture hF hO)
theorem S_read_picture (hO : FOk (G_read_picture g base h₀ outer A₀ L cdv)) :
    SoundB (G_read_picture g base h₀ outer A₀ L cdv) (stBody (fnS 29)) B_read_picture := by
  have l_text := mkL hO 0 "text"
  have l_great := mkL hO 1 "great"
  have l_signs := mkL hO 2 "signs"
  exact (B_cons (S_if (T_cmp (E_fn hO (hF.bl 1 _ rfl) Fn_len (L_cons l_text.e L_nil)) (E_glob hO (hF.gl 39 _ rfl) (fun _ _ => .int)) C_gt) B_bad B_nil) (B_cons (S_set (E_bm PySem.F.slot_str_join rfl Fn_join E_str (L_cons (e_comp [("sign" : Str)] hO rfl (I_val (fun _ _ _ => rfl) l_text.e) (fun C hO' => have c_sign := mkC hO' 0 "sign"; (Tg_nm c_sign.n)) (fun C hO' => Ifs_nil) (fun C hO' => have c_sign := mkC hO' 0 "sign"; (E_if (T_cmp2 E_str c_sign.e E_str C_le C_le) (E_fn hO' (hF.bl 6 _ rfl) Fn_chr (L_cons (E_bin (E_fn hO' (hF.bl 5 _ rfl) Fn_ord (L_cons c_sign.e L_nil)) E_int O_sub) L_nil)) c_sign.e))) L_nil)) l_great.s) (B_cons (S_set (E_call hO (hF.gl 5 _ rfl) (hF.keep 5 _ rfl) ((D_signs_of hF).mono (by decide : 3 ≤ 5)) (L_cons l_great.e L_nil)) l_signs.s) (B_cons (S_if (T_cmp (e_comp [("one" : Str)] hO rfl (I_val (fun _ _ _ => rfl) l_signs.e) (fun C hO' => have c_one := mkC hO' 0 "one"; (Tg_nm c_one.n)) (fun C hO' => have c_one := mkC hO' 0 "one"; (Ifs_one (T_cmp (E_attr hO' (hF.anEq 7 _ rfl) (hF.attr 7 _ _ rfl) c_one.e) (E_tup (L_cons E_str (L_cons E_str L_nil))) C_in))) (fun C hO' => have c_one := mkC hO' 0 "one"; c_one.e)) (E_lst L_nil) C_ne) B_bad B_nil) (B_cons (S_ret (E_call hO (hF.gl 8 _ rfl) (hF.keep 8 _ rfl) ((D_number_picture hF).mono (by decide : 5 ≤ 5)) (L_cons l_great.e (L_cons l_signs.e L_nil)))) B_nil)))))
theorem D_read_picture : SoundF g 6 324 F_read_picture :=
  F_fn [("text" : Str)] [.loc "great", .loc "signs"] (k := 1) (hF.fn 9 _ _ _ rfl) rfl (fun _ _ _ _ => show _ = _ by kernel_rfl) (fun cdv base h₀ outer A₀ L hO => S_read_picture hF hO)
theorem S_places (hO : FOk (G_places g base h₀ outer A₀ L cdv)) :
    SoundB (G_places g base h₀ outer A₀ L cdv) (stBody (fnS 30)) B_places := by
  have l_picture := mkL hO 0 "picture"
  have l_found := mkL hO 1 "found"
  have l_sign := mkL hO 2 "sign"
  have l_count := mkL hO 3 "count"
  exact (B_cons (S_set (E_lst L_nil) l_found.s) (B_cons (S_for (I_val (fun h => nomatch h) (E_attr hO (hF.anEq 1 _ rfl) (hF.attr 1 _ _ rfl) l_picture.e)) (Tg_tup (Ts_cons l_sign.n (Ts_cons l_count.n Ts_nil)) rfl rfl (by kernel_rfl)) (B_cons (S_expr (E_bm PySem.F.slot_list_extend rfl Fn_extend l_found.e (L_cons (E_bin (E_lst (L_cons l_sign.e L_nil)) l_count.e O_mul) L_nil))) B_nil) rfl (fun _ => by kernel_rfl)) (B_cons (S_ret l_found.e) B_nil)))
theorem D_places : SoundF g 1 331 F_places :=
  F_fn [("picture" : Str)] [.loc "found", .loc "sign", .loc "count"] (k := 1) (hF.fn 10 _ _ _ rfl) rfl (fun _ _ _ _ => show _ = _ by kernel_rfl) (fun cdv base h₀ outer A₀ L hO => S_places hF hO)
theorem S_floating_sign (hO : FOk (G_floating_sign g base h₀ outer A₀ L cdv)) :
    SoundB (G_floating_sign g base h₀ outer A₀ L cdv) (stBody (fnS 35)) B_floating_sign := by
  have l_signs := mkL hO 0 "signs"
  have l_sign := mkL hO 1 "sign"
  exact (B_cons (S_for (I_val (fun _ _ _ => rfl) (E_glob hO (hF.gl 36 _ rfl) (fun _ _ => .str))) (Tg_nm l_sign.n) (B_cons (S_if (T_cmp (E_bm PySem.F.slot_list_count rfl Fn_count l_signs.e (L_cons l_sign.e L_nil)) E_int C_gt) (B_cons (S_ret l_sign.e) B_nil) B_nil) B_nil) rfl (fun _ => by kernel_rfl)) (B_cons (S_ret E_str) B_nil))
theorem D_floating_sign : SoundF g 1 338 F_floating_sign :=
  F_fn [("signs" : Str)] [.loc "sign"] (k := 1) (hF.fn 11 _ _ _ rfl) rfl (fun _ _ _ _ => show _ = _ by kernel_rfl) (fun cdv base h₀ outer A₀ L hO => S_floating_sign hF hO)
theorem S_roles_of (hO : FOk (G_roles_of g base h₀ outer A₀ L cdv)) :
    SoundB (G_roles_of g base h₀ outer A₀ L cdv) (stBody (fnS 36)) B_roles_of := by
  have l_signs := mkL hO 0 "signs"
  have l_plain := mkL hO 1 "plain"
  have l_sign := mkL hO 2 "sign"
  have l_floating := mkL hO 3 "floating"
  have l_found := mkL hO 4 "found"
  exact (B_cons (S_set (s_dict hO (by kernel_rfl) (fun _ => by kernel_rfl) (by decide) (by decide) (by decide +kernel)) l_plain.s) (B_cons (S_for (I_val (fun _ _ _ => rfl) (E_glob hO (hF.gl 37 _ rfl) (fun _ _ => .str))) (Tg_nm l_sign.n) (B_cons (S_put E_str l_plain.e l_sign.e) B_nil) rfl (fun _ => by kernel_rfl)) (B_cons (S_swp (names := [("floating" : Str), ("found" : Str)]) rfl (E_tup (L_cons (E_call hO (hF.gl 11 _ rfl) (hF.keep 11 _ rfl) ((D_floating_sign hF).mono (by decide : 1 ≤ 1)) (L_cons l_signs.e L_nil)) (L_cons (E_lst L_nil) L_nil))) (Rs_cons l_found.n (Rs_cons l_floating.n Rs_nil)) rfl) (B_cons (S_for (I_val (fun _ _ _ => rfl) l_signs.e) (Tg_nm l_sign.n) (B_cons (S_if (T_cmp l_sign.e l_floating.e C_eq) (B_cons (S_expr (E_bm PySem.F.slot_list_append rfl Fn_append l_found.e (L_cons (E_if (T_cmp E_str l_found.e C_in) E_str E_str) L_nil))) B_nil) (B_cons (S_expr (E_bm PySem.F.slot_list_append rfl Fn_append l_found.e (L_cons (E_bm PySem.F.slot_dict_get rfl Fn_get l_plain.e (L_cons l_sign.e (L_cons E_str L_nil))) L_nil))) B_nil)) B_nil) rfl (fun _ => by kernel_rfl)) (B_cons (S_ret l_found.e) B_nil)))))
theorem D_roles_of : SoundF g 2 345 F_roles_of :=
  F_fn [("signs" : Str)] [.loc "plain", .loc "sign", .loc "floating", .loc "found"] (k := 1) (hF.fn 12 _ _ _ rfl) rfl (fun _ _ _ _ => show _ = _ by kernel_rfl) (fun cdv base h₀ outer A₀ L hO => S_roles_of hF hO)
theorem S_is_suppressing (hO : FOk (G_is_suppressing g base h₀ outer A₀ L cdv)) :
    SoundB (G_is_suppressing g base h₀ outer A₀ L cdv) (stBody (fnS 37)) B_is_suppressing := by
  have l_role := mkL hO 0 "role"
  exact (B_cons (S_ret (E_cmp1 l_role.e (E_tup (L_cons E_str (L_cons E_str (L_cons E_str L_nil)))) C_in)) B_nil)
theorem D_is_suppressing : SoundF g 1 352 F_is_suppressing :=
  F_fn [("role" : Str)] [] (k := 1) (hF.fn 13 _ _ _ rfl) rfl (fun _ _ _ _ => show _ = _ by kernel_rfl) (fun cdv base h₀ outer A₀ L hO => S_is_suppressing hF hO)
theorem S_figures_laid (hO : FOk (G_figures_laid g base h₀ outer A₀ L cdv)) :
    SoundB (G_figures_laid g base h₀ outer A₀ L cdv) (stBody (fnS 38)) B_figures_laid := by
  have l_picture := mkL hO 0 "picture"
  have l_number := mkL hO 1 "number"
  have l_units := mkL hO 2 "units"
  have l_text := mkL hO 3 "text"
  exact (B_cons (S_set (E_bin (E_fn hO (hF.bl 0 _ rfl) Fn_abs (L_cons (E_call hO (hF.gl 2 _ rfl) (hF.keep 2 _ rfl) ((D_units_at hF).mono (by decide : 2 ≤ 2)) (L_cons l_number.e (L_cons (E_attr hO (hF.anEq 4 _ rfl) (hF.attr 4 _ _ rfl) l_picture.e) (L_cons E_bool L_nil)))) L_nil)) (E_bin E_int (E_attr hO (hF.anEq 3 _ rfl) (hF.attr 3 _ _ rfl) l_picture.e) O_pow) O_mod) l_units.s) (B_cons (S_set (E_if (T_cmp l_units.e E_int C_gt) (E_ty hO (hF.bl 8 _ rfl) Fn_str (L_cons l_units.e L_nil)) E_str) l_text.s) (B_cons (S_ret (E_tup (L_cons (E_bin (E_bin E_str (E_bin (E_attr hO (hF.anEq 3 _ rfl) (hF.attr 3 _ _ rfl) l_picture.e) (E_fn hO (hF.bl 1 _ rfl) Fn_len (L_cons l_text.e L_nil)) O_sub) O_mul) l_text.e O_add) (L_cons (E_and (E_cmp1 (E_idx l_number.e E_int) E_int C_lt) (E_and1 (E_cmp1 l_units.e E_int C_gt))) L_nil)))) B_nil)))
theorem D_figures_laid : SoundF g 3 359 F_figures_laid :=
  F_fn [("picture" : Str), ("number" : Str)] [.loc "units", .loc "text"] (k := 2) (hF.fn 14 _ _ _ rfl) rfl (fun _ _ _ _ _ => show _ = _ by kernel_rfl) (fun cdv base h₀ outer A₀ L hO => S_figures_laid hF hO)
theorem S_sign_text (hO : FOk (G_sign_text g base h₀ outer A₀ L cdv)) :
    SoundB (G_sign_text g base h₀ outer A₀ L cdv) (stBody (fnS 39)) B_sign_text := by
  have l_sign := mkL hO 0 "sign"
  have l_is_negative := mkL hO 1 "is_negative"
  exact (B_cons (S_if (T_cmp l_sign.e E_str C_eq) (B_cons (S_ret (E_if (T_val l_is_negative.e) E_str E_str)) B_nil) B_nil) (B_cons (S_if (T_cmp l_sign.e E_str C_eq) (B_cons (S_ret (E_if (T_val l_is_negative.e) E_str (E_glob hO (hF.gl 38 _ rfl) (fun _ _ => .str)))) B_nil) B_nil) (B_cons (S_if (T_cmp l_sign.e (E_tup (L_cons E_str (L_cons E_str L_nil))) C_in) (B_cons (S_ret (E_if (T_val l_is_negative.e) l_sign.e (E_bin (E_glob hO (hF.gl 38 _ rfl) (fun _ _ => .str)) E_int O_mul))) B_nil) B_nil) (B_cons (S_ret l_sign.e) B_nil))))
theorem D_sign_text : SoundF g 1 366 F_sign_text :=
  F_fn [("sign" : Str), ("is_negative" : Str)] [] (k := 2) (hF.fn 15 _ _ _ rfl) rfl (fun _ _ _ _ _ => show _ = _ by kernel_rfl) (fun cdv base h₀ outer A₀ L hO => S_sign_text hF hO)
theorem S_insert_text (hO : FOk (G_insert_text g base h₀ outer A₀ L cdv)) :
    SoundB (G_insert_text g base h₀ outer A₀ L cdv) (stBody (fnS 40)) B_insert_text := by
  have l_sign := mkL hO 0 "sign"
  exact (B_cons (S_ret (E_if (T_cmp l_sign.e E_str C_eq) (E_glob hO (hF.gl 38 _ rfl) (fun _ _ => .str)) l_sign.e)) B_nil)
theorem D_insert_text : SoundF g 1 373 F_insert_text :=
  F_fn [("sign" : Str)] [] (k := 1) (hF.fn 16 _ _ _ rfl) rfl (fun _ _ _ _ => show _ = _ by kernel_rfl) (fun cdv base h₀ outer A₀ L hO => S_insert_text hF hO)
theorem S_Layer_init (hO : FOk (G_Layer_init g base h₀ outer A₀ L cdv)) :
    SoundB (G_Layer_init g base h₀ outer A₀ L cdv) (stBody (mtS 41 0)) B_Layer_init := by
  have l_self := mkL hO 0 "self"
  have l_figures := mkL hO 1 "figures"
  have l_is_negative := mkL hO 2 "is_negative"
  have l_fill := mkL hO 3 "fill"
  exact (B_cons (S_attr hO (hF.anEq 25 _ rfl) (hF.seta 26 _ _ rfl) l_figures.e l_self.e) (B_cons (S_attr hO (hF.anEq 26 _ rfl) (hF.seta 27 _ _ rfl) l_is_negative.e l_self.e) (B_cons (S_attr hO (hF.anEq 27 _ rfl) (hF.seta 28 _ _ rfl) l_fill.e l_self.e) (B_cons (S_attr hO (hF.anEq 28 _ rfl) (hF.seta 29 _ _ rfl) E_int l_self.e) (B_cons (S_attr hO (hF.anEq 29 _ rfl) (hF.seta 30 _ _ rfl) (E_lst L_nil) l_self.e) (B_cons (S_attr hO (hF.anEq 30 _ rfl) (hF.seta 31 _ _ rfl) E_bool l_self.e) (B_cons (S_attr hO (hF.anEq 31 _ rfl) (hF.seta 32 _ _ rfl) E_bool l_self.e) (B_cons (S_attr hO (hF.anEq 32 _ rfl) (hF.seta 33 _ _ rfl) (E_un E_int O_neg) l_self.e) B_nil))))))))
theorem D_Layer_init : SoundF g 1 387 F_Layer_init :=
  F_fn [("self" : Str), ("figures" : Str), ("is_negative" : Str), ("fill" : Str)] [] (k := 4) (hF.fn 45 _ _ _ rfl) rfl (fun _ _ _ _ _ _ _ => show _ = _ by kernel_rfl) (fun cdv base h₀ outer A₀ L hO => S_Layer_init hF hO)
theorem S_Layer_suppress (hO : FOk (G_Layer_suppress g base h₀ outer A₀ L cdv)) :
    SoundB (G_Layer_suppress g base h₀ outer A₀ L cdv) (stBody (mtS 41 1)) B_Layer_suppress := by
  have l_self := mkL hO 0 "self"
  exact (B_cons (S_attr hO (hF.anEq 32 _ rfl) (hF.seta 33 _ _ rfl) (E_fn hO (hF.bl 1 _ rfl) Fn_len (L_cons (E_attr hO (hF.anEq 29 _ rfl) (hF.attr 30 _ _ rfl) l_self.e) L_nil)) l_self.e) (B_cons (S_expr (E_bm PySem.F.slot_list_append rfl Fn_append (E_attr hO (hF.anEq 29 _ rfl) (hF.attr 30 _ _ rfl) l_self.e) (L_cons (E_attr hO (hF.anEq 27 _ rfl) (hF.attr 28 _ _ rfl) l_self.e) L_nil))) B_nil))
theorem D_Layer_suppress : SoundF g 1 394 F_Layer_suppress :=
  F_fn [("self" : Str)] [] (k := 1) (hF.fn 46 _ _ _ rfl) rfl (fun _ _ _ _ => show _ = _ by kernel_rfl) (fun cdv base h₀ outer A₀ L hO => S_Layer_suppress hF hO)
theorem S_Layer_figure (hO : FOk (G_Layer_figure g base h₀ outer A₀ L cdv)) :
    SoundB (G_Layer_figure g base h₀ outer A₀ L cdv) (stBody (mtS 41 2)) B_Layer_figure := by
  have l_self := mkL hO 0 "self"
  have l_role := mkL hO 1 "role"
  have l_figure := mkL hO 2 "figure"
  exact (B_cons (S_set (E_idx (E_attr hO (hF.anEq 25 _ rfl) (hF.attr 26 _ _ rfl) l_self.e) (E_attr hO (hF.anEq 28 _ rfl) (hF.attr 29 _ _ rfl) l_self.e)) l_figure.s) (B_cons (S_attr hO (hF.anEq 28 _ rfl) (hF.seta 29 _ _ rfl) (E_bin (E_attr hO (hF.anEq 28 _ rfl) (hF.attr 29 _ _ rfl) l_self.e) E_int O_add) l_self.e) (B_cons (S_attr hO (hF.anEq 31 _ rfl) (hF.seta 32 _ _ rfl) (E_or (E_attr hO (hF.anEq 31 _ rfl) (hF.attr 32 _ _ rfl) l_self.e) (E_and1 (E_call hO (hF.gl 13 _ rfl) (hF.keep 13 _ rfl) ((D_is_suppressing hF).mono (by decide : 1 ≤ 1)) (L_cons l_role.e L_nil)))) l_self.e) (B_cons (S_attr hO (hF.anEq 30 _ rfl) (hF.seta 31 _ _ rfl) (E_or (E_attr hO (hF.anEq 30 _ rfl) (hF.attr 31 _ _ rfl) l_self.e) (E_or (E_cmp1 l_role.e E_str C_eq) (E_and1 (E_cmp1 l_figure.e E_str C_ne)))) l_self.e) (B_cons (S_if (T_val (E_attr hO (hF.anEq 30 _ rfl) (hF.attr 31 _ _ rfl) l_self.e)) (B_cons (S_expr (E_bm PySem.F.slot_list_append rfl Fn_append (E_attr hO (hF.anEq 29 _ rfl) (hF.attr 30 _ _ rfl) l_self.e) (L_cons l_figure.e L_nil))) B_nil) (B_cons (S_expr (E_meth0 hO (hF.anEq 46 _ rfl) (hF.meth 15 _ _ _ rfl) ((D_Layer_suppress hF).mono (by decide : 1 ≤ 1)) l_self.e)) B_nil)) B_nil)))))
theorem D_Layer_figure : SoundF g 2 401 F_Layer_figure :=
  F_fn [("self" : Str), ("role" : Str)] [.loc "figure"] (k := 2) (hF.fn 47 _ _ _ rfl) rfl (fun _ _ _ _ _ => show _ = _ by kernel_rfl) (fun cdv base h₀ outer A₀ L hO => S_Layer_figure hF hO)
theorem S_Layer_place (hO : FOk (G_Layer_place g base h₀ outer A₀ L cdv)) :
    SoundB (G_Layer_place g base h₀ outer A₀ L cdv) (stBody (mtS 41 3)) B_Layer_place := by
  have l_self := mkL hO 0 "self"
  have l_role := mkL hO 1 "role"
  have l_sign := mkL hO 2 "sign"
  exact (B_cons (S_if (T_bool (A_or (T_cmp l_role.e E_str C_eq) (A_or (T_val (E_call hO (hF.gl 13 _ rfl) (hF.keep 13 _ rfl) ((D_is_suppressing hF).mono (by decide : 1 ≤ 2)) (L_cons l_role.e L_nil))) A_or_nil))) (B_cons (S_expr (E_meth hO (hF.anEq 47 _ rfl) (hF.meth 16 _ _ _ rfl) ((D_Layer_figure hF).mono (by decide : 2 ≤ 2)) l_self.e (L_cons l_role.e L_nil))) B_nil) (B_cons (S_if (T_cmp l_role.e E_str C_eq) (B_cons (S_attr hO (hF.anEq 31 _ rfl) (hF.seta 32 _ _ rfl) E_bool l_self.e) (B_cons (S_expr (E_meth0 hO (hF.anEq 46 _ rfl) (hF.meth 15 _ _ _ rfl) ((D_Layer_suppress hF).mono (by decide : 1 ≤ 2)) l_self.e)) B_nil)) (B_cons (S_if (T_bool (A_and (T_cmp l_role.e E_str C_eq) (A_and (T_val (E_attr hO (hF.anEq 31 _ rfl) (hF.attr 32 _ _ rfl) l_self.e)) (A_and (T_not (T_val (E_attr hO (hF.anEq 30 _ rfl) (hF.attr 31 _ _ rfl) l_self.e))) A_and_nil)))) (B_cons (S_expr (E_meth0 hO (hF.anEq 46 _ rfl) (hF.meth 15 _ _ _ rfl) ((D_Layer_suppress hF).mono (by decide : 1 ≤ 2)) l_self.e)) B_nil) (B_cons (S_if (T_cmp l_role.e E_str C_eq) (B_cons (S_expr (E_bm PySem.F.slot_list_append rfl Fn_append (E_attr hO (hF.anEq 29 _ rfl) (hF.attr 30 _ _ rfl) l_self.e) (L_cons (E_call hO (hF.gl 16 _ rfl) (hF.keep 16 _ rfl) ((D_insert_text hF).mono (by decide : 1 ≤ 2)) (L_cons l_sign.e L_nil)) L_nil))) B_nil) (B_cons (S_if (T_cmp l_role.e E_str C_eq) (B_cons (S_expr (E_bm PySem.F.slot_list_append rfl Fn_append (E_attr hO (hF.anEq 29 _ rfl) (hF.attr 30 _ _ rfl) l_self.e) (L_cons (E_call hO (hF.gl 15 _ rfl) (hF.keep 15 _ rfl) ((D_sign_text hF).mono (by decide : 1 ≤ 2)) (L_cons l_sign.e (L_cons (E_attr hO (hF.anEq 26 _ rfl) (hF.attr 27 _ _ rfl) l_self.e) L_nil))) L_nil))) B_nil) (B_cons (S_if (T_cmp l_role.e E_str C_ne) (B_cons (S_attr hO (hF.anEq 30 _ rfl) (hF.seta 31 _ _ rfl) E_bool l_self.e) (B_cons (S_expr (E_bm PySem.F.slot_list_append rfl Fn_append (E_attr hO (hF.anEq 29 _ rfl) (hF.attr 30 _ _ rfl) l_self.e) (L_cons (E_if (T_cmp l_role.e E_str C_eq) l_sign.e E_str) L_nil))) B_nil)) B_nil) B_nil)) B_nil)) B_nil)) B_nil)) B_nil)) B_nil)
theorem D_Layer_place : SoundF g 3 408 F_Layer_place :=
  F_fn [("self" : Str), ("role" : Str), ("sign" : Str)] [] (k := 3) (hF.fn 48 _ _ _ rfl) rfl (fun _ _ _ _ _ _ => show _ = _ by kernel_rfl) (fun cdv base h₀ outer A₀ L hO => S_Layer_place hF hO)
theorem S_vanished (hO : FOk (G_vanished g base h₀ outer A₀ L cdv)) :
    SoundB (G_vanished g base h₀ outer A₀ L cdv) (stBody (fnS 42)) B_vanished := by
  have l_picture := mkL hO 0 "picture"
  have l_signs := mkL hO 1 "signs"
  have l_roles := mkL hO 2 "roles"
  exact (B_cons (S_if (T_cmp E_str l_roles.e C_notin) (B_cons (S_ret (E_bin (E_glob hO (hF.gl 38 _ rfl) (fun _ _ => .str)) (E_attr hO (hF.anEq 6 _ rfl) (hF.attr 6 _ _ rfl) l_picture.e) O_mul)) B_nil) B_nil) (B_cons (S_ret (E_bm PySem.F.slot_str_join rfl Fn_join E_str (L_cons (e_comp [("role" : Str), ("sign" : Str)] hO rfl (I_zip hO (hF.bl 13 _ rfl) l_roles.e l_signs.e) (fun C hO' => have c_role := mkC hO' 0 "role"; have c_sign := mkC hO' 1 "sign"; (Tg_tup (Ts_cons c_role.n (Ts_cons c_sign.n Ts_nil)) rfl rfl (by kernel_rfl))) (fun C hO' => Ifs_nil) (fun C hO' => have c_role := mkC hO' 0 "role"; have c_sign := mkC hO' 1 "sign"; (E_if (T_cmp c_role.e (E_tup (L_cons E_str (L_cons E_str L_nil))) C_in) E_str (E_if (T_cmp c_role.e E_str C_eq) c_sign.e (E_bin E_str (E_fn hO' (hF.bl 1 _ rfl) Fn_len (L_cons c_sign.e L_nil)) O_mul))))) L_nil))) B_nil))
theorem D_vanished : SoundF g 1 420 F_vanished :=
  F_fn [("picture" : Str), ("signs" : Str), ("roles" : Str)] [] (k := 3) (hF.fn 17 _ _ _ rfl) rfl (fun _ _ _ _ _ _ => show _ = _ by kernel_rfl) (fun cdv base h₀ outer A₀ L hO => S_vanished hF hO)
theorem S_edited_text (hO : FOk (G_edited_text g base h₀ outer A₀ L cdv)) :
    SoundB (G_edited_text g base h₀ outer A₀ L cdv) (stBody (fnS 43)) B_edited_text := by
  have l_picture := mkL hO 0 "picture"
  have l_number := mkL hO 1 "number"
  have l_is_blank_zero := mkL hO 2 "is_blank_zero"
  have l_signs := mkL hO 3 "signs"
  have l_roles := mkL hO 4 "roles"
  have l_figures := mkL hO 5 "figures"
  have l_is_negative := mkL hO 6 "is_negative"
  have l_layer := mkL hO 7 "layer"
  have l_role := mkL hO 8 "role"
  have l_sign := mkL hO 9 "sign"
  exact (B_cons (S_set (E_call hO (hF.gl 10 _ rfl) (hF.keep 10 _ rfl) ((D_places hF).mono (by decide : 1 ≤ 3)) (L_cons l_picture.e L_nil)) l_signs.s) (B_cons (S_set (E_call hO (hF.gl 12 _ rfl) (hF.keep 12 _ rfl) ((D_roles_of hF).mono (by decide : 2 ≤ 3)) (L_cons l_signs.e L_nil)) l_roles.s) (B_cons (S_unp rfl (E_call hO (hF.gl 14 _ rfl) (hF.keep 14 _ rfl) ((D_figures_laid hF).mono (by decide : 3 ≤ 3)) (L_cons l_picture.e (L_cons l_number.e L_nil))) (Tg_tup (Ts_cons l_figures.n (Ts_cons l_is_negative.n Ts_nil)) rfl rfl (by kernel_rfl))) (B_cons (S_if (T_cmp l_figures.e (E_bin E_str (E_fn hO (hF.bl 1 _ rfl) Fn_len (L_cons l_figures.e L_nil)) O_mul) C_eq) (B_cons (S_if (T_val l_is_blank_zero.e) (B_cons (S_ret (E_bin (E_glob hO (hF.gl 38 _ rfl) (fun _ _ => .str)) (E_attr hO (hF.anEq 6 _ rfl) (hF.attr 6 _ _ rfl) l_picture.e) O_mul)) B_nil) B_nil) (B_cons (S_if (T_cmp E_str l_roles.e C_notin) (B_cons (S_ret (E_call hO (hF.gl 17 _ rfl) (hF.keep 17 _ rfl) ((D_vanished hF).mono (by decide : 1 ≤ 3)) (L_cons l_picture.e (L_cons l_signs.e (L_cons l_roles.e L_nil))))) B_nil) B_nil) B_nil)) B_nil) (B_cons (S_set (E_new hO (hF.gl 30 _ rfl) (hF.keep 30 _ rfl) (hF.clsLayer) ((D_Layer_init hF).mono (by decide : 1 ≤ 3 - 1)) (by decide : 1 ≤ 3) (L_cons l_figures.e (L_cons l_is_negative.e (L_cons (E_if (T_cmp E_str l_roles.e C_in) E_str (E_glob hO (hF.gl 38 _ rfl) (fun _ _ => .str))) L_nil)))) l_layer.s) (B_cons (S_for (I_zip hO (hF.bl 13 _ rfl) l_roles.e l_signs.e) (Tg_tup (Ts_cons l_role.n (Ts_cons l_sign.n Ts_nil)) rfl rfl (by kernel_rfl)) (B_cons (S_expr (E_meth hO (hF.anEq 48 _ rfl) (hF.meth 17 _ _ _ rfl) ((D_Layer_place hF).mono (by decide : 3 ≤ 3)) l_layer.e (L_cons l_role.e (L_cons l_sign.e L_nil)))) B_nil) rfl (fun _ => by kernel_rfl)) (B_cons (S_if (T_cmp E_str l_roles.e C_in) (B_cons (S_put (E_call hO (hF.gl 15 _ rfl) (hF.keep 15 _ rfl) ((D_sign_text hF).mono (by decide : 1 ≤ 3)) (L_cons (E_idx l_signs.e (E_bm PySem.F.slot_list_index rfl Fn_index l_roles.e (L_cons E_str L_nil))) (L_cons l_is_negative.e L_nil))) (E_attr hO (hF.anEq 29 _ rfl) (hF.attr 30 _ _ rfl) l_layer.e) (E_attr hO (hF.anEq 32 _ rfl) (hF.attr 33 _ _ rfl) l_layer.e)) B_nil) B_nil) (B_cons (S_ret (E_bm PySem.F.slot_str_join rfl Fn_join E_str (L_cons (E_attr hO (hF.anEq 29 _ rfl) (hF.attr 30 _ _ rfl) l_layer.e) L_nil))) B_nil))))))))
theorem D_edited_text : SoundF g 4 427 F_edited_text :=
  F_fn [("picture" : Str), ("number" : Str), ("is_blank_zero" : Str)] [.loc "signs", .loc "roles", .loc "figures", .loc "is_negative", .loc "layer", .loc "role", .loc "sign"] (k := 3) (hF.fn 18 _ _ _ rfl) rfl (fun _ _ _ _ _ _ => show _ = _ by kernel_rfl) (fun cdv base h₀ outer A₀ L hO => S_edited_text hF hO)
theorem S_edited (hO : FOk (G_edited g base h₀ outer A₀ L cdv)) :
    SoundB (G_edited g base h₀ outer A₀ L cdv) (stBody (fnS 44)) B_edited := by
  have l_picture := mkL hO 0 "picture"
  have l_number := mkL hO 1 "number"
  have l_is_blank_zero := mkL hO 2 "is_blank_zero"
  exact (B_cons (S_ret (E_ty hO (hF.bl 10 _ rfl) Fn_bytes (L_cons (e_comp [("sign" : Str)] hO rfl (I_val (fun _ _ _ => rfl) (E_call hO (hF.gl 18 _ rfl) (hF.keep 18 _ rfl) ((D_edited_text hF).mono (by decide : 4 ≤ 4)) (L_cons l_picture.e (L_cons l_number.e (L_cons l_is_blank_zero.e L_nil))))) (fun C hO' => have c_sign := mkC hO' 0 "sign"; (Tg_nm c_sign.n)) (fun C hO' => Ifs_nil) (fun C hO' => have c_sign := mkC hO' 0 "sign"; (E_fn hO' (hF.bl 5 _ rfl) Fn_ord (L_cons c_sign.e L_nil)))) L_nil))) B_nil)
theorem D_edited : SoundF g 5 433 F_edited := by
  obtain ⟨fo, dV, doc, pm, cdv, ho, hd, hcd, hz⟩ := hF.fn 19 _ _ _ rfl
  exact F_plain (names := [("picture" : Str), ("number" : Str), ("is_blank_zero" : Str)]) (more := []) ho hd hcd (hb_edited hF ho hd) (by kernel_rfl) (by decide +kernel) (by decide +kernel) rfl (scope_ncell (by kernel_rfl)) rfl rfl rfl (fun base h₀ outer A₀ L hO => S_edited hF hO)
theorem S_law_draw (hO : FOk (G_law_draw g base h₀ outer A₀ L cdv)) :
    SoundB (G_law_draw g base h₀ outer A₀ L cdv) (stBody (fnS 47)) B_law_draw := by
  have l_pen := mkL hO 0 "pen"
  have l_many := mkL hO 1 "many"
  have l_cell := mkL hO 2 "cell"
  have l_digit := mkL hO 3 "digit"
  exact (B_cons (S_if (T_cmp (E_idx l_pen.e E_int) E_int C_eq) (B_cons (S_put (E_bin (E_idx l_pen.e E_int) E_int O_add) l_pen.e E_int) (B_cons (S_if (T_cmp (E_idx l_pen.e E_int) (E_fn hO (hF.bl 1 _ rfl) Fn_len (L_cons (E_idx l_pen.e E_int) L_nil)) C_gt) (B_cons (S_ret (E_bin (E_bin (E_bin (E_bin (E_bin (E_idx l_pen.e E_int) E_int O_add) (E_bin (E_idx l_pen.e E_int) E_int O_add) O_mul) (E_bin (E_idx l_pen.e E_int) E_int O_add) O_mul) E_int O_div) l_many.e O_mod)) B_nil) B_nil) (B_cons (S_set (E_idx (E_idx l_pen.e E_int) (E_bin (E_idx l_pen.e E_int) E_int O_sub)) l_cell.s) (B_cons (S_if (T_cmp (E_fn hO (hF.bl 0 _ rfl) Fn_abs (L_cons l_cell.e L_nil)) (E_bin E_int E_int O_pow) C_lt) (B_cons (S_ret (E_bin l_cell.e l_many.e O_mod)) B_nil) B_nil) (B_cons (S_put (E_bin (E_bin E_int (E_bin (E_fn hO (hF.bl 0 _ rfl) Fn_abs (L_cons l_cell.e L_nil)) (E_bin E_int E_int O_pow) O_sub) O_mul) (E_if (T_cmp l_cell.e E_int C_lt) E_int E_int) O_add) l_pen.e E_int) B_nil))))) B_nil) (B_cons (S_set (E_bin (E_idx l_pen.e E_int) l_many.e O_mod) l_digit.s) (B_cons (S_put (E_bin (E_idx l_pen.e E_int) l_many.e O_div) l_pen.e E_int) (B_cons (S_ret l_digit.e) B_nil))))
theorem D_law_draw : SoundF g 1 457 F_law_draw :=
  F_fn [("pen" : Str), ("many" : Str)] [.loc "cell", .loc "digit"] (k := 2) (hF.fn 20 _ _ _ rfl) rfl (fun _ _ _ _ _ => show _ = _ by kernel_rfl) (fun cdv base h₀ outer A₀ L hO => S_law_draw hF hO)
theorem S_law_inserted (hO : FOk (G_law_inserted g base h₀ outer A₀ L cdv)) :
    SoundB (G_law_inserted g base h₀ outer A₀ L cdv) (stBody (fnS 48)) B_law_inserted := by
  have l_pen := mkL hO 0 "pen"
  have l_signs := mkL hO 1 "signs"
  have l_found := mkL hO 2 "found"
  have l_spot := mkL hO 3 "spot"
  have l_sign := mkL hO 4 "sign"
  exact (B_cons (S_set (E_lst L_nil) l_found.s) (B_cons (S_for (I_enum hO (hF.bl 11 _ rfl) l_signs.e) (Tg_tup (Ts_cons l_spot.n (Ts_cons l_sign.n Ts_nil)) rfl rfl (by kernel_rfl)) (B_cons (S_if (T_bool (A_and (T_cmp l_spot.e E_int C_gt) (A_and (T_cmp (E_call hO (hF.gl 20 _ rfl) (hF.keep 20 _ rfl) ((D_law_draw hF).mono (by decide : 1 ≤ 1)) (L_cons l_pen.e (L_cons E_int L_nil))) E_int C_eq) A_and_nil))) (B_cons (S_expr (E_bm PySem.F.slot_list_append rfl Fn_append l_found.e (L_cons (E_idx (E_tup (L_cons E_str (L_cons E_str (L_cons E_str (L_cons E_str L_nil))))) (E_call hO (hF.gl 20 _ rfl) (hF.keep 20 _ rfl) ((D_law_draw hF).mono (by decide : 1 ≤ 1)) (L_cons l_pen.e (L_cons E_int L_nil)))) L_nil))) B_nil) B_nil) (B_cons (S_expr (E_bm PySem.F.slot_list_append rfl Fn_append l_found.e (L_cons l_sign.e L_nil))) B_nil)) rfl (fun _ => by kernel_rfl)) (B_cons (S_ret l_found.e) B_nil)))
theorem D_law_inserted : SoundF g 2 464 F_law_inserted :=
  F_fn [("pen" : Str), ("signs" : Str)] [.loc "found", .loc "spot", .loc "sign"] (k := 2) (hF.fn 21 _ _ _ rfl) rfl (fun _ _ _ _ _ => show _ = _ by kernel_rfl) (fun cdv base h₀ outer A₀ L hO => S_law_inserted hF hO)
theorem S_law_picture (hO : FOk (G_law_picture g base h₀ outer A₀ L cdv)) :
    SoundB (G_law_picture g base h₀ outer A₀ L cdv) (stBody (fnS 49)) B_law_picture := by
  have l_pen := mkL hO 0 "pen"
  have l_most := mkL hO 1 "most"
  have l_way := mkL hO 2 "way"
  have l_loose := mkL hO 3 "loose"
  have l_nines := mkL hO 4 "nines"
  have l_float_sign := mkL hO 5 "float_sign"
  have l_ahead := mkL hO 6 "ahead"
  have l_has_point := mkL hO 7 "has_point"
  have l_late := mkL hO 8 "late"
  have l_is_loose := mkL hO 9 "is_loose"
  have l_whole := mkL hO 10 "whole"
  have l_behind := mkL hO 11 "behind"
  have l_sign := mkL hO 12 "sign"
  have l_front := mkL hO 13 "front"
  have l_last := mkL hO 14 "last"
  exact (B_cons (S_swp (names := [("way" : Str), ("loose" : Str), ("nines" : Str)]) rfl (E_tup (L_cons (E_call hO (hF.gl 20 _ rfl) (hF.keep 20 _ rfl) ((D_law_draw hF).mono (by decide : 1 ≤ 2)) (L_cons l_pen.e (L_cons E_int L_nil))) (L_cons (E_bin E_int (E_call hO (hF.gl 20 _ rfl) (hF.keep 20 _ rfl) ((D_law_draw hF).mono (by decide : 1 ≤ 2)) (L_cons l_pen.e (L_cons l_most.e L_nil))) O_add) (L_cons (E_call hO (hF.gl 20 _ rfl) (hF.keep 20 _ rfl) ((D_law_draw hF).mono (by decide : 1 ≤ 2)) (L_cons l_pen.e (L_cons l_most.e L_nil))) L_nil)))) (Rs_cons l_nines.n (Rs_cons l_loose.n (Rs_cons l_way.n Rs_nil))) rfl) (B_cons (S_set (E_idx (E_tup (L_cons E_str (L_cons E_str (L_cons E_str (L_cons E_str (L_cons E_str (L_cons E_str L_nil))))))) l_way.e) l_float_sign.s) (B_cons (S_set (E_if (T_cmp l_way.e E_int C_lt) (E_bin (E_lst (L_cons l_float_sign.e L_nil)) (E_bin l_loose.e (E_if (T_cmp l_way.e (E_tup (L_cons E_int (L_cons E_int (L_cons E_int L_nil)))) C_in) E_int E_int) O_add) O_mul) (E_bin (E_lst (L_cons E_str L_nil)) l_loose.e O_mul)) l_ahead.s) (B_cons (S_swp (names := [("has_point" : Str), ("late" : Str)]) rfl (E_tup (L_cons (E_call hO (hF.gl 20 _ rfl) (hF.keep 20 _ rfl) ((D_law_draw hF).mono (by decide : 1 ≤ 2)) (L_cons l_pen.e (L_cons E_int L_nil))) (L_cons (E_call hO (hF.gl 20 _ rfl) (hF.keep 20 _ rfl) ((D_law_draw hF).mono (by decide : 1 ≤ 2)) (L_cons l_pen.e (L_cons l_most.e L_nil))) L_nil))) (Rs_cons l_late.n (Rs_cons l_has_point.n Rs_nil)) rfl) (B_cons (S_set (E_and (E_cmp1 l_nines.e E_int C_eq) (E_and (E_cmp1 l_way.e E_int C_lt) (E_and1 (E_cmp1 (E_call hO (hF.gl 20 _ rfl) (hF.keep 20 _ rfl) ((D_law_draw hF).mono (by decide : 1 ≤ 2)) (L_cons l_pen.e (L_cons E_int L_nil))) E_int C_eq)))) l_is_loose.s) (B_cons (S_set (E_call hO (hF.gl 21 _ rfl) (hF.keep 21 _ rfl) ((D_law_inserted hF).mono (by decide : 2 ≤ 2)) (L_cons l_pen.e (L_cons (E_bin l_ahead.e (E_bin (E_lst (L_cons E_str L_nil)) l_nines.e O_mul) O_add) L_nil))) l_whole.s) (B_cons (S_set (E_lst L_nil) l_behind.s) (B_cons (S_if (T_bool (A_and (T_cmp l_has_point.e E_int C_gt) (A_and (T_cmp l_late.e E_int C_gt) A_and_nil))) (B_cons (S_set (E_bin (E_lst (L_cons (E_idx (E_tup (L_cons E_str (L_cons E_str L_nil))) (E_bin l_has_point.e E_int O_sub)) L_nil)) (E_bin (E_lst (L_cons (E_if (T_val l_is_loose.e) l_float_sign.e E_str) L_nil)) l_late.e O_mul) O_add) l_behind.s) B_nil) (B_cons (S_if (T_cmp (E_call hO (hF.gl 20 _ rfl) (hF.keep 20 _ rfl) ((D_law_draw hF).mono (by decide : 1 ≤ 2)) (L_cons l_pen.e (L_cons E_int L_nil))) E_int C_eq) (B_cons (S_set (E_bin (E_lst (L_cons E_str L_nil)) (E_bin E_int (E_call hO (hF.gl 20 _ rfl) (hF.keep 20 _ rfl) ((D_law_draw hF).mono (by decide : 1 ≤ 2)) (L_cons l_pen.e (L_cons E_int L_nil))) O_add) O_mul) l_behind.s) B_nil) B_nil) B_nil)) (B_cons (S_set (E_if (T_cmp l_way.e (E_tup (L_cons E_int (L_cons E_int L_nil))) C_notin) (E_call hO (hF.gl 20 _ rfl) (hF.keep 20 _ rfl) ((D_law_draw hF).mono (by decide : 1 ≤ 2)) (L_cons l_pen.e (L_cons E_int L_nil))) E_int) l_sign.s) (B_cons (S_set (E_if (T_cmp l_sign.e (E_tup (L_cons E_int (L_cons E_int L_nil))) C_in) (E_lst (L_cons (E_idx (E_tup (L_cons E_str (L_cons E_str L_nil))) (E_bin l_sign.e E_int O_sub)) L_nil)) (E_lst L_nil)) l_front.s) (B_cons (S_if (T_bool (A_and (T_cmp l_way.e E_int C_ne) (A_and (T_cmp l_way.e (E_tup (L_cons E_int (L_cons E_int L_nil))) C_notin) (A_and (T_cmp (E_call hO (hF.gl 20 _ rfl) (hF.keep 20 _ rfl) ((D_law_draw hF).mono (by decide : 1 ≤ 2)) (L_cons l_pen.e (L_cons E_int L_nil))) E_int C_eq) A_and_nil)))) (B_cons (S_expr (E_bm PySem.F.slot_list_append rfl Fn_append l_front.e (L_cons E_str L_nil))) B_nil) B_nil) (B_cons (S_set (E_if (T_cmp l_sign.e E_int C_gt) (E_lst (L_cons (E_idx (E_tup (L_cons E_str (L_cons E_str (L_cons E_str L_nil)))) (E_bin l_sign.e E_int O_sub)) L_nil)) (E_lst L_nil)) l_last.s) (B_cons (S_if (T_bool (A_and (T_cmp (E_bin l_front.e l_last.e O_add) (E_lst L_nil) C_eq) (A_and (T_cmp l_way.e E_int C_eq) (A_and (T_cmp E_str l_whole.e C_notin) (A_and (T_cmp E_str l_behind.e C_notin) A_and_nil))))) (B_cons (S_set (E_lst (L_cons E_str L_nil)) l_last.s) B_nil) B_nil) (B_cons (S_ret (E_bin (E_bin (E_bin l_front.e l_whole.e O_add) l_behind.e O_add) l_last.e O_add)) B_nil))))))))))))))
theorem D_law_picture : SoundF g 3 471 F_law_picture :=
  F_fn [("pen" : Str), ("most" : Str)] [.loc "way", .loc "loose", .loc "nines", .loc "float_sign", .loc "ahead", .loc "has_point", .loc "late", .loc "is_loose", .loc "whole", .loc "behind", .loc "sign", .loc "front", .loc "last"] (k := 2) (hF.fn 22 _ _ _ rfl) rfl (fun _ _ _ _ _ => show _ = _ by kernel_rfl) (fun cdv base h₀ outer A₀ L hO => S_law_picture hF hO)
theorem S_law_cut (hO : FOk (G_law_cut g base h₀ outer A₀ L cdv)) :
    SoundB (G_law_cut g base h₀ outer A₀ L cdv) (stBody (fnS 50)) B_law_cut := by
  have l_signs : Cel (G_law_cut g base h₀ outer A₀ L cdv) 0 "signs" (cAt (stScope (fnS 50)) (L + 1) "signs") := ⟨by kernel_rfl, rfl, by kernel_rfl, by kernel_rfl, by kernel_rfl⟩
  have l_units := mkL hO 1 "units" (by kernel_rfl)
  have l_scale := mkL hO 2 "scale" (by kernel_rfl)
  have l_spot := mkL hO 3 "spot" (by kernel_rfl)
  have l_floats := mkL hO 4 "floats" (by kernel_rfl)
  have l_behind_point := mkL hO 5 "behind_point" (by kernel_rfl)
  have l_digits := mkL hO 6 "digits" (by kernel_rfl)
  have l_seen := mkL hO 7 "seen" (by kernel_rfl)
  have l_at := mkL hO 8 "at" (by kernel_rfl)
  have l_sign := mkL hO 9 "sign" (by kernel_rfl)
  have l_is_digit := mkL hO 10 "is_digit" (by kernel_rfl)
  have l_held := mkL hO 11 "held" (by kernel_rfl)
  exact (B_cons (s_setC [("at" : Str), ("sign" : Str)] hO rfl (I_enum hO (hF.bl 11 _ rfl) (e_cel hO l_signs)) (fun C hO' => have c_at := mkC hO' 0 "at"; have c_sign := mkC hO' 1 "sign"; (Tg_tup (Ts_cons c_at.n (Ts_cons c_sign.n Ts_nil)) rfl rfl (by kernel_rfl))) (fun C hO' => have c_sign := mkC hO' 1 "sign"; (Ifs_one (T_cmp c_sign.e (E_tup (L_cons E_str (L_cons E_str L_nil))) C_in))) (fun C hO' => have c_at := mkC hO' 0 "at"; c_at.e) l_spot.s) (B_cons (s_setC [("sign" : Str)] hO rfl (I_val (fun _ _ _ => rfl) (E_tup (L_cons E_str (L_cons E_str (L_cons E_str L_nil))))) (fun C hO' => have c_sign := mkC hO' 0 "sign"; (Tg_nm c_sign.n)) (fun C hO' => have c_sign := mkC hO' 0 "sign"; (Ifs_one (T_cmp (E_bm PySem.F.slot_list_count rfl Fn_count (E_cel (c := cAt (stScope (fnS 50)) (L + 1) "signs") hO' (by kernel_rfl) (by kernel_rfl) (by kernel_rfl) (by kernel_rfl)) (L_cons c_sign.e L_nil)) E_int C_gt))) (fun C hO' => have c_sign := mkC hO' 0 "sign"; c_sign.e) l_floats.s) (B_cons (S_swp (names := [("behind_point" : Str), ("digits" : Str), ("seen" : Str)]) rfl (E_tup (L_cons E_int (L_cons E_int (L_cons (E_lst L_nil) L_nil)))) (Rs_cons l_seen.n (Rs_cons l_digits.n (Rs_cons l_behind_point.n Rs_nil))) rfl) (B_cons (S_for (I_enum hO (hF.bl 11 _ rfl) (e_cel hO l_signs)) (Tg_tup (Ts_cons l_at.n (Ts_cons l_sign.n Ts_nil)) rfl rfl (by kernel_rfl)) (B_cons (S_set (E_or (E_cmp1 l_sign.e (E_tup (L_cons E_str (L_cons E_str (L_cons E_str L_nil)))) C_in) (E_and1 (E_and (E_cmp1 l_sign.e l_floats.e C_in) (E_and1 (E_cmp1 l_sign.e l_seen.e C_in))))) l_is_digit.s) (B_cons (S_expr (E_bm PySem.F.slot_list_append rfl Fn_append l_seen.e (L_cons l_sign.e L_nil))) (B_cons (S_set (E_bin l_digits.e (E_if (T_val l_is_digit.e) E_int E_int) O_add) l_digits.s) (B_cons (S_set (E_bin l_behind_point.e (E_if (T_bool (A_and (T_val l_is_digit.e) (A_and (T_cmp l_spot.e (E_lst L_nil) C_ne) (A_and (T_cmp l_at.e (E_idx l_spot.e E_int) C_gt) A_and_nil)))) E_int E_int) O_add) l_behind_point.s) B_nil)))) rfl (fun _ => by kernel_rfl)) (B_cons (S_set (E_bin l_behind_point.e (E_bm PySem.F.slot_list_count rfl Fn_count (e_cel hO l_signs) (L_cons E_str L_nil)) O_sub) l_behind_point.s) (B_cons (S_set (E_bin (E_bin (E_bin (E_fn hO (hF.bl 0 _ rfl) Fn_abs (L_cons l_units.e L_nil)) (E_bin E_int (E_fn hO (hF.bl 2 _ rfl) Fn_max (L_cons l_behind_point.e (L_cons E_int L_nil))) O_pow) O_mul) (E_bin E_int (E_bin l_scale.e (E_fn hO (hF.bl 2 _ rfl) Fn_max (L_cons (E_bin E_int l_behind_point.e O_sub) (L_cons E_int L_nil))) O_add) O_pow) O_div) (E_bin E_int l_digits.e O_pow) O_mod) l_held.s) (B_cons (S_ret (E_tup (L_cons (E_if (T_cmp l_units.e E_int C_lt) (E_bin E_int l_held.e O_sub) l_held.e) (L_cons l_behind_point.e (L_cons l_digits.e L_nil))))) B_nil)))))))
theorem D_law_cut : SoundF g 1 476 F_law_cut := by
  obtain ⟨fo, dV, doc, pm, cdv, ho, hd, hcd, hz⟩ := hF.fn 23 _ _ _ rfl
  obtain rfl := hz (by kernel_rfl)
  exact F_cells (names := [("signs" : Str), ("units" : Str), ("scale" : Str)]) (rest := [("spot" : Str), ("floats" : Str), ("behind_point" : Str), ("digits" : Str), ("seen" : Str), ("at" : Str), ("sign" : Str), ("is_digit" : Str), ("held" : Str)]) ho hd hcd (hb_of (k := 3) rfl (fun _ _ _ => show _ = _ by kernel_rfl)) (List.forall_mem_cons.mpr ⟨.inr ⟨by kernel_rfl, fun _ => by kernel_rfl⟩, (List.forall_mem_cons.mpr ⟨.inl ⟨by kernel_rfl, fun _ => by kernel_rfl⟩, (List.forall_mem_cons.mpr ⟨.inl ⟨by kernel_rfl, fun _ => by kernel_rfl⟩, (fun _ h => nomatch h)⟩)⟩)⟩) (by decide +kernel) (by decide +kernel) rfl rfl rfl (fun base h₀ outer A₀ L hO => S_law_cut hF hO)
theorem S_law_edited (hO : FOk (G_law_edited g base h₀ outer A₀ L cdv)) :
    SoundB (G_law_edited g base h₀ outer A₀ L cdv) (stBody (fnS 51)) B_law_edited := by
  have l_signs : Cel (G_law_edited g base h₀ outer A₀ L cdv) 0 "signs" (cAt (stScope (fnS 51)) (L + 1) "signs") := ⟨by kernel_rfl, rfl, by kernel_rfl, by kernel_rfl, by kernel_rfl⟩
  have l_units : Cel (G_law_edited g base h₀ outer A₀ L cdv) 1 "units" (cAt (stScope (fnS 51)) (L + 1) "units") := ⟨by kernel_rfl, rfl, by kernel_rfl, by kernel_rfl, by kernel_rfl⟩
  have l_digits : Cel (G_law_edited g base h₀ outer A₀ L cdv) 2 "digits" (cAt (stScope (fnS 51)) (L + 1) "digits") := ⟨by kernel_rfl, rfl, by kernel_rfl, by kernel_rfl, by kernel_rfl⟩
  have l_figures := mkL hO 3 "figures" (by kernel_rfl)
  have l_floats := mkL hO 4 "floats" (by kernel_rfl)
  have l_cells := mkL hO 5 "cells" (by kernel_rfl)
  have l_first := mkL hO 6 "first" (by kernel_rfl)
  have l_turn := mkL hO 7 "turn" (by kernel_rfl)
  have l_sign := mkL hO 8 "sign" (by kernel_rfl)
  have l_kind := mkL hO 9 "kind" (by kernel_rfl)
  have l_text := mkL hO 10 "text" (by kernel_rfl)
  have l_fill : Cel (G_law_edited g base h₀ outer A₀ L cdv) 11 "fill" (cAt (stScope (fnS 51)) (L + 1) "fill") := ⟨by kernel_rfl, rfl, by kernel_rfl, by kernel_rfl, by kernel_rfl⟩
  have l_begin := mkL hO 12 "begin" (by kernel_rfl)
  have l_count := mkL hO 13 "count" (by kernel_rfl)
  have l_words := mkL hO 14 "words" (by kernel_rfl)
  have l_at := mkL hO 15 "at" (by kernel_rfl)
  have l_cell := mkL hO 16 "cell" (by kernel_rfl)
  have l_hidden := mkL hO 17 "hidden" (by kernel_rfl)
  exact (B_cons (s_setC [("spot" : Str)] hO rfl (I_range (fun _ _ => rfl) hO (hF.bl 12 _ rfl) (e_cel hO l_digits)) (fun C hO' => have c_spot := mkC hO' 0 "spot"; (Tg_nm c_spot.n)) (fun C hO' => Ifs_nil) (fun C hO' => have c_spot := mkC hO' 0 "spot"; (E_bin (E_bin (E_fn hO' (hF.bl 0 _ rfl) Fn_abs (L_cons (E_cel (c := cAt (stScope (fnS 51)) (L + 1) "units") hO' (by kernel_rfl) (by kernel_rfl) (by kernel_rfl) (by kernel_rfl)) L_nil)) (E_bin E_int (E_bin (E_bin (E_cel (c := cAt (stScope (fnS 51)) (L + 1) "digits") hO' (by kernel_rfl) (by kernel_rfl) (by kernel_rfl) (by kernel_rfl)) E_int O_sub) c_spot.e O_sub) O_pow) O_div) E_int O_mod)) l_figures.s) (B_cons (s_setC [("sign" : Str)] hO rfl (I_val (fun _ _ _ => rfl) (E_tup (L_cons E_str (L_cons E_str (L_cons E_str L_nil))))) (fun C hO' => have c_sign := mkC hO' 0 "sign"; (Tg_nm c_sign.n)) (fun C hO' => have c_sign := mkC hO' 0 "sign"; (Ifs_one (T_cmp (E_bm PySem.F.slot_list_count rfl Fn_count (E_cel (c := cAt (stScope (fnS 51)) (L + 1) "signs") hO' (by kernel_rfl) (by kernel_rfl) (by kernel_rfl) (by kernel_rfl)) (L_cons c_sign.e L_nil)) E_int C_gt))) (fun C hO' => have c_sign := mkC hO' 0 "sign"; c_sign.e) l_floats.s) (B_cons (S_swp (names := [("cells" : Str), ("first" : Str), ("turn" : Str)]) rfl (E_tup (L_cons (E_lst L_nil) (L_cons (E_un E_int O_neg) (L_cons E_int L_nil)))) (Rs_cons l_turn.n (Rs_cons l_first.n (Rs_cons l_cells.n Rs_nil))) rfl) (B_cons (S_for (I_val (fun _ _ _ => rfl) (e_cel hO l_signs)) (Tg_nm l_sign.n) (B_cons (S_swp (names := [("kind" : Str), ("text" : Str)]) rfl (E_tup (L_cons E_str (L_cons l_sign.e L_nil))) (Rs_cons l_text.n (Rs_cons l_kind.n Rs_nil)) rfl) (B_cons (S_if (T_bool (A_and (T_cmp l_sign.e l_floats.e C_in) (A_and (T_cmp l_first.e E_int C_lt) A_and_nil))) (B_cons (S_swp (names := [("kind" : Str), ("text" : Str), ("first" : Str)]) rfl (E_tup (L_cons E_str (L_cons E_str (L_cons (E_fn hO (hF.bl 1 _ rfl) Fn_len (L_cons l_cells.e L_nil)) L_nil)))) (Rs_cons l_first.n (Rs_cons l_text.n (Rs_cons l_kind.n Rs_nil))) rfl) B_nil) (B_cons (S_if (T_bool (A_or (T_cmp l_sign.e (E_tup (L_cons E_str (L_cons E_str (L_cons E_str L_nil)))) C_in) (A_or (T_cmp l_sign.e l_floats.e C_in) A_or_nil))) (B_cons (S_swp (names := [("kind" : Str), ("text" : Str), ("turn" : Str)]) rfl (E_tup (L_cons (E_if (T_cmp l_sign.e E_str C_ne) E_str E_str) (L_cons (E_ty hO (hF.bl 8 _ rfl) Fn_str (L_cons (E_idx l_figures.e l_turn.e) L_nil)) (L_cons (E_bin l_turn.e E_int O_add) L_nil)))) (Rs_cons l_turn.n (Rs_cons l_text.n (Rs_cons l_kind.n Rs_nil))) rfl) B_nil) (B_cons (S_if (T_cmp l_sign.e (E_tup (L_cons E_str (L_cons E_str (L_cons E_str (L_cons E_str L_nil))))) C_in) (B_cons (S_swp (names := [("kind" : Str), ("text" : Str)]) rfl (E_tup (L_cons E_str (L_cons (E_if (T_cmp l_sign.e E_str C_eq) E_str l_sign.e) L_nil))) (Rs_cons l_text.n (Rs_cons l_kind.n Rs_nil)) rfl) B_nil) (B_cons (S_if (T_cmp l_sign.e (E_tup (L_cons E_str (L_cons E_str L_nil))) C_in) (B_cons (S_set (E_if (T_cmp (e_cel hO l_units) E_int C_lt) E_str (E_if (T_cmp l_sign.e E_str C_eq) E_str E_str)) l_text.s) B_nil) (B_cons (S_if (T_cmp l_sign.e (E_tup (L_cons E_str (L_cons E_str L_nil))) C_in) (B_cons (S_set (E_if (T_cmp (e_cel hO l_units) E_int C_lt) l_sign.e E_str) l_text.s) B_nil) (B_cons (S_if (T_cmp l_sign.e (E_tup (L_cons E_str (L_cons E_str (L_cons E_str L_nil)))) C_in) (B_cons (S_swp (names := [("kind" : Str), ("text" : Str)]) rfl (E_tup (L_cons (E_if (T_cmp l_sign.e E_str C_ne) E_str E_str) (L_cons (E_if (T_cmp l_sign.e E_str C_eq) E_str E_str) L_nil))) (Rs_cons l_text.n (Rs_cons l_kind.n Rs_nil)) rfl) B_nil) B_nil) B_nil)) B_nil)) B_nil)) B_nil)) B_nil)) (B_cons (S_expr (E_bm PySem.F.slot_list_append rfl Fn_append l_cells.e (L_cons (E_tup (L_cons l_kind.e (L_cons l_text.e L_nil))) L_nil))) B_nil))) rfl (fun _ => by kernel_rfl)) (B_cons (S_set (E_if (T_cmp E_str (e_cel hO l_signs) C_in) E_str E_str) (st_cel hO l_fill (fun j y h => slot_uniq (by decide +kernel) l_fill.slot h)) (by kernel_rfl)) (B_cons (S_if (T_bool (A_and (T_cmp (e_cel hO l_units) E_int C_eq) (A_and (T_cmp E_str (e_comp [("kind" : Str), ("text" : Str)] hO rfl (I_val (fun h => nomatch h) l_cells.e) (fun C hO' => have c_kind := mkC hO' 0 "kind"; have c_text := mkC hO' 1 "text"; (Tg_tup (Ts_cons c_kind.n (Ts_cons c_text.n Ts_nil)) rfl rfl (by kernel_rfl))) (fun C hO' => Ifs_nil) (fun C hO' => have c_kind := mkC hO' 0 "kind"; c_kind.e)) C_notin) A_and_nil))) (B_cons (S_ret (E_bm PySem.F.slot_str_join rfl Fn_join E_str (L_cons (e_comp [("kind" : Str), ("text" : Str)] hO rfl (I_val (fun h => nomatch h) l_cells.e) (fun C hO' => have c_kind := mkC hO' 0 "kind"; have c_text := mkC hO' 1 "text"; (Tg_tup (Ts_cons c_kind.n (Ts_cons c_text.n Ts_nil)) rfl rfl (by kernel_rfl))) (fun C hO' => Ifs_nil) (fun C hO' => have c_kind := mkC hO' 0 "kind"; have c_text := mkC hO' 1 "text"; (E_if (T_bool (A_and (T_cmp c_kind.e E_str C_eq) (A_and (T_cmp (E_cel (c := cAt (stScope (fnS 51)) (L + 1) "fill") hO' (by kernel_rfl) (by kernel_rfl) (by kernel_rfl) (by kernel_rfl)) E_str C_eq) (A_and (T_cmp c_text.e E_str C_ne) A_and_nil)))) E_str (E_bin (E_cel (c := cAt (stScope (fnS 51)) (L + 1) "fill") hO' (by kernel_rfl) (by kernel_rfl) (by kernel_rfl) (by kernel_rfl)) (E_fn hO' (hF.bl 1 _ rfl) Fn_len (L_cons (E_if (T_cmp c_kind.e E_str C_ne) c_text.e E_str) L_nil)) O_mul)))) L_nil))) B_nil) B_nil) (B_cons (S_set (E_fn hO (hF.bl 3 _ rfl) Fn_min (L_cons (E_bin (e_comp [("at" : Str), ("cell" : Str)] hO rfl (I_enum hO (hF.bl 11 _ rfl) l_cells.e) (fun C hO' => have c_at := mkC hO' 0 "at"; have c_cell := mkC hO' 1 "cell"; (Tg_tup (Ts_cons c_at.n (Ts_cons c_cell.n Ts_nil)) rfl rfl (by kernel_rfl))) (fun C hO' => have c_cell := mkC hO' 1 "cell"; (Ifs_one (T_cmp (E_idx c_cell.e E_int) (E_tup (L_cons E_str (L_cons E_str L_nil))) C_in))) (fun C hO' => have c_at := mkC hO' 0 "at"; c_at.e)) (E_lst (L_cons (E_fn hO (hF.bl 1 _ rfl) Fn_len (L_cons l_cells.e L_nil)) L_nil)) O_add) L_nil)) l_begin.s) (B_cons (S_set (E_fn hO (hF.bl 3 _ rfl) Fn_min (L_cons (e_comp [("at" : Str), ("cell" : Str)] hO rfl (I_enum hO (hF.bl 11 _ rfl) l_cells.e) (fun C hO' => have c_at := mkC hO' 0 "at"; have c_cell := mkC hO' 1 "cell"; (Tg_tup (Ts_cons c_at.n (Ts_cons c_cell.n Ts_nil)) rfl rfl (by kernel_rfl))) (fun C hO' => have c_cell := mkC hO' 1 "cell"; (Ifs_one (T_bool (A_or (T_cmp (E_idx c_cell.e E_int) (E_tup (L_cons E_str (L_cons E_str L_nil))) C_in) (A_or (T_bool (A_and (T_cmp (E_idx c_cell.e E_int) E_str C_eq) (A_and (T_cmp (E_idx c_cell.e E_int) E_str C_ne) A_and_nil))) A_or_nil))))) (fun C hO' => have c_at := mkC hO' 0 "at"; c_at.e)) L_nil)) l_count.s) (B_cons (S_set (E_lst L_nil) l_words.s) (B_cons (S_for (I_enum hO (hF.bl 11 _ rfl) l_cells.e) (Tg_tup (Ts_cons l_at.n (Ts_cons l_cell.n Ts_nil)) rfl rfl (by kernel_rfl)) (B_cons (S_set (E_and (E_cmp2 l_begin.e l_at.e l_count.e C_le C_lt) (E_and1 (E_cmp1 (E_idx l_cell.e E_int) (E_tup (L_cons E_str (L_cons E_str (L_cons E_str L_nil)))) C_in))) l_hidden.s) (B_cons (S_expr (E_bm PySem.F.slot_list_append rfl Fn_append l_words.e (L_cons (E_if (T_val l_hidden.e) (e_cel hO l_fill) (E_idx l_cell.e E_int)) L_nil))) B_nil)) rfl (fun _ => by kernel_rfl)) (B_cons (S_if (T_cmp l_floats.e (E_lst L_nil) C_ne) (B_cons (S_put (E_if (T_cmp (E_idx l_floats.e E_int) E_str C_eq) (E_idx l_floats.e E_int) (E_if (T_cmp (e_cel hO l_units) E_int C_lt) E_str (E_if (T_cmp (E_idx l_floats.e E_int) E_str C_eq) E_str E_str))) l_words.e (E_bin l_count.e E_int O_sub)) B_nil) B_nil) (B_cons (S_ret (E_bm PySem.F.slot_str_join rfl Fn_join E_str (L_cons l_words.e L_nil))) B_nil))))))))))))
theorem D_law_edited : SoundF g 1 481 F_law_edited := by
  obtain ⟨fo, dV, doc, pm, cdv, ho, hd, hcd, hz⟩ := hF.fn 24 _ _ _ rfl
  obtain rfl := hz (by kernel_rfl)
  exact F_cells (names := [("signs" : Str), ("units" : Str), ("digits" : Str)]) (rest := [("figures" : Str), ("floats" : Str), ("cells" : Str), ("first" : Str), ("turn" : Str), ("sign" : Str), ("kind" : Str), ("text" : Str), ("fill" : Str), ("begin" : Str), ("count" : Str), ("words" : Str), ("at" : Str), ("cell" : Str), ("hidden" : Str)]) ho hd hcd (hb_of (k := 3) rfl (fun _ _ _ => show _ = _ by kernel_rfl)) (List.forall_mem_cons.mpr ⟨.inr ⟨by kernel_rfl, fun _ => by kernel_rfl⟩, (List.forall_mem_cons.mpr ⟨.inr ⟨by kernel_rfl, fun _ => by kernel_rfl⟩, (List.forall_mem_cons.mpr ⟨.inr ⟨by kernel_rfl, fun _ => by kernel_rfl⟩, (fun _ h => nomatch h)⟩)⟩)⟩) (by decide +kernel) (by decide +kernel) rfl rfl rfl (fun base h₀ outer A₀ L hO => S_law_edited hF hO)
theorem S_law_number (hO : FOk (G_law_number g base h₀ outer A₀ L cdv)) :
    SoundB (G_law_number g base h₀ outer A₀ L cdv) (stBody (fnS 52)) B_law_number := by
  have l_pen := mkL hO 0 "pen"
  have l_units := mkL hO 1 "units"
  exact (B_cons (S_set (E_bin (E_bin (E_idx (E_tup (L_cons E_int (L_cons E_int (L_cons E_int (L_cons E_int (L_cons E_int (L_cons E_int (L_cons E_int (L_cons E_int L_nil))))))))) (E_call hO (hF.gl 20 _ rfl) (hF.keep 20 _ rfl) ((D_law_draw hF).mono (by decide : 1 ≤ 1)) (L_cons l_pen.e (L_cons E_int L_nil)))) (E_idx (E_tup (L_cons E_int (L_cons E_int (L_cons E_int (L_cons E_int (L_cons E_int L_nil)))))) (E_call hO (hF.gl 20 _ rfl) (hF.keep 20 _ rfl) ((D_law_draw hF).mono (by decide : 1 ≤ 1)) (L_cons l_pen.e (L_cons E_int L_nil)))) O_mul) (E_call hO (hF.gl 20 _ rfl) (hF.keep 20 _ rfl) ((D_law_draw hF).mono (by decide : 1 ≤ 1)) (L_cons l_pen.e (L_cons E_int L_nil))) O_add) l_units.s) (B_cons (S_ret (E_tup (L_cons (E_if (T_cmp (E_call hO (hF.gl 20 _ rfl) (hF.keep 20 _ rfl) ((D_law_draw hF).mono (by decide : 1 ≤ 1)) (L_cons l_pen.e (L_cons E_int L_nil))) E_int C_gt) l_units.e (E_bin E_int l_units.e O_sub)) (L_cons (E_call hO (hF.gl 20 _ rfl) (hF.keep 20 _ rfl) ((D_law_draw hF).mono (by decide : 1 ≤ 1)) (L_cons l_pen.e (L_cons E_int L_nil))) L_nil)))) B_nil))
theorem D_law_number : SoundF g 2 488 F_law_number :=
  F_fn [("pen" : Str)] [.loc "units"] (k := 1) (hF.fn 25 _ _ _ rfl) rfl (fun _ _ _ _ => show _ = _ by kernel_rfl) (fun cdv base h₀ outer A₀ L hO => S_law_number hF hO)
theorem S_law {fa : Addr} (hO : FOk (G_law g base h₀ outer A₀ L cdv fa)) :
    SoundB (G_law g base h₀ outer A₀ L cdv fa) (stBody (fnS 53)).tail B_law := by
  have l_pen := mkL hO 1 "pen"
  have l_text := mkL hO 2 "text"
  have l_units := mkL hO 3 "units"
  have l_scale := mkL hO 4 "scale"
  have l_due := mkL hO 5 "due"
  have l_signs := mkL hO 6 "signs"
  have l_picture := mkL hO 7 "picture"
  have l_turn := mkL hO 8 "turn"
  have l_held := mkL hO 9 "held"
  have l_behind_point := mkL hO 10 "behind_point"
  have l_digits := mkL hO 11 "digits"
  exact (B_cons (S_for (I_val (fun h => nomatch h) (E_glob hO (hF.gl 42 _ rfl) hF.table)) (Tg_tup (Ts_cons l_text.n (Ts_cons l_units.n (Ts_cons l_scale.n (Ts_cons l_due.n Ts_nil)))) rfl rfl (by kernel_rfl)) (B_cons (S_if (T_cmp (E_call hO (hF.gl 19 _ rfl) (hF.keep 19 _ rfl) ((D_edited hF).mono (by decide : 5 ≤ 6)) (L_cons (E_call hO (hF.gl 9 _ rfl) (hF.keep 9 _ rfl) ((D_read_picture hF).mono (by decide : 6 ≤ 6)) (L_cons l_text.e L_nil)) (L_cons (E_call hO (hF.gl 1 _ rfl) (hF.keep 1 _ rfl) ((D_decimal hF).mono (by decide : 1 ≤ 6)) (L_cons l_units.e (L_cons l_scale.e L_nil))) L_nil))) (E_ty hO (hF.bl 10 _ rfl) Fn_bytes (L_cons (e_comp [("sign" : Str)] hO rfl (I_val (fun _ _ _ => rfl) l_due.e) (fun C hO' => have c_sign := mkC hO' 0 "sign"; (Tg_nm c_sign.n)) (fun C hO' => Ifs_nil) (fun C hO' => have c_sign := mkC hO' 0 "sign"; (E_fn hO' (hF.bl 5 _ rfl) Fn_ord (L_cons c_sign.e L_nil)))) L_nil)) C_ne) (B_cons (S_ret E_bool) B_nil) B_nil) B_nil) rfl (fun _ => by kernel_rfl)) (B_cons (S_set (E_call hO (hF.gl 22 _ rfl) (hF.keep 22 _ rfl) ((D_law_picture hF).mono (by decide : 3 ≤ 6)) (L_cons l_pen.e (L_cons E_int L_nil))) l_signs.s) (B_cons (S_set (E_call hO (hF.gl 9 _ rfl) (hF.keep 9 _ rfl) ((D_read_picture hF).mono (by decide : 6 ≤ 6)) (L_cons (E_bm PySem.F.slot_str_join rfl Fn_join E_str (L_cons l_signs.e L_nil)) L_nil)) l_picture.s) (B_cons (S_for (I_range (fun _ _ => rfl) hO (hF.bl 12 _ rfl) E_int) (Tg_nm l_turn.n) (B_cons (S_unp rfl (E_call hO (hF.gl 25 _ rfl) (hF.keep 25 _ rfl) ((D_law_number hF).mono (by decide : 2 ≤ 6)) (L_cons l_pen.e L_nil)) (Tg_tup (Ts_cons l_units.n (Ts_cons l_scale.n Ts_nil)) rfl rfl (by kernel_rfl))) (B_cons (S_unp rfl (E_call hO (hF.gl 23 _ rfl) (hF.keep 23 _ rfl) ((D_law_cut hF).mono (by decide : 1 ≤ 6)) (L_cons l_signs.e (L_cons l_units.e (L_cons l_scale.e L_nil)))) (Tg_tup (Ts_cons l_held.n (Ts_cons l_behind_point.n (Ts_cons l_digits.n Ts_nil))) rfl rfl (by kernel_rfl))) (B_cons (S_set (E_call hO (hF.gl 24 _ rfl) (hF.keep 24 _ rfl) ((D_law_edited hF).mono (by decide : 1 ≤ 6)) (L_cons l_signs.e (L_cons l_held.e (L_cons l_digits.e L_nil)))) l_text.s) (B_cons (S_set (E_ty hO (hF.bl 10 _ rfl) Fn_bytes (L_cons (e_comp [("sign" : Str)] hO rfl (I_val (fun _ _ _ => rfl) l_text.e) (fun C hO' => have c_sign := mkC hO' 0 "sign"; (Tg_nm c_sign.n)) (fun C hO' => Ifs_nil) (fun C hO' => have c_sign := mkC hO' 0 "sign"; (E_fn hO' (hF.bl 5 _ rfl) Fn_ord (L_cons c_sign.e L_nil)))) L_nil)) l_due.s) (B_cons (S_if (T_bool (A_or (T_cmp (E_call hO (hF.gl 19 _ rfl) (hF.keep 19 _ rfl) ((D_edited hF).mono (by decide : 5 ≤ 6)) (L_cons l_picture.e (L_cons (E_call hO (hF.gl 1 _ rfl) (hF.keep 1 _ rfl) ((D_decimal hF).mono (by decide : 1 ≤ 6)) (L_cons l_units.e (L_cons l_scale.e L_nil))) L_nil))) l_due.e C_ne) (A_or (T_cmp (E_fn hO (hF.bl 1 _ rfl) Fn_len (L_cons l_due.e L_nil)) (E_attr hO (hF.anEq 6 _ rfl) (hF.attr 6 _ _ rfl) l_picture.e) C_ne) A_or_nil))) (B_cons (S_ret E_bool) B_nil) B_nil) (B_cons (S_if (T_bool (A_and (T_cmp E_str l_signs.e C_notin) (A_and (T_cmp (E_call hO (hF.gl 19 _ rfl) (hF.keep 19 _ rfl) ((D_edited hF).mono (by decide : 5 ≤ 6)) (L_cons l_picture.e (L_cons (E_call hO (hF.gl 1 _ rfl) (hF.keep 1 _ rfl) ((D_decimal hF).mono (by decide : 1 ≤ 6)) (L_cons l_units.e (L_cons l_scale.e L_nil))) (L_cons E_bool L_nil)))) (E_if (T_cmp l_held.e E_int C_eq) (E_bin E_bytes (E_fn hO (hF.bl 1 _ rfl) Fn_len (L_cons l_due.e L_nil)) O_mul) l_due.e) C_ne) A_and_nil))) (B_cons (S_ret E_bool) B_nil) B_nil) B_nil)))))) rfl (fun _ => by kernel_rfl)) (B_cons (S_ret (E_cmp1 (E_call hO (hF.gl 19 _ rfl) (hF.keep 19 _ rfl) ((D_edited hF).mono (by decide : 5 ≤ 6)) (L_cons l_picture.e (L_cons (E_call hO (hF.gl 1 _ rfl) (hF.keep 1 _ rfl) ((D_decimal hF).mono (by decide : 1 ≤ 6)) (L_cons E_int L_nil)) L_nil))) (E_ty hO (hF.bl 10 _ rfl) Fn_bytes (L_cons (e_comp [("sign" : Str)] hO rfl (I_val (fun _ _ _ => rfl) (E_call hO (hF.gl 24 _ rfl) (hF.keep 24 _ rfl) ((D_law_edited hF).mono (by decide : 1 ≤ 6)) (L_cons l_signs.e (L_cons E_int (L_cons l_digits.e L_nil))))) (fun C hO' => have c_sign := mkC hO' 0 "sign"; (Tg_nm c_sign.n)) (fun C hO' => Ifs_nil) (fun C hO' => have c_sign := mkC hO' 0 "sign"; (E_fn hO' (hF.bl 5 _ rfl) Fn_ord (L_cons c_sign.e L_nil)))) L_nil)) C_eq)) B_nil)))))
end
open PySem PySem.W PySem.Calls PyProof.Rows
noncomputable def lawFirst (u : List V) : EX := eLst (lCons (eFun fList (lCons (eNew u) lNil)) (lCons (eCon (.int 0)) (lCons (eCon (.int 0)) (lCons (eOp2 vMod (eFun fAbs (lCons (eFun fSum (lCons (eNew u) lNil)) lNil)) (eCon (.int 1009))) lNil))))
noncomputable def PureLaw (ns : List Int) : Prop := lawFirst ((ns.take 63).map .int) (List.replicate 12 none) [] fun v H => B_law ((List.replicate 12 none).set 1 (some v)) H (fun _ _ => False) fun v _ => v = .bool true
noncomputable def roleT (a : Addr) : Role := match tabT.lookup a with | some x => .tup x.1 x.2 | none => .none
theorem lookup_mem {α : Type} {a : Addr} {x : α} {l : List (Addr × α)} (h : l.lookup a = some x) : (a, x) ∈ l := by
  induction l with
  | nil => cases h
  | cons p r ih =>
    rw [List.lookup_cons] at h
    by_cases q : a = p.1
    · rw [q, beq_self_eq_true] at h; cases h; rw [q]; exact .head _
    · rw [beq_eq_false_iff_ne.2 q] at h; exact .tail _ (ih h)
theorem mem_lookup {α : Type} {p : Addr × α} {l : List (Addr × α)} (nd : (l.map (·.1)).Nodup) (h : p ∈ l) : l.lookup p.1 = some p.2 := by
  induction l with
  | nil => cases h
  | cons x r ih =>
    rw [List.map_cons, List.nodup_cons] at nd
    rw [List.lookup_cons]
    rcases List.mem_cons.mp h with e | e
    · rw [e, beq_self_eq_true]
    · rw [beq_eq_false_iff_ne.2 fun q : p.1 = x.1 => nd.1 (q ▸ List.mem_map_of_mem (f := fun x : Addr × α => x.1) e)]; exact ih nd.2 e
theorem roleT_some {a : Addr} (h : roleT a ≠ .none) : ∃ x, tabT.lookup a = some x ∧ roleT a = .tup x.1 x.2 := by
  unfold roleT at h ⊢
  cases e : tabT.lookup a with
  | none => rw [e] at h; exact absurd rfl h
  | some x => exact ⟨x, rfl, rfl⟩
theorem roleT_in {a : Addr} {vs : List V} {ws : List Value} (h : roleT a = .tup vs ws) : (a, vs, ws) ∈ tabT := (roleT_some (a := a) (by rw [h]; simp)).elim fun x z => by
  have e := h.symm.trans z.2
  cases e
  exact lookup_mem z.1
theorem roleT_obj {a : Addr} {i : Nat} {C : Prop} (h : roleT a = .obj i) : C := (roleT_some (a := a) (by rw [h]; simp)).elim fun x z => by have e := h.symm.trans z.2; cases e
theorem roleT_stat : ∀ p ∈ tabT, roleT p.1 = .tup p.2.1 p.2.2 := fun p hp => by
  unfold roleT
  rw [mem_lookup (by decide +kernel) hp]
theorem tab_rvs : ∀ p ∈ tabT, RVs roleT p.2.1 p.2.2 := by
  have one : ∀ {a : List Nat} {b c : Int} {d : List Nat} {t u v w : Tok}, RVs roleT [.str a, .int b, .int c, .str d] [.str ⟨a.toArray⟩ t, .int b u, .int c v, .str ⟨d.toArray⟩ w] := .cons .str (.cons .int (.cons .int (.cons .str .nil)))
  refine List.forall_mem_cons.2 ⟨?_, ?_⟩
  · repeat (first | exact RVs.nil | refine RVs.cons (RV.tup rfl) ?_)
  · repeat refine List.forall_mem_cons.2 ⟨one, ?_⟩
    exact fun _ h => nomatch h
theorem law_wp {g : GC} (hF : Facts g) {base h₀ : Heap} {outer : List Env} {A₀ A : Around} {L fa B : Addr} {cdv : Value} {m : Str → Option Value} {ws : List Value} {ns : List Int} {s : Shared} {Q : Flow → Shared → Prop} {E : QV}
    (hO : FOk (G_law g base h₀ outer A₀ L cdv fa)) (fr : A.frames = some ((G_law g base h₀ outer A₀ L cdv fa).fenv :: outer)) (dep : A.depth + 4 * 6 + 4 < recursionLimit) (un : A.units + 16 * 6 + 16 < cLine) (hand : A.handled = none)
    (F : Fr h₀ L s.heap m) (hm : m "script" = some (.ref B)) (hl : h₀.IsList B ws.toArray) (hi : IntsAre ws ns) (hn : ns.length ≤ 63) (pu : PureLaw ns)
    (h : ∀ h' t' m', Fr h₀ L h' m' → Q (.ret (.bool true)) (At s h' t')) :
    wpAny (model g.prog g.w) A (execs (stBody (fnS 53)) (G_law g base h₀ outer A₀ L cdv fa).env) Q E s := by
  have get : ∀ a vs ws, roleT a = .tup vs ws → s.heap.get? a = some (tupObj ws) := fun a vs ws e => F.keep _ _ (hO.X _ _ (hF.tabK _ (roleT_in e)))
  have live : ∀ a, roleT a ≠ .none → ∃ o, s.heap.get? a = some o := fun a ha => (roleT_some ha).elim fun x z => ⟨_, get a _ _ z.2⟩
  have ok : Ok (G_law g base h₀ outer A₀ L cdv fa) ⟨A, s, roleT, m, fun _ => none, List.replicate 12 none, []⟩ :=
    ⟨⟨fr, dep, un, hand, F, fun a ha => (roleT_some ha).elim fun x z => .inr ⟨by rw [hO.X _ _ (hF.tabK _ (roleT_in z.2))]; rfl, x, by rw [hF.tabs]; exact roleT_in z.2⟩,
      { obj := fun a i e => roleT_obj e
        inj := fun a a' i e _ => roleT_obj e
        tup := fun a vs ws e => ⟨⟨_, get a vs ws e, rfl, 0, rfl⟩, tab_rvs _ (roleT_in e)⟩
        live := live
        stat := by rw [hF.tabs]; exact roleT_stat }⟩,
      (fun i u hu => by
        have hu : (List.replicate 12 (none : Option V))[i]? = some (some u) := hu
        rw [List.getElem?_replicate] at hu
        split at hu <;> cases hu),
      (fun x c hc => by exfalso; revert hc; simp), fun _ _ _ q => nomatch q⟩
  have l_pen := mkL hO 1 "pen"
  have up : ∀ {k : Nat} {p hp sp pos : Pos}, SoundEP (fun m' => m' = m) (G_law g base h₀ outer A₀ L cdv fa) (.Subscript (.Name "script" p) (.Slice none (some (.Constant (.int 63) k hp)) none sp) pos) (eNew ((ns.take 63).map .int)) := fun {k p hp sp pos} =>
    EP_upto (x := "script") (b := 63) hO rfl (by kernel_rfl) (by kernel_rfl) hl hi (by rw [hi.length]; exact Nat.le_trans hn (by decide)) (fun m' e => by rw [e]; exact hm)
  show wpAny _ _ (execs (_ :: (stBody (fnS 53)).tail) _) _ _ _
  refine wpAny_execs_cons (SP_set (P := fun m' => m' = m) (y := lawFirst ((ns.take 63).map .int)) (EP_lst (LP_cons (EP_ty hO (hF.bl 9 _ rfl) rfl (by decide) (by kernel_rfl) (by kernel_rfl) Fn_list (LP_cons up (LP_of L_nil) (fun _ => rfl)) (fun _ => rfl) (fun _ => rfl) (fun _ => rfl))
    (LP_cons (EP_of E_int) (LP_cons (EP_of E_int) (LP_cons (EP_bin (EP_fn hO (hF.bl 0 _ rfl) rfl (by decide) (by kernel_rfl) (by kernel_rfl) Fn_abs (LP_cons (EP_fn hO (hF.bl 4 _ rfl) rfl (by decide) (by kernel_rfl) (by kernel_rfl) Fn_sum (LP_cons up (LP_of L_nil) (fun _ => rfl)) (fun _ => rfl) (fun _ => rfl) (fun _ => rfl)) (LP_of L_nil) (fun _ => rfl)) (fun _ => rfl) (fun _ => rfl) (fun _ => rfl)) E_int O_mod) (LP_of L_nil) (fun _ => rfl)) (fun _ => rfl)) (fun _ => rfl)) (fun _ => rfl)))
    l_pen.s (by kernel_rfl) ⟨A, s, roleT, m, fun _ => none, List.replicate 12 none, []⟩ _ E (fun ρ H => B_law ρ H (fun _ _ => False) fun v _ => v = .bool true) rfl ok pu fun q k st => ?_)
  exact (S_law hF hO).run _ Q E (fun _ _ => False) (fun v _ => v = .bool true) st.ok k (fun _ f => f.elim) fun v q' w e st' r => by
    obtain rfl : v = .bool true := e
    exact RV.oBool r (h q'.h q'.t q'.m st'.ok.F)
theorem law_nd : ((([("script" : Str)] : List Str).map Slot.loc ++ ([.loc "pen", .loc "text", .loc "units", .loc "scale", .loc "due", .loc "signs", .loc "picture", .loc "turn", .loc "held", .loc "behind_point", .loc "digits"] : List Slot)).map Slot.key).Nodup := by decide +kernel
theorem law_end {g : GC} (hF : Facts g) {h₀ : Heap} {L fa B : Addr} {cdv : Value} {m : Str → Option Value} {ws : List Value} {ns : List Int} {s : Shared} {Q : Flow → Shared → Prop} {E : QV}
    (K0 : Below callerA h₀ [] h₀) (KX : g.K.In h₀) (T : Top g.p g.loose g.mean g.mg g.mb h₀) (F : Fr h₀ L s.heap m) (hm : m "script" = some (.ref B)) (hl : h₀.IsList B ws.toArray) (hi : IntsAre ws ns) (hn : ns.length ≤ 63) (pu : PureLaw ns)
    (h : ∀ h' t' m', Fr h₀ L h' m' → Q (.ret (.bool true)) (At s h' t')) :
    wpAny (model g.prog g.w) (callerA.deeper (envX "law" (stScope (fnS 53)) L fa cdv [])) (execs (stBody (fnS 53)) (envX "law" (stScope (fnS 53)) L fa cdv [])) Q E s := by
  have hO : FOk (G_law g h₀ h₀ [] callerA L cdv fa) := ⟨K0, KX, T, by kernel_rfl, (fun _ _ _ q => nomatch q), law_nd, fun p hp => by
    have hp : p ∈ g.tabs := hp
    rw [hF.tabs] at hp; rw [hF.tabK p hp]; rfl, hF.inj, (fun _ x hx => by revert hx; simp), (fun _ _ _ q => nomatch q)⟩
  exact law_wp hF hO rfl (show callerA.depth + 1 + 4 * 6 + 4 < recursionLimit by decide +kernel) (show callerA.units + 3 + 16 * 6 + 16 < cLine by decide +kernel) rfl F hm hl hi hn pu h
structure Lx (S : List Nat) (H H' : Hp) : Prop where
  len : H.length ≤ H'.length
  get : ∀ (i : Nat) (o : HO), i ∉ S → H[i]? = some o → H'[i]? = some o
theorem Lx.refl (S : List Nat) (H : Hp) : Lx S H H := ⟨Nat.le_refl _, fun _ _ _ e => e⟩
theorem Lx.trans {S : List Nat} {H₁ H₂ H₃ : Hp} (a : Lx S H₁ H₂) (b : Lx S H₂ H₃) : Lx S H₁ H₃ := ⟨Nat.le_trans a.len b.len, fun i o n e => b.get i o n (a.get i o n e)⟩
theorem Lx.weak {S T : List Nat} {H₁ H₂ : Hp} (a : Lx S H₁ H₂) (h : ∀ i ∈ S, i ∈ T) : Lx T H₁ H₂ := ⟨a.len, fun i o n e => a.get i o (fun q => n (h i q)) e⟩
theorem Lx.nil {T : List Nat} {H₁ H₂ : Hp} (a : Lx [] H₁ H₂) : Lx T H₁ H₂ := a.weak fun _ q => nomatch q
theorem get_lt {H : Hp} {i : Nat} {o : HO} (e : H[i]? = some o) : i < H.length := (List.getElem?_eq_some_iff.1 e).1
theorem app_self {H : Hp} {x : HO} : (H ++ [x])[H.length]? = some x := by simp
theorem set_self {H : Hp} {i : Nat} {o x : HO} (e : H[i]? = some o) : (H.set i x)[i]? = some x := by simp [get_lt e]
theorem Lx.app {H : Hp} {x : HO} : Lx [] H (H ++ [x]) := ⟨by simp, fun i o _ e => by rw [List.getElem?_append_left (get_lt e)]; exact e⟩
theorem Lx.set {H : Hp} {i : Nat} {x : HO} : Lx [i] H (H.set i x) := ⟨by simp, fun j o n e => (List.getElem?_set_ne fun q : i = j => n (q ▸ List.mem_singleton.2 rfl)).trans e⟩
theorem Lx.fresh {S T : List Nat} {H H₁ H₂ : Hp} (a : Lx S H H₁) (b : Lx T H₁ H₂) (h : ∀ i ∈ T, i ∈ S ∨ H.length ≤ i) : Lx S H H₂ :=
  ⟨Nat.le_trans a.len b.len, fun i o n e => b.get i o (fun q => (h i q).elim n fun r => Nat.not_lt.2 r (get_lt e)) (a.get i o n e)⟩
theorem Lx.at0 {H H' : Hp} {i : Nat} {o : HO} (a : Lx [] H H') (e : H[i]? = some o) : H'[i]? = some o := a.get i o (fun h => nomatch h) e
theorem Lx.at1 {H H' : Hp} {a i : Nat} {o : HO} (x : Lx [a] H H') (n : i ≠ a) (e : H[i]? = some o) : H'[i]? = some o := x.get i o (fun h => n (List.mem_singleton.1 h)) e
theorem Lx.at2 {H H' : Hp} {a b i : Nat} {o : HO} (x : Lx [a, b] H H') (n : i ≠ a) (m : i ≠ b) (e : H[i]? = some o) : H'[i]? = some o := x.get i o (fun h => (List.mem_cons.1 h).elim n fun h => m (List.mem_singleton.1 h)) e
section
variable {H : Hp} {i : Nat} {o o' : HO} {c : Bool} {A B : Prop} {K : KV}
theorem at_list {vs : List V} {K : List V → Prop} (e : H[i]? = some (.list vs)) (k : K vs) : atList H i K := ⟨⟨vs, e, k⟩⟩
theorem at_inst {C : Nat} {fs : List (Nat × V)} {K : List (Nat × V) → Prop} (e : H[i]? = some (.inst C fs)) (k : K fs) : atInst H i C K := ⟨⟨fs, e, k⟩⟩
theorem at_dict {vs : List (List Nat × V)} {K : List (List Nat × V) → Prop} (e : H[i]? = some (.dict vs)) (k : K vs) : atDict H i K := ⟨⟨vs, e, k⟩⟩
theorem put_at {K : Hp → Prop} (e : H[i]? = some o') (k : ∀ H', H'[i]? = some o → Lx [i] H H' → K H') : putAt H i o K := ⟨k _ (set_self e) .set⟩
theorem new_at' (k : ∀ a H', H'[a]? = some o → Lx [] H H' → H.length ≤ a → K (.ref a) H') : newAt H o K := ⟨k _ _ app_self .app (Nat.le_refl _)⟩
theorem on_some {α : Type} {o : Option α} {x : α} {K : α → Prop} (e : o = some x) (k : K x) : onSome o K := e.symm ▸ k
theorem if_t (h : c = true) (a : A) : cnd A B c := h.symm ▸ a
theorem if_f (h : c = false) (b : B) : cnd A B c := h.symm ▸ b
theorem if_b (t : c = true → A) (f : c = false → B) : cnd A B c := match c, t, f with | true, t, _ => t rfl | false, _, f => f rfl
theorem if_d {p : Prop} [Decidable p] (t : p → A) (f : ¬ p → B) : cnd A B (decide p) := if_b (fun h => t (of_decide_eq_true h)) fun h => f (of_decide_eq_false h)
end
section
variable {A B : Prop} {x y : List Nat} {i j : Int} {c : Bool}
theorem eq_t (h : x = y) (a : A) : cnd A B (x == y) := if_t (beq_iff_eq.2 h) a
theorem eq_f (h : x ≠ y) (b : B) : cnd A B (x == y) := if_f (beq_eq_false_iff_ne.2 h) b
theorem ne_t (h : x ≠ y) (a : A) : cnd A B (!(x == y)) := if_t (by rw [beq_eq_false_iff_ne.2 h]; rfl) a
theorem ne_f (h : x = y) (b : B) : cnd A B (!(x == y)) := if_f (by rw [beq_iff_eq.2 h]; rfl) b
theorem ie_t (h : i = j) (a : A) : cnd A B (i == j) := if_t (beq_iff_eq.2 h) a
theorem ie_f (h : i ≠ j) (b : B) : cnd A B (i == j) := if_f (beq_eq_false_iff_ne.2 h) b
theorem in_t (h : i ≠ j) (a : A) : cnd A B (!(i == j)) := if_t (by rw [beq_eq_false_iff_ne.2 h]; rfl) a
theorem in_f (h : i = j) (b : B) : cnd A B (!(i == j)) := if_f (by rw [beq_iff_eq.2 h]; rfl) b
theorem lt_t (h : i < j) (a : A) : cnd A B (decide (i < j)) := if_t (decide_eq_true h) a
theorem lt_f (h : j ≤ i) (b : B) : cnd A B (decide (i < j)) := if_f (decide_eq_false (Int.not_lt.2 h)) b
theorem le_t (h : i ≤ j) (a : A) : cnd A B (decide (i ≤ j)) := if_t (decide_eq_true h) a
theorem le_f (h : j < i) (b : B) : cnd A B (decide (i ≤ j)) := if_f (decide_eq_false (Int.not_le.2 h)) b
theorem not_t (h : c = false) (a : A) : cnd A B (!c) := if_t (by rw [h]; rfl) a
theorem not_f (h : c = true) (b : B) : cnd A B (!c) := if_f (by rw [h]; rfl) b
end
section
variable {ρ : Rho} {H : Hp} {N : KN} {R : KV}
theorem while_go {t : TX} {body : SX} (I : Nat → Rho → Hp → Prop)
    (step : ∀ n ρ H (G : KN), (∀ m ρ' H', m < n → I m ρ' H' → G ρ' H') → I n ρ H → t ρ H fun c H₁ => cnd (body ρ H₁ G R) (N ρ H₁) c) (n : Nat) (h : I n ρ H) : sWhile t body ρ H N R := by
  refine ⟨⟨n + 1, ?_⟩⟩
  have go : ∀ (f n : Nat) (ρ : Rho) (H : Hp), n < f → I n ρ H → whTurns t body f ρ H N R := by
    intro f
    induction f with
    | zero => exact fun n _ _ h => absurd h (Nat.not_lt_zero _)
    | succ f ih => exact fun n ρ H hf h => step n ρ H _ (fun m ρ' H' hm hI => ih m ρ' H' (Nat.lt_of_lt_of_le hm (Nat.le_of_lt_succ hf)) hI) h
  exact go _ n ρ H (Nat.lt_succ_self n) h
noncomputable def Src.has (src : Src) (H : Hp) (us : List V) : Prop := ∀ P : List V → Prop, P us → src.get H P
theorem has_items {us : List V} : (Src.items us).has H us := fun _ h => h
theorem has_list {i : Nat} {us : List V} (e : H[i]? = some (.list us)) : (Src.list i).has H us := fun _ h => at_list e h
theorem has_enum {i : Nat} {us : List V} (e : H[i]? = some (.list us)) : (Src.enum i).has H (us.mapIdx fun j v => .tup [.int (j : Nat), v]) := fun _ h => at_list e h
theorem has_zip {i k : Nat} {us vs : List V} (e : H[i]? = some (.list us)) (e' : H[k]? = some (.list vs)) : (Src.zip i k).has H (List.zipWith (fun a b => .tup [a, b]) us vs) := fun _ h => at_list e (at_list e' h)
theorem look_t {us r : List V} {v : V} {j : Nat} {K : V → Prop} {D : Prop} (e : us.drop j = v :: r) (k : K v) : lookL j K D us := by
  have : us[j]? = some v := by rw [← Nat.add_zero j, ← List.getElem?_drop, e]; rfl
  unfold lookL; rw [this]; exact k
theorem look_f {us : List V} {j : Nat} {K : V → Prop} {D : Prop} (e : us.drop j = []) (d : D) : lookL j K D us := by
  have : us[j]? = none := by rw [← Nat.add_zero j, ← List.getElem?_drop, e]; rfl
  unfold lookL; rw [this]; exact d
theorem drop_next {us r : List V} {v : V} {j : Nat} (e : us.drop j = v :: r) : us.drop (j + 1) = r := by rw [← List.drop_drop, e]; rfl
theorem for_go {src : Src} {bind : Bnd} {body : SX} (us : List V) (I : List V → Rho → Hp → Prop) (h : I us ρ H) (hs : ∀ r ρ H, I r ρ H → src.has H us)
    (step : ∀ v r ρ H (G : KN), (∀ ρ' H', I r ρ' H' → G ρ' H') → I (v :: r) ρ H → bind v ρ fun ρ₁ => body ρ₁ H G R)
    (fin : ∀ ρ H, I [] ρ H → N ρ H) : ∃ f, forTurns src bind body f 0 ρ H N R := by
  have go : ∀ (r : List V) (f j : Nat) (ρ : Rho) (H : Hp), us.drop j = r → r.length < f → I r ρ H → forTurns src bind body f j ρ H N R := by
    intro r
    induction r with
    | nil => exact fun f j ρ H e hf h' => match f, hf with | f + 1, _ => hs _ _ _ h' _ (look_f e (fin _ _ h'))
    | cons v r ih => exact fun f j ρ H e hf h' => match f, hf with | f + 1, hf => hs _ _ _ h' _ (look_t e (step v r ρ H _ (fun ρ' H' q => ih f (j + 1) ρ' H' (drop_next e) (Nat.lt_of_succ_lt_succ hf) q) h'))
  exact ⟨_, go us _ 0 ρ H rfl (Nat.lt_succ_self _) h⟩
theorem comp_go {src : Src} {bind : Bnd} {test : TX} {elt : EX} {K : KL} (us : List V) (c : V → Bool) (u : V → V) (hl : us.length ≤ lenMax) (hs : ∀ H', Lx [] H H' → src.has H' us)
    (step : ∀ v ∈ us, ∀ (H' : Hp) (G₁ : KV) (G₀ : Hp → Prop), Lx [] H H' → (c v = true → ∀ H₂, Lx [] H H₂ → G₁ (u v) H₂) → (c v = false → ∀ H₂, Lx [] H H₂ → G₀ H₂) →
      bind v ρ fun ρ₁ => test ρ₁ H' fun b H₁ => cnd (elt ρ₁ H₁ G₁) (G₀ H₁) b)
    (k : ∀ H', Lx [] H H' → K ((us.filter c).map u) H') : ∃ f, compTurns src bind test elt ρ K f 0 H [] := by
  have go : ∀ (r : List V) (f j : Nat) (H' : Hp) (acc : List V), us.drop j = r → r.length < f → acc.length + r.length ≤ lenMax → acc ++ (r.filter c).map u = (us.filter c).map u → Lx [] H H' → compTurns src bind test elt ρ K f j H' acc := by
    intro r
    induction r with
    | nil => exact fun f j H' acc e hf _ ea X => match f, hf with | f + 1, _ => hs _ X _ (look_f e (by rw [List.filter_nil, List.map_nil, List.append_nil] at ea; rw [ea]; exact k _ X))
    | cons v r ih =>
      exact fun f j H' acc e hf hl ea X => match f, hf with
        | f + 1, hf => hs _ X _ (look_t e (step v (List.mem_of_mem_drop (i := j) (by rw [e]; exact .head _)) H' _ _ X
          (fun hc H₂ X₂ => ⟨Nat.le_trans (Nat.le_add_right _ _) hl, ih f (j + 1) H₂ _ (drop_next e) (Nat.lt_of_succ_lt_succ hf) (by rw [List.length_append, Nat.add_assoc]; exact (Nat.add_comm r.length 1) ▸ hl)
            (by rw [List.filter_cons_of_pos hc, List.map_cons] at ea; rw [List.append_assoc]; exact ea) X₂⟩)
          fun hc H₂ X₂ => ih f (j + 1) H₂ _ (drop_next e) (Nat.lt_of_succ_lt_succ hf) (Nat.le_trans (Nat.add_le_add_left (Nat.le_succ _) _) hl) (by rw [List.filter_cons_of_neg (by rw [hc]; exact Bool.false_ne_true)] at ea; exact ea) X₂))
  exact ⟨_, go us _ 0 H [] rfl (Nat.lt_succ_self _) (by rw [List.length_nil, Nat.zero_add]; exact hl) rfl (.refl ..)⟩
end
theorem pyIdx_nat {k : Int} {n j : Nat} (h : k = j) (h2 : j < 1048576) : pyIdx k n = some j := by subst h; exact if_pos h2
inductive Pen (H : Hp) (p k n : Nat) : Prop where
  | mk (L : Nat) (xs : List Int) (a b c : Int) (hp : H[p]? = some (.list [.ref L, .int a, .int b, .int c])) (hL : H[L]? = some (.list (xs.map V.int))) (ne : p ≠ L) (ha : 0 ≤ a) (hk : a ≤ k) (hc : 0 ≤ c) (hc' : c < 1009) (hx : xs.length ≤ 63) (h1 : p < n) (h2 : L < n)
theorem mul_bd {x y X Y : Int} (hx : 0 ≤ x ∧ x ≤ X) (hy : 0 ≤ y ∧ y ≤ Y) : 0 ≤ x * y ∧ x * y ≤ X * Y := ⟨Int.mul_nonneg hx.1 hy.1, Int.mul_le_mul hx.2 hy.2 hy.1 (Int.le_trans hx.1 hx.2)⟩
theorem draw_ok {H : Hp} {p k n : Nat} {many : Int} {K : KV} (h : Pen H p k n) (hk : k ≤ 1000) (hm : 0 < many) (hm' : many ≤ 1000)
    (kk : ∀ d H', 0 ≤ d → d < many → Pen H' p (k + 1) n → Lx [p] H H' → K (.int d) H') : callAt F_law_draw [.ref p, .int many] H K := by
  obtain ⟨L, xs, a, b, c, hp, hL, hne, ha, hk', hc, hc', hx, hn1, hn2⟩ := h
  have hz : many ≠ 0 := fun z => by rw [z] at hm; exact absurd hm (by decide)
  have hm2 : many.natAbs < 1606938044258990275541962092341162602522202993782792835301376 := by omega
  have fin : ∀ (e : Int) (H' : Hp) (a' b' : Int), H'[p]? = some (.list [.ref L, .int a', .int b', .int c]) → Lx [p] H H' → 0 ≤ a' → a' ≤ k + 1 → K (.int (e.fmod many)) H' := fun e H' a' b' g X l1 l2 =>
    kk _ _ (Int.fmod_nonneg_of_pos _ hm) (Int.fmod_lt_of_pos _ hm) ⟨L, xs, a', b', c, g, X.at1 hne.symm hL, hne, l1, l2, hc, hc', hx, hn1, hn2⟩ X
  have ka : a + 1 ≤ k + 1 := Int.add_le_add_right hk' 1
  have a0 : 0 ≤ a + 1 := Int.le_add_one ha
  refine ⟨at_list hp (if_b (fun hb => at_list hp (at_list hp (put_at hp fun H1 g1 X1 => at_list g1 (at_list g1 (at_list (X1.at1 hne.symm hL) ⟨?_, if_d (fun hc1 => ?_) fun hc1 => ?_⟩)))))
    fun hb => at_list hp ⟨hz, at_list hp ⟨hm2, hz, at_list hp (put_at hp fun H1 g1 X1 => fin _ H1 a _ g1 X1 ha (Int.le_trans hk' (Int.le_add_of_nonneg_right (by decide))))⟩⟩)⟩
  · rw [List.length_map]; exact Nat.le_trans hx (by decide)
  · have m1 : 0 ≤ (c + 3) * (a + 1 + 2) ∧ (c + 3) * (a + 1 + 2) ≤ 1011 * 1003 := mul_bd (by exact ⟨(ax3c6bf4 hc), (ax442164 hc')⟩) (by exact ⟨(axc4dd0d ha), (ax4a15cb hk hk')⟩)
    exact at_list g1 (at_list g1 ⟨by omega, at_list g1 ⟨by omega, by decide, by decide, hz, fin _ _ _ b g1 X1 a0 ka⟩⟩)
  · rw [List.length_map, Int.not_lt] at hc1
    obtain ⟨j, rfl⟩ := Int.eq_ofNat_of_zero_le ha
    have hj : j < xs.length := Int.ofNat_lt.1 (Int.lt_of_add_one_le hc1)
    refine at_list g1 (at_list g1 (at_list (X1.at1 hne.symm hL) (on_some (pyIdx_nat (Int.add_sub_cancel ..) (Nat.lt_of_lt_of_le hj (Nat.le_trans hx (by decide)))) (on_some (x := .int xs[j]) (by rw [List.getElem?_map, List.getElem?_eq_getElem hj]; rfl) ?_))))
    generalize xs[j] = e
    refine ⟨by decide, by decide, by decide, if_d (fun hd => ⟨hz, fin _ _ _ b g1 X1 a0 ka⟩) fun hd => ⟨by decide, by decide, by decide, ⟨by decide, if_b (fun he => ?_) fun he => ?_⟩⟩⟩
    · refine at_list g1 (put_at g1 fun H2 g2 X2 => at_list g2 ⟨hz, at_list g2 ⟨hm2, hz, at_list g2 (put_at g2 fun H3 g3 X3 => fin _ H3 (j + 1) _ g3 ((X1.trans X2).trans X3) a0 ka)⟩⟩)
    · refine at_list g1 (put_at g1 fun H2 g2 X2 => at_list g2 ⟨hz, at_list g2 ⟨hm2, hz, at_list g2 (put_at g2 fun H3 g3 X3 => fin _ H3 (j + 1) _ g3 ((X1.trans X2).trans X3) a0 ka)⟩⟩)
inductive DecI (u : Int) (s : Nat) (H : Hp) : Nat → Rho → Hp → Prop
  | mk (w : Int) (m : Nat) (i : Int) (hi : i = m) (hm : m ≤ s) (e : u = w * 10 ^ (s - m)) : DecI u s H m [some (.int w), some (.int i)] H
theorem abs_nat (x : Int) : (if x < 0 then -x else x) = (x.natAbs : Int) := by
  by_cases h : x < 0
  · rw [if_pos h, Int.ofNat_natAbs_of_nonpos (Int.le_of_lt h)]
  · rw [if_neg h, Int.natAbs_of_nonneg (Int.not_lt.1 h)]
theorem clip0 {x : Int} : 0 ≤ (if 0 > x then 0 else x) := by
  by_cases h : 0 > x
  · rw [if_pos h]; exact Int.le_refl 0
  · rw [if_neg h]; exact Int.not_lt.1 h
theorem clipk {x k : Int} (hk : 0 ≤ k) (h : x ≤ k) : (if 0 > x then 0 else x) ≤ k := by
  by_cases q : 0 > x
  · rw [if_pos q]; exact hk
  · rw [if_neg q]; exact h
theorem dec_step {w : Int} {s m : Nat} (h1 : w.fmod 10 = 0) (hm : m + 1 ≤ s) : w * 10 ^ (s - (m + 1)) = w.fdiv 10 * 10 ^ (s - m) := by
  have : w = w.fdiv 10 * 10 := by have := Int.fmod_add_fdiv_mul w 10; exact axdf86e9 h1 this
  rw [show s - m = (s - (m + 1)) + 1 from by rw [Nat.sub_add_eq]; exact (Nat.sub_add_cancel (Nat.sub_pos_of_lt hm)).symm, Int.pow_succ, Int.mul_comm (10 ^ _) 10, ← Int.mul_assoc, ← this]
theorem decimal_ok {u : Int} {s : Nat} {H : Hp} {K : KV} (kk : ∀ (w : Int) (m : Nat), m ≤ s → u = w * 10 ^ (s - m) → K (.tup [.int w, .int m]) H) : callAt F_decimal [.int u, .int s] H K := by
  refine ⟨while_go (DecI u s H) ?_ s ⟨u, s, s, rfl, Nat.le_refl s, by rw [Nat.sub_self, Int.pow_zero, Int.mul_one]⟩⟩
  intro n ρ H G go h
  cases h with | mk w m i hi hm e =>
  subst hi
  refine if_d (fun h0 => ⟨by decide, if_d (fun h1 => ⟨by decide, by decide, ?_⟩) fun h1 => kk w n hm e⟩) fun h0 => kk w n hm e
  obtain ⟨k, rfl⟩ := Nat.exists_eq_add_of_lt (Int.ofNat_lt.1 h0)
  rw [Nat.zero_add] at *
  exact go k _ _ (Nat.lt_succ_self k) ⟨_, k, _, ax15cadd, Nat.le_of_succ_le hm, e.trans (dec_step h1 hm)⟩
theorem nat_fdiv (a b : Nat) : ((a : Int)).fdiv (b : Int) = ((a / b : Nat) : Int) := by rw [Int.natCast_ediv, Int.fdiv_eq_ediv_of_nonneg _ (by exact axb956d2)]
theorem nat_fmod (a b : Nat) : ((a : Int)).fmod (b : Int) = ((a % b : Nat) : Int) := by rw [Int.natCast_emod, Int.fmod_eq_emod_of_nonneg _ (by exact axb956d2)]
theorem cut_ok {u b : Int} {H : Hp} {K : KV} (hb : 0 < b) (hb' : b.natAbs < 1606938044258990275541962092341162602522202993782792835301376) (kk : ∀ x : Int, x.natAbs = u.natAbs / b.natAbs → K (.int x) H) : callAt F_cut_quotient [.int u, .int b] H K := by
  have ha := abs_nat
  have h1 : (if b < 0 then -b else b).natAbs < 1606938044258990275541962092341162602522202993782792835301376 := by rw [ha]; exact hb'
  have h2 : (if b < 0 then -b else b) ≠ 0 := by rw [ha]; exact Int.ne_of_gt (Int.natAbs_pos.2 (Int.ne_of_gt hb) |> Int.ofNat_lt.2)
  refine ⟨if_b (fun h => ⟨h1, h2, kk _ ?_⟩) fun h => ⟨h1, h2, kk _ ?_⟩⟩
  · rw [ha, ha, nat_fdiv, Int.natAbs_neg, Int.natAbs_natCast]
  · rw [ha, ha, nat_fdiv, Int.natAbs_natCast]
noncomputable def unitsN (u : Nat) (s : Nat) (sc : Int) : Nat := if (s : Int) ≤ sc then u * 10 ^ (sc - s).toNat else u / 10 ^ (s - sc).toNat
theorem pow_lt {n : Nat} (h : n ≤ 60) : (10 : Nat) ^ n < 1606938044258990275541962092341162602522202993782792835301376 := Nat.lt_of_le_of_lt (Nat.pow_le_pow_right (by decide) h) (by decide)
theorem units_ok {u : Int} {s : Nat} {sc : Int} {H : Hp} {K : KV} (hu : u.natAbs < 1152921504606846976) (hs : s < 30) (h1 : -30 < sc) (h2 : sc < 30)
    (kk : ∀ x : Int, x.natAbs = unitsN u.natAbs s sc → K (.int x) H) : callAt F_units_at [.tup [.int u, .int s], .int sc, .bool false] H K := by
  refine ⟨if_d (fun h => ⟨by decide, axc5d78b h, axcd2c5e h2, hu, kk _ ?_⟩) fun h => ⟨by decide, ax358b5c (Int.not_le.1 h), axdac939 hs h1, ?_⟩⟩
  · rw [unitsN, if_pos h, Int.natAbs_mul, Int.natAbs_pow]; rfl
  · have e : ((10 : Int) ^ ((s : Int) - sc).toNat).natAbs = 10 ^ ((s : Int) - sc).toNat := by rw [Int.natAbs_pow]; rfl
    refine cut_ok (Int.pow_pos (by decide)) (by rw [e]; exact pow_lt (by omega)) fun x hx => kk x ?_
    rw [unitsN, if_neg h, hx, e]
noncomputable def figR : Nat → Nat → List Nat
  | 0, _ => []
  | d + 1, n => figR d (n / 10) ++ [48 + n % 10]
theorem figR_len : ∀ (d n : Nat), (figR d n).length = d
  | 0, _ => rfl
  | d + 1, n => by rw [figR, List.length_append, figR_len d]; rfl
theorem figR_zero : ∀ d : Nat, figR d 0 = List.replicate d 48
  | 0 => rfl
  | d + 1 => by rw [figR, Nat.zero_div, figR_zero d, List.replicate_succ']
theorem figR_dec : ∀ (d f n : Nat), n < 10 ^ d → d ≤ f → ∃ t, (if 0 < n then decF f n else []) = t ∧ t.length ≤ d ∧ List.replicate (d - t.length) 48 ++ t = figR d n
  | 0, f, n, h, _ => by
    have : n = 0 := by simp at h; exact axc05f72 h
    subst this
    exact ⟨[], rfl, Nat.le_refl _, rfl⟩
  | d + 1, 0, n, h, hf => absurd hf (by exact (fun q => (ax427f50 q)))
  | d + 1, f + 1, n, h, hf => by
    by_cases h0 : 0 < n
    · rw [if_pos h0, decF]
      by_cases h1 : n < 10
      · rw [if_pos h1]
        refine ⟨_, rfl, by simp, ?_⟩
        rw [figR, Nat.div_eq_of_lt h1, figR_zero, Nat.mod_eq_of_lt h1]; rfl
      · rw [if_neg h1]
        obtain ⟨t, e, hl, q⟩ := figR_dec d f (n / 10) (by rw [Nat.pow_succ] at h; omega) (by exact axc6830a hf)
        rw [if_pos (by omega)] at e
        refine ⟨_, rfl, by rw [e]; simpa using hl, ?_⟩
        rw [e, figR, ← q]
        simp
    · have : n = 0 := by exact ax295090 (Nat.le_of_not_lt h0)
      subst this
      exact ⟨[], rfl, by simp, by rw [figR_zero]; simp⟩
theorem figR_get : ∀ (d n i : Nat), i < d → (figR d n)[i]? = some (48 + n / 10 ^ (d - 1 - i) % 10)
  | 0, _, _, h => absurd h (by exact (fun q => (axe72ede q)))
  | d + 1, n, i, h => by
    rw [figR]
    by_cases hi : i = d
    · subst hi
      rw [List.getElem?_append_right (by rw [figR_len]; exact ax13a61c), figR_len]; simp
    · have hlt : i < d := Nat.lt_of_le_of_ne (Nat.le_of_lt_succ h) hi
      rw [List.getElem?_append_left (by rw [figR_len]; exact hlt), figR_get d _ i hlt, Nat.div_div_eq_div_mul, ← Nat.pow_succ', show (d - 1 - i).succ = d + 1 - 1 - i from by rw [Nat.add_sub_cancel, Nat.sub_right_comm]; exact Nat.sub_add_cancel (Nat.sub_pos_of_lt hlt)]
theorem figR_nought : ∀ (d n : Nat), n < 10 ^ d → (figR d n = List.replicate d 48 ↔ n = 0)
  | 0, n, h => by simp at h; simp [figR, h]
  | d + 1, n, h => by
    rw [figR, List.replicate_succ']
    have ih := figR_nought d (n / 10) (by rw [Nat.pow_succ] at h; omega)
    constructor
    · intro e
      have := List.append_inj' e rfl
      have h1 := ih.1 this.1
      have h2 := this.2
      simp at h2
      omega
    · intro e
      subst e
      rw [ih.2 rfl]
theorem repL_str (n : Int) (c : Nat) : repL n [c] = List.replicate n.toNat c := by
  unfold repL
  induction n.toNat with
  | zero => rfl
  | succ k ih => rw [List.replicate_succ, List.flatten_cons, ih]; rfl
noncomputable def picL (tx : List Nat) (sy : Nat) (ca : List Nat) (d sc : Int) (b : Bool) (sz : Int) : List (Nat × V) := [(0, .str tx), (1, .ref sy), (2, .str ca), (3, .int d), (4, .int sc), (5, .bool b), (6, .int sz)]
theorem figures_ok {u : Int} {s d p sy : Nat} {tx ca : List Nat} {b : Bool} {sc sz : Int} {H : Hp} {K : KV} (hp : H[p]? = some (.inst 113 (picL tx sy ca d sc b sz))) (hd : d ≤ 18) (hu : u.natAbs < 1152921504606846976) (hs : s < 30) (h1 : -30 < sc) (h2 : sc < 30)
    (kk : ∀ x c, x = figR d (unitsN u.natAbs s sc % 10 ^ d) → c = (decide (u < 0) && decide (0 < unitsN u.natAbs s sc % 10 ^ d)) → K (.tup [.str x, .bool c]) H) : callAt F_figures_laid [.ref p, .tup [.int u, .int s]] H K := by
  refine ⟨at_inst hp (units_ok hu hs h1 h2 fun x hx => at_inst hp ⟨by decide, axb956d2, ax308d29 hd, Int.ne_of_gt (Int.pow_pos (by decide)), ?_⟩)⟩
  have e1 : (if x < 0 then -x else x).fmod (10 ^ (d : Int).toNat) = ((unitsN u.natAbs s sc % 10 ^ d : Nat) : Int) := by
    rw [abs_nat, hx, ← nat_fmod, Int.natCast_pow]; rfl
  rw [e1]
  have hU : unitsN u.natAbs s sc % 10 ^ d < 10 ^ d := Nat.mod_lt _ (Nat.pow_pos (by decide))
  generalize unitsN u.natAbs s sc % 10 ^ d = U at hU kk ⊢
  obtain ⟨t, ht, hl, q⟩ := figR_dec d 31 U hU (by exact ax923d22 hd)
  have b1 : decide ((0 : Int) < U) = decide (0 < U) := decide_eq_decide.2 Int.natCast_pos
  have l1 : t.length ≤ lenMax := by unfold lenMax; exact ax1534b5 hd hl
  have l2 : (repL ((d : Int) - (t.length : Int)) [48]).length + t.length ≤ lenMax := by rw [repL_str, List.length_replicate, Int.toNat_sub, Nat.sub_add_cancel hl]; exact Nat.le_trans hd (by decide)
  have e2 : repL ((d : Int) - (t.length : Int)) [48] ++ t = figR d U := by rw [repL_str, ← q, Int.toNat_sub]
  by_cases h0 : 0 < U
  · rw [if_pos h0] at ht
    have big : U < 1000000000000000000 := Nat.lt_of_lt_of_le hU (Nat.le_trans (Nat.pow_le_pow_right (by decide) hd) (by decide))
    subst ht
    exact if_t (decide_eq_true (Int.ofNat_lt.2 h0)) ⟨⟨axb956d2, ax60b03e big⟩, at_inst hp ⟨l1, by decide, ⟨ax68ce6b hl, ax14eded hd⟩, l2, if_d (fun hu0 => kk _ _ e2 (by rw [b1, decide_eq_true hu0]; rfl)) fun hu0 => kk _ _ e2 (by rw [decide_eq_false hu0]; rfl)⟩⟩
  · rw [if_neg h0] at ht
    subst ht
    exact if_f (decide_eq_false fun z => h0 (Int.ofNat_lt.1 z)) (at_inst hp ⟨l1, by decide, ⟨ax68ce6b hl, ax14eded hd⟩, l2, if_d (fun hu0 => kk _ _ e2 (by rw [b1, decide_eq_true hu0]; rfl)) fun hu0 => kk _ _ e2 (by rw [decide_eq_false hu0]; rfl)⟩)
structure Od where
  seen : Int
  point : List Nat
  trail : Int
  nines : Int
  zero : List Nat
  zeros : Int
  floats : Int
  behind : Int
  late : Bool
  sign : List Nat
  money : List Nat
  last : List Nat
  over : Bool
  ins : Bool
noncomputable def ordL (o : Od) : List (Nat × V) := [(10, .int o.seen), (11, .bool false), (12, .str o.point), (13, .int 0), (14, .int o.trail), (15, .int o.nines), (16, .str o.zero), (17, .int o.zeros), (18, .int o.floats), (19, .int o.behind), (20, .bool o.late), (7, .str o.sign), (21, .str o.money), (22, .str o.last), (23, .bool o.over), (24, .bool o.ins)]
noncomputable def sgnL (s : List Nat) (n a : Int) : List (Nat × V) := [(7, .str s), (8, .int n), (9, .int a)]
noncomputable def OdAt (H : Hp) (o : Nat) (st : Od) : Prop := H[o]? = some (.inst 298 (ordL st))
noncomputable def Took (f : FX) (vs : List V) (H : Hp) (o : Nat) (st : Od) : Prop := ∀ K : KV, (∀ H', OdAt H' o st → Lx [o] H H' → K .none H') → callAt f vs H K
noncomputable def bhnd (st : Od) (c : Int) (b : Bool) : Od := if st.point = [] then st else { st with behind := st.behind + c, late := st.late || b }
section
variable {H : Hp} {o s : Nat} {st : Od} {x : List Nat} {n a c : Int} {b : Bool} {v : V} {K : KV}
theorem bhnd_ok (ho : OdAt H o st) : Took F_Order_add_behind [.ref o, .int c, .bool b] H o (bhnd st c b) := fun K k => by
  unfold bhnd at k
  by_cases hp : st.point = []
  · rw [if_pos hp] at k
    exact ⟨at_inst ho (ne_f hp (k H ho (.refl ..)))⟩
  · rw [if_neg hp] at k
    exact ⟨at_inst ho (ne_t hp (at_inst ho (at_inst ho (put_at ho fun H1 g1 X1 => at_inst g1 (if_b (fun h => at_inst g1 (put_at g1 fun H2 g2 X2 => k H2 (by rw [h]; exact g2) (X1.trans X2)))
      fun h => at_inst g1 (put_at g1 fun H2 g2 X2 => k H2 (by rw [h]; exact g2) (X1.trans X2)))))))⟩
theorem fl_ok (ho : OdAt H o st) : Took F_Order_float_on [.ref o, v, .int c] H o (bhnd { st with floats := st.floats + c } c true) := fun K k =>
  ⟨at_inst ho (at_inst ho (put_at ho fun H1 g1 X1 => at_inst g1 (bhnd_ok (st := { st with floats := st.floats + c }) g1 _ fun H2 g2 X2 => k H2 g2 (X1.trans X2))))⟩
theorem dig_ok (ho : OdAt H o st) (k : K (.int (st.nines + st.zeros + st.floats)) H) : callAt F_Order_digits [.ref o] H K := ⟨at_inst ho (at_inst ho (at_inst ho k))⟩
theorem may_ok (ho : OdAt H o st) (h1 : st.nines = 0) (h2 : st.zeros = 0) (k : K (.bool (st.trail == 0)) H) : callAt F_Order_may_float [.ref o] H K :=
  ⟨at_inst ho (ie_t h1 (at_inst ho (ie_t h2 (at_inst ho (at_inst ho k)))))⟩
theorem end_ok (ho : OdAt H o st) (hs : H[s]? = some (.inst 141 (sgnL x 1 a))) (hn : s ≠ o) (h1 : st.nines + st.zeros + st.floats ≠ 0) (h2 : st.sign = []) :
    Took F_Order_take_end [.ref o, .ref s] H o { st with sign := x, over := true } := fun K k =>
  ⟨at_inst ho (dig_ok ho (ie_f h1 (at_inst ho (ne_f h2 (at_inst hs (at_inst hs (at_inst ho (put_at ho fun H1 g1 X1 => at_inst g1 (put_at g1 fun H2 g2 X2 => k H2 g2 (X1.trans X2))))))))))⟩
end
section
variable {H : Hp} {o s : Nat} {st : Od} {x : List Nat} {n a : Int}
theorem nine_ok (ho : OdAt H o st) (hs : H[s]? = some (.inst 141 (sgnL x n a))) (hn : s ≠ o) (h1 : st.trail = 0) (h2 : st.late = false) :
    Took F_Order_take_nine [.ref o, .ref s] H o (bhnd { st with nines := st.nines + n } n false) := fun K k =>
  ⟨at_inst ho (lt_f (Int.le_of_eq h1) (at_inst ho (if_f h2 (at_inst ho (at_inst hs (at_inst ho (put_at ho fun H1 g1 X1 => at_inst g1 (at_inst (X1.at1 hn hs) (bhnd_ok (st := { st with nines := st.nines + n }) g1 _ fun H2 g2 X2 => k H2 g2 (X1.trans X2))))))))))⟩
theorem zero_ok (ho : OdAt H o st) (hs : H[s]? = some (.inst 141 (sgnL x 1 a))) (hn : s ≠ o) (h1 : st.trail = 0) (h2 : st.nines = 0) (h3 : st.floats = 0) (h4 : st.zero = [] ∨ st.zero = x) :
    Took F_Order_take_zero [.ref o, .ref s] H o (bhnd { st with zero := x, zeros := st.zeros + 1 } 1 true) := fun K k =>
  ⟨at_inst ho (lt_f (Int.le_of_eq h1) (at_inst ho (lt_f (Int.le_of_eq h2) (at_inst ho (lt_f (Int.le_of_eq h3) (at_inst ho (at_inst hs (not_f (by rcases h4 with h | h <;> simp [h])
    (at_inst hs (at_inst ho (put_at ho fun H1 g1 X1 => at_inst g1 (at_inst (X1.at1 hn hs) (at_inst g1 (put_at g1 fun H2 g2 X2 => at_inst g2 (at_inst (X2.at1 hn (X1.at1 hn hs))
      (bhnd_ok (st := { st with zero := x, zeros := st.zeros + 1 }) g2 _ fun H3 g3 X3 => k H3 g3 ((X1.trans X2).trans X3)))))))))))))))))⟩
theorem point_ok (ho : OdAt H o st) (hs : H[s]? = some (.inst 141 (sgnL x n a))) (hn : s ≠ o) (h1 : st.point = []) (h2 : st.trail = 0) :
    Took F_Order_take_point [.ref o, .ref s] H o { st with point := x } := fun K k => by
  have fin : (atInst H s 141 fun fs => onSome (getF 7 fs) fun v => vSetAttr 298 12 (.ref o) v H fun H => K .none H) := at_inst hs (at_inst ho (put_at ho fun H1 g1 X1 => k H1 g1 X1))
  exact ⟨at_inst ho (ne_f h1 (at_inst ho (at_inst hs (if_b (fun h => at_inst ho (lt_f (Int.le_of_eq h2) fin)) fun h => fin))))⟩
theorem scal_ok (ho : OdAt H o st) (hs : H[s]? = some (.inst 141 (sgnL x 1 a))) (hn : s ≠ o) (h1 : st.point = []) (h2 : 0 < st.nines + st.zeros + st.floats) :
    Took F_Order_take_scaling [.ref o, .ref s] H o { st with trail := st.trail + 1 } := fun K k =>
  ⟨at_inst ho (dig_ok ho (lt_t h2 (at_inst ho (ne_f h1 (at_inst ho (at_inst ho (at_inst hs (at_inst ho (put_at ho fun H1 g1 X1 => k H1 g1 X1)))))))))⟩
theorem insd_ok (ho : OdAt H o st) (h2 : st.trail = 0) : Took F_Order_take_inserted [.ref o, .ref s] H o { st with ins := true } := fun K k =>
  ⟨at_inst ho (lt_f (Int.le_of_eq h2) (at_inst ho (put_at ho fun H1 g1 X1 => k H1 g1 X1)))⟩
theorem bh0 {st : Od} {c : Int} {b : Bool} (h : st.point = []) : bhnd st c b = st := by unfold bhnd; rw [if_pos h]
theorem od_same (st : Od) : ({ st with floats := st.floats + (1 - 1) } : Od) = st := by
  have : st.floats + (1 - 1) = st.floats := by exact ax78cebe
  rw [this]
theorem sign0_ok (ho : OdAt H o st) (hs : H[s]? = some (.inst 141 (sgnL x n a))) (hn : s ≠ o) (h1 : st.seen = 0) (h2 : st.point = []) :
    Took F_Order_take_sign [.ref o, .ref s] H o { st with sign := x, floats := st.floats + (n - 1) } := fun K k =>
  ⟨at_inst ho (ie_t h1 (at_inst hs (at_inst ho (put_at ho fun H1 g1 X1 => at_inst g1 (at_inst (X1.at1 hn hs) (fl_ok (st := { st with sign := x }) g1 _ fun H2 g2 X2 =>
    k H2 (by rw [bh0 (st := { st with sign := x, floats := st.floats + (n - 1) }) h2] at g2; exact g2) (X1.trans X2)))))))⟩
theorem signF_ok (ho : OdAt H o st) (hs : H[s]? = some (.inst 141 (sgnL x 1 a))) (hn : s ≠ o) (h1 : st.seen ≠ 0) (h2 : st.sign = x) (h3 : st.money = []) (m1 : st.nines = 0) (m2 : st.zeros = 0) (m3 : st.trail = 0) :
    Took F_Order_take_sign [.ref o, .ref s] H o (bhnd { st with floats := st.floats + 1 } 1 true) := fun K k =>
  ⟨at_inst ho (ie_f h1 (at_inst ho (at_inst hs (eq_t h2 (at_inst ho (eq_t h3 (at_inst ho (may_ok ho m1 m2 (ie_t m3 (at_inst ho (at_inst hs (fl_ok ho _ fun H2 g2 X2 => k H2 g2 X2))))))))))))⟩
theorem signE_ok (ho : OdAt H o st) (hs : H[s]? = some (.inst 141 (sgnL x 1 a))) (hn : s ≠ o) (h1 : st.seen ≠ 0) (h2 : st.sign = []) (hx : x ≠ []) (h3 : st.nines + st.zeros + st.floats ≠ 0) :
    Took F_Order_take_sign [.ref o, .ref s] H o { st with sign := x, over := true } := fun K k =>
  ⟨at_inst ho (ie_f h1 (at_inst ho (at_inst hs (eq_f (fun e => hx (e.symm.trans h2)) (at_inst ho (end_ok ho hs hn h3 h2 _ fun H2 g2 X2 => k H2 g2 X2))))))⟩
theorem money0_ok (ho : OdAt H o st) (hs : H[s]? = some (.inst 141 (sgnL x 1 a))) (hn : s ≠ o) (h1 : st.seen = 0 ∨ st.seen = 1 ∧ st.sign ≠ [] ∧ st.floats = 0) (h2 : st.point = []) (h3 : st.money = []) :
    Took F_Order_take_money [.ref o, .ref s] H o { st with money := x } := fun K k => by
  have fin : (atInst H s 141 fun fs => onSome (getF 7 fs) fun v => vSetAttr 298 21 (.ref o) v H fun H => atInst H o 298 fun fs => cnd (atInst H s 141 fun fs => onSome (getF 8 fs) fun v => vSub v (.int 1) H fun v H => callAt F_Order_float_on [.ref o, .ref s, v] H fun v H => onNone v (K .none H)) False (fs.all fun p => !Nat.beq p.1 39)) :=
    at_inst hs (at_inst ho (put_at ho fun H1 g1 X1 => at_inst g1 (at_inst (X1.at1 hn hs) (fl_ok (st := { st with money := x }) g1 _ fun H2 g2 X2 =>
      k H2 (by rw [od_same { st with money := x }, bh0 (st := { st with money := x }) h2] at g2; exact g2) (X1.trans X2)))))
  refine ⟨at_inst ho (eq_t h3 (at_inst ho ?_))⟩
  rcases h1 with h1 | ⟨h1, h4, h5⟩
  · exact lt_f (by rw [h1]; decide) (at_inst ho (ie_f (by rw [h1]; decide) fin))
  · exact lt_f (by rw [h1]; decide) (at_inst ho (ie_t h1 (at_inst ho (eq_f h4 (at_inst ho (lt_f (by rw [h5]; decide) fin))))))
theorem moneyF_ok (ho : OdAt H o st) (hs : H[s]? = some (.inst 141 (sgnL x 1 a))) (hn : s ≠ o) (h3 : st.money ≠ []) (m1 : st.nines = 0) (m2 : st.zeros = 0) (m3 : st.trail = 0) :
    Took F_Order_take_money [.ref o, .ref s] H o (bhnd { st with floats := st.floats + 1 } 1 true) := fun K k =>
  ⟨at_inst ho (eq_f h3 (at_inst ho (may_ok ho m1 m2 (ie_t m3 (at_inst ho (at_inst hs (fl_ok ho _ fun H2 g2 X2 => k H2 g2 X2)))))))⟩
noncomputable def pick (x : List Nat) : FX :=
  if x = [57] then F_Order_take_nine else if x = [90] ∨ x = [42] then F_Order_take_zero else if x = [86] ∨ x = [46] then F_Order_take_point else if x = [80] then F_Order_take_scaling
  else if x = [43] ∨ x = [45] then F_Order_take_sign else if x = [36] then F_Order_take_money else if x = [67, 82] ∨ x = [68, 66] then F_Order_take_end else F_Order_take_inserted
noncomputable def allSigns : List (List Nat) := [[57], [90], [42], [86], [46], [80], [43], [45], [36], [67, 82], [68, 66], [66], [48], [47], [44]]
theorem nb_of {x a b : List Nat} (h : ([a, b] : List (List Nat)).any (· == x) = false) : ¬ (x = a ∨ x = b) := fun q => by
  have : ([a, b] : List (List Nat)).any (· == x) = true := by rcases q with rfl | rfl <;> simp
  rw [this] at h; cases h
theorem two_in {x a b : List Nat} (h : ([a, b] : List (List Nat)).any (· == x) = true) : a = x ∨ b = x := by simpa using h
theorem take_ok (ho : OdAt H o st) (hs : H[s]? = some (.inst 141 (sgnL x n a))) (hn : s ≠ o) (hov : st.over = false) (hx : x ∈ allSigns) {st' : Od}
    (h : Took (pick x) [.ref o, .ref s] H o st') : Took F_Order_take [.ref o, .ref s] H o { st' with seen := st'.seen + 1, last := x } := fun K k => by
  have hS : x ≠ [83] := fun e => by subst e; exact absurd hx (by decide)
  have fin : ∀ H1, OdAt H1 o st' → Lx [o] H H1 → sSeq (sSetAttr 298 10 (eLoc 0) (eOp2 vAdd (eOp1 (vAttr 298 10) (eLoc 0)) (eCon (.int 1)))) (sSeq (sSetAttr 298 22 (eLoc 0) (eLoc 2)) sNil) ((List.map some [V.ref o, V.ref s] ++ List.replicate 1 none).set 2 (some (.str x))) H1 (fun _ H => K .none H) K := fun H1 g1 X1 =>
    at_inst g1 (at_inst g1 (put_at g1 fun H2 g2 X2 => at_inst g2 (put_at g2 fun H3 g3 X3 => k H3 g3 ((X1.trans X2).trans X3))))
  have call : ∀ {f : FX} {K' : KV}, pick x = f → (∀ H1, OdAt H1 o st' → Lx [o] H H1 → K' .none H1) → callAt f [.ref o, .ref s] H K' := fun e k' => e ▸ h _ k'
  refine ⟨at_inst hs (at_inst ho (if_f hov (at_inst ho (eq_f hS (eq_f hS (if_b (fun e => at_inst ho (call (by rw [eq_of_beq e]; rfl) fin)) fun e1 => if_b (fun e => at_inst ho (call (by rcases two_in (x := x) (a := [90]) (b := [42]) e with rfl | rfl <;> rfl) fin)) fun e2 => if_b (fun e => at_inst ho (call (by rcases two_in (x := x) (a := [86]) (b := [46]) e with rfl | rfl <;> rfl) fin)) fun e3 =>
    if_b (fun e => at_inst ho (call (by rw [eq_of_beq e]; rfl) fin)) fun e4 => if_b (fun e => at_inst ho (call (by rcases two_in (x := x) (a := [43]) (b := [45]) e with rfl | rfl <;> rfl) fin)) fun e5 => if_b (fun e => at_inst ho (call (by rw [eq_of_beq e]; rfl) fin)) fun e6 => if_b (fun e => at_inst ho (call (by rcases two_in (x := x) (a := [67, 82]) (b := [68, 66]) e with rfl | rfl <;> rfl) fin)) fun e7 => at_inst ho (call ?_ fin)))))))⟩
  unfold pick
  rw [if_neg (ne_of_beq_false e1), if_neg (nb_of (x := x) (a := [90]) (b := [42]) e2), if_neg (nb_of (x := x) (a := [86]) (b := [46]) e3), if_neg (ne_of_beq_false e4), if_neg (nb_of (x := x) (a := [43]) (b := [45]) e5), if_neg (ne_of_beq_false e6), if_neg (nb_of (x := x) (a := [67, 82]) (b := [68, 66]) e7)]
end
theorem cut_at (a x : List Nat) (k : Nat) : cutL (a ++ x) (Int.toNat (a.length : Nat)) (Int.toNat ((a.length : Nat) + (k : Nat))) = x.take k := by
  unfold cutL
  rw [show Int.toNat (a.length : Nat) = a.length from rfl, show Int.toNat ((a.length : Nat) + (k : Nat)) = a.length + k by omega]; simp
theorem sign_cases : ∀ s ∈ allSigns, (s = [67, 82] ∨ s = [68, 66]) ∨ ∃ c, s = [c] ∧ c ≠ 67 ∧ c ≠ 68 ∧ c ∈ [65, 66, 80, 83, 86, 88, 90, 57, 48, 47, 44, 46, 43, 45, 42, 36] := by
  intro s hs
  simp only [allSigns, List.mem_cons, List.not_mem_nil, or_false] at hs
  rcases hs with rfl | rfl | rfl | rfl | rfl | rfl | rfl | rfl | rfl | rfl | rfl | rfl | rfl | rfl | rfl
  all_goals first | exact .inl (.inl rfl) | exact .inl (.inr rfl) | exact .inr ⟨_, rfl, by decide, by decide, by decide⟩
theorem len30 {n : Nat} (h : n ≤ 30) : n ≤ lenMax := Nat.le_trans h (by decide)
theorem sign_at_ok {H : Hp} {t a s b : List Nat} {i : Int} {K : KV} (e : t = a ++ (s ++ b)) (hi : i = (a.length : Nat)) (hs : s ∈ allSigns) (hl : t.length ≤ 30) (kk : ∀ x, x = s → K (.str x) H) : callAt F_sign_at [.str t, .int i] H K := by
  subst hi
  have z0 : (0 : Int) ≤ (a.length : Nat) := Int.natCast_nonneg _
  have z2 : (0 : Int) ≤ (a.length : Nat) + 2 := by exact ax495ada
  have ce : cutL t (Int.toNat (a.length : Nat)) (Int.toNat ((a.length : Nat) + 2)) = (s ++ b).take 2 := by rw [e]; exact cut_at a _ 2
  refine ⟨⟨len30 hl, z0, z2, ?_⟩⟩
  rcases sign_cases s hs with hc | ⟨c, rfl, hc1, hc2, hc3⟩
  · refine if_t (?_ : ([[67, 82], [68, 66]] : List (List Nat)).any (· == cutL _ _ _) = true) ⟨len30 hl, z0, z2, kk _ ?_⟩
    · rw [ce]; rcases hc with rfl | rfl <;> rfl
    · rw [ce]; rcases hc with rfl | rfl <;> rfl
  · have hj : t[a.length]? = some c := by rw [e, List.getElem?_append_right (Nat.le_refl _), Nat.sub_self]; rfl
    have lt : a.length < 1048576 := by rw [e, List.length_append] at hl; exact Nat.lt_of_le_of_lt (Nat.le_trans (Nat.le_add_right _ _) hl) (by decide)
    exact if_f (by rw [show ([[67, 82], [68, 66]] : List (List Nat)).any (· == cutL t (Int.toNat (a.length : Nat)) (Int.toNat ((a.length : Nat) + 2))) = _ from by rw [ce]]; simp [hc1.symm, hc2.symm])
      (on_some (pyIdx_nat rfl lt) (on_some hj (not_f (decide_eq_true hc3) (on_some (pyIdx_nat rfl lt) (on_some hj (kk _ rfl))))))
noncomputable abbrev Rn := List Nat × Nat
noncomputable def ctx (n : Nat) : List Nat := if n = 1 then [] else [40, 48 + n, 41]
noncomputable def txt (its : List Rn) : List Nat := its.flatMap fun p => p.1 ++ ctx p.2
noncomputable def okIt (p : Rn) : Prop := p.1 ∈ allSigns ∧ (p.2 = 1 ∨ (2 ≤ p.2 ∧ p.2 ≤ 9) ∧ (p.1 = [57] ∨ p.1 = [45]))
theorem txt_app (a b : List Rn) : txt (a ++ b) = txt a ++ txt b := List.flatMap_append
theorem txt_cons (p : Rn) (b : List Rn) : txt (p :: b) = p.1 ++ (ctx p.2 ++ txt b) := by unfold txt; rw [List.flatMap_cons, List.append_assoc]
theorem txt_head {its : List Rn} (h : ∀ p ∈ its, okIt p) : (txt its).take 1 ≠ [40] := by
  cases its with
  | nil => intro e; cases e
  | cons p r =>
    have q : ∀ s ∈ allSigns, ∃ c l, s = c :: l ∧ c ≠ 40 := by
      intro s hs
      have := (by decide : ∀ s ∈ allSigns, s ≠ [] ∧ s.head? ≠ some 40) s hs
      cases s with
      | nil => exact absurd rfl this.1
      | cons c l => exact ⟨c, l, rfl, fun e => this.2 (by rw [e]; rfl)⟩
    obtain ⟨c, l, e, hc⟩ := q p.1 (h p (.head _)).1
    rw [txt_cons, e]
    intro e2
    simp at e2
    exact hc e2
theorem count_at_ok {H : Hp} {t a b : List Nat} {n : Nat} {i : Int} {K : KV} (e : t = a ++ (ctx n ++ b)) (hi : i = (a.length : Nat)) (hn : n = 1 ∨ 2 ≤ n ∧ n ≤ 9) (hl : t.length ≤ 30) (hb : b.take 1 ≠ [40])
    (kk : ∀ (m j : Int) H', m = (n : Nat) → j = ((a ++ ctx n).length : Nat) → Lx [] H H' → K (.tup [.int m, .int j]) H') : callAt F_count_at [.str t, .int i] H K := by
  subst hi
  have z0 : (0 : Int) ≤ (a.length : Nat) := Int.natCast_nonneg _
  have z1 : (0 : Int) ≤ (a.length : Nat) + 1 := by exact ax5f78fd
  have ce : cutL t (Int.toNat (a.length : Nat)) (Int.toNat ((a.length : Nat) + 1)) = (ctx n ++ b).take 1 := by rw [e]; exact cut_at a _ 1
  refine ⟨⟨len30 hl, z0, z1, ?_⟩⟩
  rcases hn with rfl | ⟨hn1, hn2⟩
  · exact ne_t (by rw [ce]; exact hb) (kk _ _ _ rfl (by simp [ctx]) (.refl ..))
  have e0 : ctx n = [40, 48 + n, 41] := if_neg (by exact (fun q => (axeb79ec hn1 q)))
  rw [e0] at e ce kk
  have dr : t.drop a.length = 40 :: (48 + n) :: 41 :: b := by rw [e, List.drop_left]; rfl
  have hl2 : a.length + 3 ≤ 30 := by rw [e] at hl; simp at hl; exact ax17bba3 hl
  have hf : foundAt (a.length : Nat) ((t.drop (Int.toNat (a.length : Nat))).findIdx? (· == 41)) = (a.length : Nat) + 2 := by
    rw [show Int.toNat (a.length : Nat) = a.length from rfl, dr]
    have h1 : (48 + n == 41) = false := by simp; exact (fun q => (axf23fe3 q))
    simp [List.findIdx?_cons, h1, foundAt]
  have hx : cutL t (Int.toNat ((a.length : Nat) + 1)) (Int.toNat (if ((a.length : Nat) : Int) > (a.length : Nat) + 2 then ((a.length : Nat) : Int) else (a.length : Nat) + 2)) = [48 + n] := by
    rw [if_neg (by exact (fun q => (axff321d q)))]
    unfold cutL
    rw [show Int.toNat ((a.length : Nat) + 1) = a.length + 1 by omega, show Int.toNat ((a.length : Nat) + 2) = a.length + 2 by omega, ← List.drop_drop, dr, show a.length + 2 - (a.length + 1) = 1 by omega]; rfl
  have dg : 48 ≤ 48 + n ∧ 48 + n ≤ 57 := ⟨axfec5b3, (ax8173c8 hn2)⟩
  have d0 : (((48 + n - 48 : Nat)) : Int) = n := congrArg Nat.cast (Nat.add_sub_cancel_left ..)
  refine ne_f (by rw [ce]; rfl) ⟨⟨z0, by rw [e]; simp; exact ax69fdc4⟩, ?_⟩
  rw [hf]
  refine ⟨len30 hl, z1, by omega, ?_⟩
  rw [hx]
  refine ⟨(by decide : 1 ≤ lenMax), ⟨rfl, comp_go [.str [48 + n]] (fun _ => false) id (show 1 ≤ lenMax by decide) (fun H' X => has_items) (fun v hv H' G₁ G₀ X h1 h0 => ?_) fun H1 X1 => new_at' fun E H2 gE XE _ => new_at' fun E2 H3 g3 X3 _ => at_list (X3.at0 gE) (at_list g3
    ⟨rfl, ⟨dg, ie_f (by rw [d0]; exact (fun q => (axf6656b hn1 q))) ⟨dg, kk _ _ _ d0 (by simp; exact ax004c5d) ((X1.trans XE).trans X3)⟩⟩⟩)⟩⟩
  cases List.mem_singleton.1 hv
  exact not_f (decide_eq_true ((by decide : ∀ m, m < 10 → 48 + m ∈ [48, 49, 50, 51, 52, 53, 54, 55, 56, 57]) n (Nat.lt_succ_of_le hn2))) (h0 rfl _ X)
noncomputable def SgAt (H : Hp) : List Nat → List Rn → Prop
  | [], [] => True
  | r :: rs, s :: ss => (∃ a, H[r]? = some (.inst 141 (sgnL s.1 (s.2 : Nat) a))) ∧ SgAt H rs ss
  | _, _ => False
theorem SgAt.lx {S : List Nat} {H H' : Hp} (x : Lx S H H') : ∀ {rs : List Nat} {ss : List Rn}, (∀ r ∈ rs, r ∉ S) → SgAt H rs ss → SgAt H' rs ss
  | [], [], _, _ => trivial
  | r :: rs, s :: ss, n, ⟨⟨a, e⟩, t⟩ => ⟨⟨a, x.get _ _ (n r (.head _)) e⟩, SgAt.lx x (fun q h => n q (.tail _ h)) t⟩
theorem SgAt.app {H : Hp} : ∀ {rs rs' : List Nat} {ss ss' : List Rn}, SgAt H rs ss → SgAt H rs' ss' → SgAt H (rs ++ rs') (ss ++ ss')
  | [], _, [], _, _, h => h
  | _ :: _, _, _ :: _, _, ⟨a, t⟩, h => ⟨a, SgAt.app t h⟩
theorem sgnew_ok {H : Hp} {s : List Nat} {n a : Int} {K : KV} (kk : ∀ r H', H'[r]? = some (.inst 141 (sgnL s n a)) → Lx [] H H' → H.length ≤ r → K (.ref r) H') : callAt (fNew 141 F_Sign_init) [.str s, .int n, .int a] H K :=
  ⟨new_at' fun r H1 g1 X1 l1 => ⟨at_inst g1 (put_at g1 fun H2 g2 X2 => at_inst g2 (put_at g2 fun H3 g3 X3 => at_inst g3 (put_at g3 fun H4 g4 X4 => kk r H4 g4 (X1.fresh ((X2.trans X3).trans X4) fun i hi => .inr (List.mem_singleton.1 hi ▸ l1)) l1)))⟩⟩
inductive SgsI (H : Hp) (its : List Rn) (L : Nat) : Nat → Rho → Hp → Prop
  | mk (pre post : List Rn) (rs : List Nat) (x3 x4 x5 : Option V) (i : Int) (H' : Hp) (e : its = pre ++ post) (hi : i = ((txt pre).length : Nat)) (g : H'[L]? = some (.list (rs.map V.ref))) (sg : SgAt H' rs pre) (X : Lx [] H H') (hL : L < H'.length) (hn : ∀ r ∈ rs, r ≠ L) (hr : rs.length ≤ pre.length) :
    SgsI H its L post.length [some (.str (txt its)), some (.ref L), some (.int i), x3, x4, x5] H'
theorem txt_len {its : List Rn} (h : ∀ p ∈ its, okIt p) : its.length ≤ (txt its).length := by
  induction its with
  | nil => exact Nat.zero_le _
  | cons p r ih =>
    have h1 := (by decide : ∀ s ∈ allSigns, 1 ≤ s.length) p.1 (h p (.head _)).1
    have h2 := ih fun q m => h q (.tail _ m)
    rw [txt_cons, List.length_append, List.length_append, List.length_cons]; exact ax77e293 h1 h2
theorem signs_ok {H : Hp} {its : List Rn} {K : KV} (hs : ∀ p ∈ its, okIt p) (hl : (txt its).length ≤ 30) (kk : ∀ L rs H', H'[L]? = some (.list (rs.map V.ref)) → SgAt H' rs its → Lx [] H H' → K (.ref L) H') : callAt F_signs_of [.str (txt its)] H K := by
  have cnt : its.length ≤ 30 := Nat.le_trans (txt_len hs) hl
  refine ⟨new_at' fun L H1 g1 X1 l1 => while_go (SgsI H its L) ?_ its.length ⟨[], its, [], none, none, none, 0, H1, rfl, rfl, g1, trivial, X1, get_lt g1, (fun _ q => nomatch q), Nat.le_refl _⟩⟩
  intro n ρ H' G go h
  obtain ⟨pre, post, rs, x3, x4, x5, i, _, e, hi, g, sg, X, lL, nL, lrs⟩ := h
  refine ⟨len30 hl, ?_⟩
  cases post with
  | nil => exact lt_f (by rw [e, hi]; simp) (kk L rs _ g (by rw [e]; simpa using sg) X)
  | cons p post =>
    obtain ⟨s, n⟩ := p
    have hp : okIt (s, n) := hs (s, n) (by rw [e]; simp)
    have s1 : 1 ≤ s.length := (by decide : ∀ s ∈ allSigns, 1 ≤ s.length) s hp.1
    have ef : txt its = txt pre ++ (s ++ (ctx n ++ txt post)) := by rw [e, txt_app, txt_cons]
    have ef' : txt its = (txt pre ++ s) ++ (ctx n ++ txt post) := by rw [ef, List.append_assoc]
    have en : txt (pre ++ [(s, n)]) = (txt pre ++ s) ++ ctx n := by rw [txt_app, txt_cons]; simp [txt]
    have hsl : s.length ≤ lenMax := len30 (by rw [ef] at hl; simp at hl; exact ax5718d7 hl)
    have cl : its.length = pre.length + (post.length + 1) := by rw [e]; simp
    refine lt_t (by rw [ef, hi]; simp; exact ax6bb319 s1) (sign_at_ok ef hi hp.1 hl fun s' hs' => ?_)
    subst hs'
    refine ⟨hsl, count_at_ok ef' (by rw [hi]; simp) (hp.2.imp id (·.1)) hl (txt_head fun q m => hs q (by rw [e]; simp [m])) fun m j K1 hm hj XK => ⟨hsl, ?_⟩⟩
    have gK := XK.at0 g
    have lrs' : rs.length ≤ 30 := by exact axe09146 cnt lrs cl
    have fin : ∀ (K2 K3 : Hp) (r : Nat), K2[r]? = some (.inst 141 (sgnL s' m i)) → Lx [] K1 K2 → K1.length ≤ r → K3[L]? = some (.list (rs.map V.ref ++ [V.ref r])) → Lx [L] K2 K3 →
        SgsI H its L post.length [some (.str (txt its)), some (.ref L), some (.int j), some (.str s'), some (.int m), some (.int j)] K3 := fun K2 K3 r gr X2 hr g3 X3 => by
      have lK := XK.len
      have hne : r ≠ L := by exact (fun q => (ax578c70 lL hr lK q))
      subst hm
      refine ⟨pre ++ [(s', n)], post, rs ++ [r], _, _, _, j, _, by rw [e]; simp, by rw [en]; exact hj, by rw [g3, List.map_append]; rfl, ?_, Lx.fresh ((X.trans XK).trans X2) X3 (by simp; exact axcb450d l1), get_lt g3, ?_, by simp; exact axcb450d lrs⟩
      · exact SgAt.app (SgAt.lx X3 (by simpa using nL) (SgAt.lx X2 (by simp) (SgAt.lx XK (by simp) sg))) ⟨⟨_, X3.at1 hne gr⟩, trivial⟩
      · intro q hq
        rcases List.mem_append.1 hq with h | h
        · exact nL q h
        · cases List.mem_singleton.1 h; exact hne
    have out : ∀ K1' : Hp, Lx [] K1 K1' → K1'[L]? = some (.list (rs.map V.ref)) → ∀ r K2, K2[r]? = some (.inst 141 (sgnL s' m i)) → Lx [] K1' K2 → K1'.length ≤ r →
        atList K2 L fun x => x.length ≤ lenMax ∧ putAt K2 L (.list (x ++ [.ref r])) fun K3 => G [some (.str (txt its)), some (.ref L), some (.int j), some (.str s'), some (.int m), some (.int j)] K3 := fun K1' XE g' r K2 gr X2 hr =>
      at_list (X2.at0 g') ⟨by rw [List.length_map]; exact len30 lrs', put_at (X2.at0 g') fun K3 g3 X3 => go _ _ _ (Nat.lt_succ_self _) (fin K2 K3 r gr (XE.trans X2) (Nat.le_trans XE.len hr) g3 X3)⟩
    rcases hp.2 with h1 | ⟨h1, h2⟩
    · exact lt_f (by have h1 : n = 1 := h1
                     subst h1; rw [hj, hi]; simp [ctx]) (at_list gK (sgnew_ok (out K1 (.refl ..) gK)))
    · refine lt_t (by have h1 : 2 ≤ n ∧ n ≤ 9 := h1
                      rw [hj, hi, show ctx n = [40, 48 + n, 41] from if_neg (by show ¬ n = 1; omega)]; simp; exact axbf86c8) ⟨⟨rfl, rfl⟩, new_at' fun E K' gE XE lE => at_list gE (if_f (?_ : ([[83], [86], [46], [67, 82], [68, 66]] : List (List Nat)).any (· == s') = false) (at_list (XE.at0 gK) (sgnew_ok (out K' XE (XE.at0 gK)))))⟩
      rcases h2 with h | h <;> (rw [show s' = _ from h]; rfl)
noncomputable def rnV (p : Rn) : V := .tup [.str p.1, .int p.2]
noncomputable def expand (acc : List Rn) : List (List Nat) := acc.flatMap fun p => List.replicate p.2 p.1
theorem expand_app (a b : List Rn) : expand (a ++ b) = expand a ++ expand b := List.flatMap_append
theorem expand_one (s : List Nat) (n : Nat) : expand [(s, n)] = List.replicate n s := by simp [expand]
theorem SgAt.len {H : Hp} : ∀ {rs : List Nat} {ss : List Rn}, SgAt H rs ss → rs.length = ss.length
  | [], [], _ => rfl
  | _ :: _, _ :: _, ⟨_, t⟩ => congrArg (· + 1) (SgAt.len t)
theorem pyIdx_last {n : Nat} (h : 0 < n) : pyIdx (-1) n = some (n - 1) := if_pos ⟨by decide, h⟩
theorem last_get {α β : Type} (f : α → β) (l : List α) (a : α) : ((l ++ [a]).map f)[((l ++ [a]).map f).length - 1]? = some (f a) := by simp
inductive SymI (H : Hp) (its : List Rn) (t L : Nat) : List V → Rho → Hp → Prop
  | mk (i1 : List Rn) (r2 : List Nat) (i2 acc : List Rn) (x : Option V) (H' : Hp) (e : its = i1 ++ i2) (sg : SgAt H r2 i2) (g : H'[L]? = some (.list (acc.map rnV))) (ex : expand acc = expand i1) (la : acc.length ≤ i1.length)
    (lb : ∀ p ∈ acc, p.2 ≤ (expand i1).length ∧ 0 < p.2) (X : Lx [] H H') : SymI H its t L (r2.map V.ref) [some (.ref t), some (.ref L), x] H'
theorem symbols_ok {H : Hp} {t : Nat} {rs : List Nat} {its : List Rn} {K : KV} (ht : H[t]? = some (.list (rs.map V.ref))) (hs : SgAt H rs its) (hl : its.length ≤ 30) (hp : ∀ p ∈ its, 0 < p.2) (hx : (expand its).length ≤ 30)
    (kk : ∀ L acc H', H'[L]? = some (.list (acc.map rnV)) → expand acc = expand its → acc.length ≤ 30 → (∀ p ∈ acc, p.2 ≤ 30 ∧ 0 < p.2) → Lx [] H H' → K (.ref L) H') : callAt F_symbols_of [.ref t] H K := by
  refine ⟨new_at' fun L H1 g1 X1 l1 => ⟨at_list (X1.at0 ht) (for_go (rs.map V.ref) (SymI H its t L) ⟨[], rs, its, [], none, H1, rfl, hs, g1, rfl, Nat.le_refl _, (fun _ q => nomatch q), X1⟩ (fun r ρ H' h => by cases h with | mk _ _ _ _ _ _ _ _ _ _ _ _ X => exact has_list (X.at0 ht)) ?_ ?_)⟩⟩
  · intro v r ρ H' G go h
    generalize hr : v :: r = vr at h
    obtain ⟨i1, r2, i2, acc, x, _, e, sg, g, ex, la, lb, X⟩ := h
    cases r2 with
    | nil => cases hr
    | cons q r2 =>
    cases hr
    cases i2 with
    | nil => exact sg.elim
    | cons p i2 =>
    obtain ⟨s, m⟩ := p
    obtain ⟨⟨a, hq⟩, sg⟩ := sg
    have hq := X.at0 hq
    have hm : 0 < m := hp (s, m) (by rw [e]; simp)
    have cl : its.length = i1.length + (i2.length + 1) := by rw [e]; simp
    have en : expand (i1 ++ [(s, m)]) = expand i1 ++ List.replicate m s := by rw [expand_app, expand_one]
    have el : (expand (i1 ++ [(s, m)])).length = (expand i1).length + m := by rw [en]; simp
    refine new_at' fun E H2 gE XE b1 => at_list (XE.at0 g) (at_list gE ⟨rfl, ?_⟩)
    have g2 := XE.at0 g
    have hq2 := XE.at0 hq
    have bl : (acc.map rnV).length ≤ lenMax := by rw [List.length_map]; unfold lenMax; exact ax71e936 hl la cl
    have app : ∀ H3 : Hp, H3[L]? = some (.list (acc.map rnV ++ [V.tup [.str s, .int (m : Nat)]])) → Lx [L] H2 H3 → G [some (.ref t), some (.ref L), some (.ref q)] H3 := fun H3 g3 X3 => by
      refine go _ _ ⟨i1 ++ [(s, m)], r2, i2, acc ++ [(s, m)], _, H3, by rw [e]; simp, sg, by rw [List.map_append]; exact g3, by rw [expand_app, ex, expand_app], by simp; exact axcb450d la, fun p hp => ?_, Lx.fresh (X.trans XE) X3 (by simp; exact axcb450d l1)⟩
      rw [el]
      rcases List.mem_append.1 hp with h | h
      · have := lb p h; exact ⟨(ax8d2fc0 this.1), (ax1569e1 this.2)⟩
      · cases List.mem_singleton.1 h; exact ⟨Nat.le_add_left _ _, hm⟩
    have add : atList H2 L fun _ => atInst H2 q 141 fun fs => onSome (getF 7 fs) fun u => atInst H2 q 141 fun fs => onSome (getF 8 fs) fun w => atList H2 L fun x => x.length ≤ lenMax ∧ putAt H2 L (.list (x ++ [.tup [u, w]])) fun H3 => G [some (.ref t), some (.ref L), some (.ref q)] H3 :=
      at_list g2 (at_inst hq2 (at_inst hq2 (at_list g2 ⟨bl, put_at g2 app⟩)))
    rcases List.eq_nil_or_concat acc with rfl | ⟨init, ⟨y, n⟩, rfl⟩
    · exact add
    · rw [List.concat_eq_append] at *
      have la' : init.length + 1 ≤ i1.length := by simpa using la
      have lp : 0 < ((init ++ [(y, n)]).map rnV).length := by simp
      refine not_t (by simp) (at_list g2 (on_some (pyIdx_last lp) (on_some (last_get ..) (at_inst hq2 ?_))))
      by_cases hy : y = s
      · subst hy
        refine eq_t rfl (at_inst hq2 (at_list g2 (on_some (pyIdx_last lp) (on_some (last_get ..) (at_inst hq2 (at_list g2 (on_some (pyIdx_last lp) (if_t (by simp) (put_at g2 fun H3 g3 X3 => ?_)))))))))
        have eo : expand (init ++ [(y, n + m)]) = expand (i1 ++ [(y, m)]) := by
          rw [en, ← ex, expand_app, expand_app, expand_one, expand_one, List.append_assoc, List.replicate_append_replicate]
        refine go _ _ ⟨i1 ++ [(y, m)], r2, i2, init ++ [(y, n + m)], _, H3, by rw [e]; simp, sg, ?_, eo, by simp at la ⊢; exact ax543bd1 la', fun p hp => ?_, Lx.fresh (X.trans XE) X3 (by simp; exact axcb450d l1)⟩
        · rw [g3]; simp [rnV]
        · rw [el]
          rcases List.mem_append.1 hp with h | h
          · have := lb p (List.mem_append_left _ h); exact ⟨(ax8d2fc0 this.1), (ax1569e1 this.2)⟩
          · cases List.mem_singleton.1 h
            have := lb (y, n) (by simp); simp at this ⊢; exact ⟨(axcb450d this.1), (axe799c9 this.2)⟩
      · exact eq_f hy add
  · intro ρ H' h
    generalize hr : ([] : List V) = vr at h
    obtain ⟨i1, r2, i2, acc, x, _, e, sg, g, ex, la, lb, X⟩ := h
    cases r2 with
    | cons q r2 => cases hr
    | nil =>
    cases i2 with
    | cons s s2 => exact sg.elim
    | nil =>
    rw [List.append_nil] at e
    subst e
    exact kk L acc _ g ex (by exact ax931256 hl la) (fun p hp => by have := lb p hp; exact ⟨(ax931256 hx this.1), (ax1569e1 this.2)⟩) X
noncomputable def szOf (ss : List (List Nat)) : Nat := ((ss.filter fun s => ![[80], [83], [86]].any (· == s)).map List.length).sum
theorem szOf_app (a b : List (List Nat)) : szOf (a ++ b) = szOf a + szOf b := by simp [szOf]
theorem szOf_rep (n : Nat) (s : List Nat) : szOf (List.replicate n s) = if (![[80], [83], [86]].any (· == s)) = true then n * s.length else 0 := by
  induction n with
  | zero => simp [szOf]
  | succ n ih =>
    have := szOf_app [s] (List.replicate n s)
    rw [List.replicate_succ, ← List.singleton_append, this, ih]
    by_cases h : (![[80], [83], [86]].any (· == s)) = true
    · rw [if_pos h, if_pos h, Nat.succ_mul]
      simp only [szOf, List.filter_cons, h, if_true]; simp; exact ax09d0df
    · rw [if_neg h, if_neg h]
      simp only [szOf, List.filter_cons, h]; simp
noncomputable def rnC : V → Bool
  | .tup [.str s, _] => ![[80], [83], [86]].any (· == s)
  | _ => false
noncomputable def rnU : V → V
  | .tup [.str s, .int n] => .int (n * s.length)
  | v => v
theorem sz_sum : ∀ acc : List Rn, ∃ ns : List Int, intsOf (((acc.map rnV).filter rnC).map rnU) = some ns ∧ ns.sum = (szOf (expand acc) : Nat)
  | [] => ⟨[], rfl, rfl⟩
  | (s, n) :: r => by
    obtain ⟨ns, e, q⟩ := sz_sum r
    have ex : szOf (expand ((s, n) :: r)) = szOf (List.replicate n s) + szOf (expand r) := szOf_app _ _
    rw [List.map_cons, List.filter_cons, ex, szOf_rep]
    by_cases h : (![[80], [83], [86]].any (· == s)) = true
    · rw [if_pos (show rnC (rnV (s, n)) = true from h), if_pos h, List.map_cons]
      exact ⟨(n : Int) * (s.length : Nat) :: ns, by show consI _ (intsOf _) = _; rw [e]; rfl, by rw [List.sum_cons, q]; simp⟩
    · rw [if_neg (show ¬ rnC (rnV (s, n)) = true from h), if_neg h]
      exact ⟨ns, e, by rw [q]; simp⟩
theorem size_ok {H : Hp} {t : Nat} {acc : List Rn} {K : KV} (ht : H[t]? = some (.list (acc.map rnV))) (hl : acc.length ≤ 30) (hb : ∀ p ∈ acc, p.2 ≤ 30) (hs : ∀ p ∈ acc, p.1.length ≤ 30)
    (kk : ∀ H', Lx [] H H' → K (.int (szOf (expand acc) : Nat)) H') : callAt F_size_of_symbols [.ref t] H K := by
  refine ⟨⟨at_list ht (comp_go (acc.map rnV) rnC rnU (by rw [List.length_map]; exact len30 hl) (fun H' X => has_list (X.at0 ht)) (fun v hv H' G₁ G₀ X h1 h0 => ?_) fun H' X => new_at' fun a H2 g X2 _ => at_list g ?_)⟩⟩
  · obtain ⟨⟨s, n⟩, hp, rfl⟩ := List.mem_map.1 hv
    have hn : n ≤ 30 := hb _ hp
    refine ⟨⟨rfl, rfl⟩, new_at' fun E H2 gE XE b1 => at_list gE (if_b (fun h => ⟨len30 (hs _ hp), ?_, h1 h _ (X.trans XE)⟩) fun h => h0 h _ (X.trans XE))⟩
    show ((n : Nat) : Int).natAbs < 1152921504606846976
    omega
  · obtain ⟨ns, e, q⟩ := sz_sum acc
    exact ⟨ns, e, q ▸ kk _ (X.trans X2)⟩
structure Step (st : Od) (x : Rn) (st' : Od) : Prop where
  run : ∀ {H : Hp} {o s : Nat} {a : Int}, OdAt H o st → H[s]? = some (.inst 141 (sgnL x.1 (x.2 : Nat) a)) → s ≠ o → Took F_Order_take [.ref o, .ref s] H o st'
inductive Runs : Od → List Rn → Od → Prop
  | nil (st : Od) : Runs st [] st
  | cons {st st1 st2 : Od} {x : Rn} {r : List Rn} : Step st x st1 → Runs st1 r st2 → Runs st (x :: r) st2
noncomputable def od0 : Od := ⟨0, [], 0, 0, [], 0, 0, 0, false, [], [], [], false, false⟩
theorem ordnew_ok {H : Hp} {K : KV} (kk : ∀ o H', OdAt H' o od0 → Lx [] H H' → H.length ≤ o → K (.ref o) H') : callAt (fNew 298 F_Order_init) [] H K :=
  ⟨new_at' fun r H1 g1 X1 l1 => ⟨at_inst g1 (put_at g1 fun H2 g2 X2 => at_inst g2 (put_at g2 fun H3 g3 X3 => at_inst g3 (put_at g3 fun H4 g4 X4 => at_inst g4 (put_at g4 fun H5 g5 X5 => at_inst g5 (put_at g5 fun H6 g6 X6 => at_inst g6 (put_at g6 fun H7 g7 X7 => at_inst g7 (put_at g7 fun H8 g8 X8 => at_inst g8 (put_at g8 fun H9 g9 X9 => at_inst g9 (put_at g9 fun H10 g10 X10 => at_inst g10 (put_at g10 fun H11 g11 X11 => at_inst g11 (put_at g11 fun H12 g12 X12 => at_inst g12 (put_at g12 fun H13 g13 X13 => at_inst g13 (put_at g13 fun H14 g14 X14 => at_inst g14 (put_at g14 fun H15 g15 X15 => at_inst g15 (put_at g15 fun H16 g16 X16 => at_inst g16 (put_at g16 fun H17 g17 X17 => kk r H17 g17 (X1.fresh (((((((((((((((X2.trans X3).trans X4).trans X5).trans X6).trans X7).trans X8).trans X9).trans X10).trans X11).trans X12).trans X13).trans X14).trans X15).trans X16).trans X17) fun i hi => .inr (List.mem_singleton.1 hi ▸ l1)) l1))))))))))))))))⟩⟩
theorem whole_ok {H : Hp} {o : Nat} {st : Od} {K : KV} (ho : OdAt H o st) (h1 : st.nines + st.zeros + st.floats ≠ 0) (h2 : st.last ≠ [44]) (h3 : st.last ≠ [46]) (kk : K (.bool (decide (st.nines + st.zeros + st.floats + 0 + st.trail ≤ 18))) H) : callAt F_Order_is_whole [.ref o] H K :=
  ⟨at_inst ho (dig_ok ho (ie_f h1 (at_inst ho (if_f (show ([[44], [46]] : List (List Nat)).any (· == st.last) = false by simp [h2.symm, h3.symm]) (at_inst ho (dig_ok ho (at_inst ho (at_inst ho kk))))))))⟩
theorem scale_ok {H : Hp} {o : Nat} {st : Od} {K : KV} (ho : OdAt H o st) (kk : K (.int (st.behind - st.trail)) H) : callAt F_Order_scale [.ref o] H K := ⟨at_inst ho (at_inst ho (at_inst ho kk))⟩
theorem picnew_ok {H : Hp} {tx ca : List Nat} {sy : Nat} {d sc sz : Int} {b : Bool} {K : KV} (kk : ∀ r H', H'[r]? = some (.inst 113 (picL tx sy ca d sc b sz)) → Lx [] H H' → K (.ref r) H') : callAt (fNew 113 F_Picture_init) [.str tx, .ref sy, .str ca, .int d, .int sc, .bool b, .int sz] H K :=
  ⟨new_at' fun r H1 g1 X1 l1 => ⟨at_inst g1 (put_at g1 fun H2 g2 X2 => at_inst g2 (put_at g2 fun H3 g3 X3 => at_inst g3 (put_at g3 fun H4 g4 X4 => at_inst g4 (put_at g4 fun H5 g5 X5 => at_inst g5 (put_at g5 fun H6 g6 X6 => at_inst g6 (put_at g6 fun H7 g7 X7 => at_inst g7 (put_at g7 fun H8 g8 X8 => kk r H8 g8 (X1.fresh ((((((X2.trans X3).trans X4).trans X5).trans X6).trans X7).trans X8) fun i hi => .inr (List.mem_singleton.1 hi ▸ l1)))))))))⟩⟩
noncomputable def fstS : V → V
  | .tup [.str s, _] => .str s
  | v => v
noncomputable def plC : V → Bool
  | .tup [.str s, _] => ![[57], [80], [83], [86]].any (· == s)
  | _ => false
noncomputable def PicAt (H : Hp) (p : Nat) (ss : List (List Nat)) (d : Nat) (sc : Int) : Prop :=
  ∃ tx sy ca b acc, H[p]? = some (.inst 113 (picL tx sy ca d sc b (szOf ss : Nat))) ∧ H[sy]? = some (.list (acc.map rnV)) ∧ expand acc = ss ∧ acc.length ≤ 30 ∧ ∀ q ∈ acc, q.2 ≤ 30
inductive NumI (H : Hp) (tx : List Nat) (t o sy : Nat) (st : Od) (acc : List Rn) : List V → Rho → Hp → Prop
  | mk (r2 : List Nat) (s2 : List Rn) (st1 : Od) (x : Option V) (H' : Hp) (sg : SgAt H r2 s2) (ho : OdAt H' o st1) (hr : Runs st1 s2 st) (X : Lx [] H H') (gy : H'[sy]? = some (.list (acc.map rnV))) :
    NumI H tx t o sy st acc (r2.map V.ref) [some (.str tx), some (.ref t), some (.ref o), some (.ref sy), x, none, none, none] H'
noncomputable def B_num2 : SX := sSeq (sSet 7 (eOr (eOp1 (vAttr 298 11) (eLoc 2)) (eBool (tCmp vNe (eOp1 (vAttr 298 7) (eLoc 2)) (eCon (.str [])))))) (sSeq (sRet (eCal (fNew 113 F_Picture_init) (lCons (eLoc 0) (lCons (eLoc 3) (lCons (eLoc 6) (lCons (eMeth0 298 3 F_Order_digits (eLoc 2)) (lCons (eMeth0 298 4 F_Order_scale (eLoc 2)) (lCons (eLoc 7) (lCons (eCal F_size_of_symbols (lCons (eLoc 3) (lNil))) (lNil)))))))))) (sNil))
theorem number_ok {H : Hp} {t d : Nat} {rs : List Nat} {its : List Rn} {ss : List (List Nat)} {tx : List Nat} {st : Od} {K : KV} (ht : H[t]? = some (.list (rs.map V.ref))) (hs : SgAt H rs its) (hl : its.length ≤ 30) (hp : ∀ p ∈ its, 0 < p.2) (hxs : expand its = ss) (hx : ss.length ≤ 30) (hz : szOf ss ≤ 9999) (hsl : ∀ s ∈ ss, s.length ≤ 30)
    (hr : Runs od0 its st) (hd : st.nines + st.zeros + st.floats = (d : Int)) (h1 : d ≠ 0) (h2 : st.last ≠ [44]) (h3 : st.last ≠ [46]) (h4 : (d : Int) + 0 + st.trail ≤ 18)
    (kk : ∀ p H', PicAt H' p ss d (st.behind - st.trail) → Lx [] H H' → K (.ref p) H') : callAt F_number_picture [.str tx, .ref t] H K := by
  refine ⟨ordnew_ok fun o H1 ho X1 lo => symbols_ok (X1.at0 ht) (SgAt.lx X1 (by simp) hs) hl hp (by rw [hxs]; exact hx) fun sy acc H2 gy ex la lb X2 => ?_⟩
  rw [hxs] at ex
  have ho2 : OdAt H2 o od0 := X2.at0 ho
  have X02 := X1.trans X2
  have hne : sy ≠ o := fun q => by subst q; unfold OdAt at ho2; rw [gy] at ho2; cases ho2
  refine ⟨at_list (X02.at0 ht) (for_go (rs.map V.ref) (NumI H tx t o sy st acc) ⟨rs, its, od0, none, H2, hs, ho2, hr, X02, gy⟩ (fun r ρ H' h => by cases h with | mk _ _ _ _ _ _ _ _ X _ => exact has_list (X.at0 ht)) ?_ ?_)⟩
  · intro v r ρ H' G go h
    generalize hv : v :: r = vr at h
    obtain ⟨r2, s2, st1, x, _, sg, ho, hR, X, gy'⟩ := h
    cases r2 with
    | nil => cases hv
    | cons q r2 =>
    cases hv
    cases hR with
    | nil => exact sg.elim
    | cons hS hR =>
    obtain ⟨⟨a, hq⟩, sg⟩ := sg
    have lq := get_lt hq
    exact at_inst ho (hS.run ho (X.at0 hq) (by exact (fun q => (ax6fa6a3 lo lq q))) _ fun H3 ho3 X3 => go _ _ ⟨r2, _, _, _, H3, sg, ho3, hR, Lx.fresh X X3 (by simp; exact axcb450d lo), X3.at1 hne gy'⟩)
  · intro ρ H' h
    generalize hv : ([] : List V) = vr at h
    obtain ⟨r2, s2, st1, x, _, sg, ho, hR, X, gy'⟩ := h
    cases r2 with
    | cons q r2 => cases hv
    | nil =>
    cases hR with
    | cons _ _ => exact sg.elim
    | nil =>
    have szo : ∀ {K1 : Hp} {K' : KV}, K1[sy]? = some (.list (acc.map rnV)) → (∀ K2, Lx [] K1 K2 → K' (.int (szOf ss : Nat)) K2) → callAt F_size_of_symbols [.ref sy] K1 K' := fun {K1 K'} gK k => by
      rw [← ex] at k
      refine size_ok gK la (fun p hp => (lb p hp).1) (fun p hp => ?_) k
      exact hsl _ (by rw [← ex]; exact List.mem_flatMap.2 ⟨p, hp, List.mem_replicate.2 ⟨by have := lb p hp; exact (fun q => (ax5112d8 this.2 q)), rfl⟩⟩)
    have fin : ∀ (e : Bool) (ca : List Nat) (K1 : Hp), Lx [] H' K1 → B_num2 [some (.str tx), some (.ref t), some (.ref o), some (.ref sy), x, some (.bool e), some (.str ca), none] K1 (fun _ H => K .none H) K := fun e ca K1 XK => by
      have ho5 : OdAt K1 o st := XK.at0 ho
      have gy5 := XK.at0 gy'
      refine at_inst ho5 (at_inst ho5 (at_inst ho5 (dig_ok ho5 (at_inst ho5 (scale_ok ho5 (szo gy5 fun H6 X6 => ?_))))))
      rw [hd]
      exact picnew_ok fun p H7 gp X7 => kk p H7 ⟨tx, sy, ca, _, acc, gp, X7.at0 (X6.at0 gy5), ex, la, fun q h => (lb q h).1⟩ (((X.trans XK).trans X6).trans X7)
    refine at_inst ho (whole_ok ho (by omega) h2 h3 (not_f (decide_eq_true (by exact ax239329 hd h4)) (szo gy' fun H4 X4 => lt_f (Int.ofNat_le.2 hz) ⟨at_list (X4.at0 gy') (comp_go (acc.map rnV) plC fstS (by rw [List.length_map]; exact len30 la)
      (fun H' X => has_list (X.at0 (X4.at0 gy'))) (fun v hv H' G₁ G₀ X h1 h0 => ?_) fun H5 X5 => new_at' fun a H6 g6 X6 _ => new_at' fun E H7 g7 X7 _ => at_list (X7.at0 g6) (at_list g7 ⟨rfl, ?_⟩))⟩)))
    · obtain ⟨⟨s, n⟩, hp, rfl⟩ := List.mem_map.1 hv
      exact ⟨⟨rfl, rfl⟩, new_at' fun E H2 gE XE b1 => at_list gE (if_b (fun h => h1 h _ (X.trans XE)) fun h => h0 h _ (X.trans XE))⟩
    · have XX := ((X4.trans X5).trans X6).trans X7
      exact if_b (fun _ => fin _ _ _ XX) fun _ => fin _ _ _ XX
theorem strs_map : ∀ ss : List (List Nat), strsOf (ss.map V.str) = some ss
  | [] => rfl
  | s :: r => by rw [List.map_cons, strsOf, strs_map r]; rfl
theorem ints_map : ∀ ss : List Int, intsOf (ss.map V.int) = some ss
  | [] => rfl
  | s :: r => by rw [List.map_cons, intsOf, ints_map r]; rfl
noncomputable def noAX : V → Bool := fun _ => false
theorem flat_sing (t : List Nat) : ((t.map fun c => [c]).flatten) = t := by induction t with | nil => rfl | cons a r ih => rw [List.map_cons, List.flatten_cons, ih]; rfl
theorem sing_sum (t : List Nat) : ((t.map fun c => [c]).map List.length).sum = t.length := by induction t with | nil => rfl | cons a r ih => rw [List.map_cons, List.map_cons, List.sum_cons, ih]; show 1 + r.length = r.length + 1; exact ax58f869
theorem SgAt.mem {H : Hp} : ∀ {rs : List Nat} {ss : List Rn} {r : Nat}, SgAt H rs ss → r ∈ rs → ∃ s ∈ ss, ∃ a, H[r]? = some (.inst 141 (sgnL s.1 (s.2 : Nat) a))
  | _ :: _, s :: _, _, ⟨e, _⟩, .head _ => ⟨s, .head _, e⟩
  | _ :: _, _ :: _, _, ⟨_, t⟩, .tail _ h => let ⟨s, a, b⟩ := SgAt.mem t h; ⟨s, .tail _ a, b⟩
theorem lo_lt {c : Nat} (h : c < 97) : decide ([c] < [97]) = true := by
  apply decide_eq_true
  exact List.Lex.rel h
theorem read_ok {H : Hp} {d : Nat} {K : KV} {its : List Rn} {ss : List (List Nat)} {st : Od} (hs : ∀ p ∈ its, okIt p) (hl : (txt its).length ≤ 30) (hxs : expand its = ss) (hx : ss.length ≤ 30) (hsa : ∀ s ∈ ss, s ∈ allSigns) (hr : Runs od0 its st) (hd : st.nines + st.zeros + st.floats = (d : Int)) (h1 : d ≠ 0) (h2 : st.last ≠ [44]) (h3 : st.last ≠ [46]) (h4 : (d : Int) + 0 + st.trail ≤ 18)
    (kk : ∀ p H', PicAt H' p ss d (st.behind - st.trail) → Lx [] H H' → K (.ref p) H') : callAt F_read_picture [.str (txt its)] H K := by
  have lo : ∀ c ∈ txt its, c < 97 := fun c hc => by
    obtain ⟨p, a, b⟩ := List.mem_flatMap.1 hc
    have hp := hs p a
    rcases List.mem_append.1 b with b | b
    · exact (by decide : ∀ s ∈ allSigns, ∀ c ∈ s, c < 97) p.1 hp.1 c b
    · unfold ctx at b
      split at b
      · cases b
      · rename_i hn
        have : p.2 ≤ 9 := by rcases hp.2 with h | h; exact absurd h hn; exact h.1.2
        simp at b
        omega
  have pos : ∀ p ∈ its, 0 < p.2 := fun p h => by rcases (hs p h).2 with h | h <;> (first | exact axa5829e h | omega)
  have c2 : ∀ r : List (List Nat), (∀ s ∈ r, s ∈ allSigns) → szOf r ≤ 2 * r.length := fun r hr => by
    induction r with
    | nil => exact Nat.le_refl _
    | cons s r ih =>
      have a1 := (by decide : ∀ s ∈ allSigns, szOf [s] ≤ 2) s (hr s (.head _))
      have a2 := ih fun q h => hr q (.tail _ h)
      have a3 : szOf (s :: r) = szOf [s] + szOf r := szOf_app [s] r
      rw [List.length_cons, a3]; exact ax0d676f a1 a2
  have c3 := c2 ss hsa
  have c1 : its.length ≤ 30 := Nat.le_trans (txt_len hs) hl
  have fe : ∀ t : List Nat, ((t.map fun c => V.str [c]).filter fun _ => true).map id = (t.map fun c => [c]).map V.str := fun t => by rw [List.filter_eq_self.2 (fun _ _ => rfl)]; simp
  refine ⟨⟨len30 hl, lt_f (Int.ofNat_le.2 hl) ⟨⟨rfl, comp_go ((txt its).map fun c => .str [c]) (fun _ => true) id (by rw [List.length_map]; exact len30 hl) (fun H' X => has_items) (fun v hv H' G₁ G₀ X h1 h0 => ?_)
    fun H1 X1 => new_at' fun a H2 g X2 _ => at_list g ⟨rfl, _, (congrArg strsOf (fe _)).trans (strs_map _), by rw [sing_sum, List.length_map]; exact ax1c18de hl, ?_⟩⟩⟩⟩⟩
  · obtain ⟨c, hc, rfl⟩ := List.mem_map.1 hv
    exact if_f (by rw [lo_lt (lo c hc)]; rfl) (h1 rfl _ X)
  rw [flat_sing]
  refine signs_ok hs hl fun t rs H3 gt sg X3 => ⟨at_list gt (comp_go (rs.map V.ref) noAX id (by rw [List.length_map, sg.len]; exact len30 c1) (fun H' X => has_list (X.at0 gt)) (fun v hv H' G₁ G₀ X h1 h0 => ?_)
    fun H4 X4 => new_at' fun e H5 g5 X5 _ => new_at' fun E H6 gE XE _ => at_list (XE.at0 g5) (at_list gE ⟨rfl, not_f (by simp [noAX]) ?_⟩))⟩
  · obtain ⟨r, hr, rfl⟩ := List.mem_map.1 hv
    obtain ⟨s, hm, a, hq⟩ := sg.mem hr
    exact at_inst (X.at0 hq) (if_f ((by decide : ∀ s ∈ allSigns, [[65], [88]].any (· == s) = false) s.1 (hs s hm).1) (h0 rfl _ X))
  · have X36 := (X4.trans X5).trans XE
    exact number_ok (X36.at0 gt) (SgAt.lx X36 (by simp) sg) c1 pos hxs hx (by exact ax504a38 hx c3) (fun s h => (by decide : ∀ s ∈ allSigns, s.length ≤ 30) s (hsa s h)) hr hd h1 h2 h3 h4 fun p H7 hp X7 => kk p H7 hp ((((X1.trans X2).trans X3).trans X36).trans X7)
theorem repL_list {n : Nat} {v : V} : repL (n : Int) [v] = List.replicate n v := by
  unfold repL
  rw [show (n : Int).toNat = n from rfl]
  induction n with
  | zero => rfl
  | succ k ih => rw [List.replicate_succ, List.flatten_cons, ih]; rfl
inductive PlcI (H : Hp) (acc : List Rn) (p L : Nat) : List V → Rho → Hp → Prop
  | mk (a1 a2 : List Rn) (x y : Option V) (H' : Hp) (e : acc = a1 ++ a2) (g : H'[L]? = some (.list ((expand a1).map V.str))) (X : Lx [] H H') : PlcI H acc p L (a2.map rnV) [some (.ref p), some (.ref L), x, y] H'
theorem places_ok {H : Hp} {p d : Nat} {sc : Int} {ss : List (List Nat)} {K : KV} (hp : PicAt H p ss d sc) (hl : ss.length ≤ 30) (kk : ∀ L H', H'[L]? = some (.list (ss.map V.str)) → Lx [] H H' → H.length ≤ L → K (.ref L) H') : callAt F_places [.ref p] H K := by
  obtain ⟨tx, sy, ca, b, acc, gp, gy, ex, la, lb⟩ := hp
  refine ⟨new_at' fun L H1 gL X1 b1 => ⟨at_inst (X1.at0 gp) (at_list (X1.at0 gy) (for_go (acc.map rnV) (PlcI H acc p L) ⟨[], acc, none, none, H1, rfl, gL, X1⟩ (fun r ρ H' h => by cases h with | mk _ _ _ _ _ _ _ X => exact has_list (X.at0 gy)) ?_ ?_))⟩⟩
  · intro v r ρ H' G go h
    generalize hv : v :: r = vr at h
    obtain ⟨a1, a2, x, y, _, e, g, X⟩ := h
    cases a2 with
    | nil => cases hv
    | cons q a2 =>
    cases hv
    obtain ⟨s, n⟩ := q
    have hn : n ≤ 30 := lb (s, n) (by rw [e]; simp)
    have hb : (expand a1).length + n ≤ 30 := by
      have := congrArg List.length ex
      rw [e, expand_app, List.length_append] at this
      have h2 : (expand ((s, n) :: a2)).length = n + (expand a2).length := by
        rw [← List.singleton_append, expand_app, List.length_append]; simp [expand]
      exact axb89667 hl this h2
    refine at_list g (new_at' fun E H2 gE XE c1 => at_list gE ⟨⟨by exact ax6fa31b, by omega⟩, (by show 1 * n ≤ 256; exact ax2201da hn), new_at' fun M H3 gM XM d1 => at_list (XM.at0 (XE.at0 g)) (at_list gM ⟨?_, put_at (XM.at0 (XE.at0 g)) fun H4 g4 X4 => go _ _ ⟨a1 ++ [(s, n)], a2, _, _, H4, ?_, ?_, Lx.fresh ((X.trans XE).trans XM) X4 (by simp; exact axcb450d b1)⟩⟩)⟩)
    · rw [repL_list]; unfold lenMax; simp; exact axb78553 hb
    · rw [e]; simp
    · rw [g4, repL_list, expand_app, List.map_append]
      simp [expand]
  · intro ρ H' h
    generalize hv : ([] : List V) = vr at h
    obtain ⟨a1, a2, x, y, _, e, g, X⟩ := h
    cases a2 with
    | cons q r2 => cases hv
    | nil =>
    rw [List.append_nil] at e
    subst e
    rw [ex] at g
    exact kk L _ g X b1
inductive Tk where
  | lead | loose | nine | ins (c : Nat) | dot | vee | pee | fix (s : List Nat)
noncomputable def sg (fl : List Nat) : Tk → List Nat
  | .lead => fl | .loose => fl | .nine => [57] | .ins c => [c] | .dot => [46] | .vee => [86] | .pee => [80] | .fix s => s
noncomputable def isF (fl : List Nat) : Prop := fl = [36] ∨ fl = [43] ∨ fl = [45]
noncomputable def isZ (fl : List Nat) : Prop := fl = [90] ∨ fl = [42]
noncomputable def okc (c : Nat) : Prop := c = 44 ∨ c = 47 ∨ c = 66 ∨ c = 48
inductive Ph where
  | p0 | pL | p1 | p2 | p3 | p4 | p5 | p7 | p8
inductive Nxt (fl : List Nat) : Ph → Tk → Ph → Prop
  | lead : isF fl → Nxt fl .p0 .lead .pL
  | loose0 : isZ fl → Nxt fl .p0 .loose .p1
  | nine0 : fl = [] → Nxt fl .p0 .nine .p2
  | insL (c : Nat) : okc c → Nxt fl .pL (.ins c) .pL
  | looseL : isF fl → Nxt fl .pL .loose .p1
  | loose1 : isZ fl ∨ isF fl → Nxt fl .p1 .loose .p1
  | ins1 (c : Nat) : okc c → Nxt fl .p1 (.ins c) .p1
  | nine1 : Nxt fl .p1 .nine .p2
  | nine2 : Nxt fl .p2 .nine .p2
  | ins2 (c : Nat) : okc c → Nxt fl .p2 (.ins c) .p2
  | dot1 : Nxt fl .p1 .dot .p7
  | vee1 : Nxt fl .p1 .vee .p7
  | dot2 : Nxt fl .p2 .dot .p8
  | vee2 : Nxt fl .p2 .vee .p8
  | loose7 : isZ fl ∨ isF fl → Nxt fl .p7 .loose .p3
  | loose3 : isZ fl ∨ isF fl → Nxt fl .p3 .loose .p3
  | nine7 : Nxt fl .p7 .nine .p4
  | nine8 : Nxt fl .p8 .nine .p4
  | nine4 : Nxt fl .p4 .nine .p4
  | pee1 : Nxt fl .p1 .pee .p5
  | pee2 : Nxt fl .p2 .pee .p5
  | pee5 : Nxt fl .p5 .pee .p5
inductive Run (fl : List Nat) : Ph → List Tk → Ph → Prop
  | nil (p : Ph) : Run fl p [] p
  | cons {p q r : Ph} {t : Tk} {ts : List Tk} : Nxt fl p t q → Run fl q ts r → Run fl p (t :: ts) r
theorem Run.app {fl : List Nat} {p q r : Ph} {a b : List Tk} (h : Run fl p a q) (h' : Run fl q b r) : Run fl p (a ++ b) r := by
  induction h with
  | nil => exact h'
  | cons n _ ih => exact .cons n (ih h')
noncomputable def dg : Tk → Nat
  | .loose => 1 | .nine => 1 | _ => 0
noncomputable def pp : Tk → Nat
  | .pee => 1 | _ => 0
noncomputable def pt : Tk → Bool
  | .dot => true | .vee => true | _ => false
noncomputable def nD : List Tk → Nat
  | [] => 0 | t :: r => dg t + nD r
noncomputable def nP : List Tk → Nat
  | [] => 0 | t :: r => pp t + nP r
noncomputable def nB : Bool → List Tk → Nat
  | _, [] => 0 | b, t :: r => (if b = true then dg t else 0) + nB (b || pt t) r
noncomputable def seenP : Ph → Bool
  | .p3 => true | .p4 => true | .p7 => true | .p8 => true | _ => false
noncomputable def zf (fl sgn : List Nat) (o : Od) : Prop := (isZ fl → o.floats = 0 ∧ (o.zero = [] ∨ o.zero = fl)) ∧ (isF fl → o.zeros = 0 ∧ (fl = [36] → o.money ≠ []) ∧ (fl ≠ [36] → o.money = [] ∧ sgn = fl))
noncomputable def phF (fl sgn : List Nat) (nd np : Nat) (o : Od) : Ph → Prop
  | .p0 => False
  | .pL => o.nines = 0 ∧ np = 0 ∧ o.point = [] ∧ o.late = false ∧ zf fl sgn o
  | .p1 => 0 < nd ∧ o.nines = 0 ∧ np = 0 ∧ o.point = [] ∧ o.late = false ∧ zf fl sgn o
  | .p2 => 0 < nd ∧ np = 0 ∧ o.point = [] ∧ o.late = false
  | .p3 => 0 < nd ∧ o.nines = 0 ∧ np = 0 ∧ o.point ≠ [] ∧ zf fl sgn o
  | .p4 => 0 < nd ∧ np = 0 ∧ o.point ≠ [] ∧ o.late = false
  | .p5 => 0 < nd ∧ o.point = []
  | .p7 => 0 < nd ∧ o.nines = 0 ∧ np = 0 ∧ o.point ≠ [] ∧ o.late = false ∧ zf fl sgn o
  | .p8 => 0 < nd ∧ np = 0 ∧ o.point ≠ [] ∧ o.late = false
structure RO (fl : List Nat) (p : Ph) (sgn : List Nat) (nd nb np : Nat) (o : Od) : Prop where
  seen : 0 < o.seen
  over : o.over = false
  sign : o.sign = sgn
  dgs : o.nines + o.zeros + o.floats = nd
  bh : o.behind = nb
  tr : o.trail = np
  ph : phF fl sgn nd np o p
structure PStep (st : Od) (x : Rn) (st' : Od) : Prop where
  run : ∀ {H : Hp} {o s : Nat} {a : Int}, OdAt H o st → H[s]? = some (.inst 141 (sgnL x.1 (x.2 : Nat) a)) → s ≠ o → Took (pick x.1) [.ref o, .ref s] H o st'
theorem PStep.step {st st' : Od} {x : Rn} (h : PStep st x st') (hov : st.over = false) (hx : x.1 ∈ allSigns) : Step st x { st' with seen := st'.seen + 1, last := x.1 } := .mk <| fun ho hs hn => take_ok ho hs hn hov hx (h.run ho hs hn)
theorem bh1 {st : Od} {c : Int} {b : Bool} (h : st.point ≠ []) : bhnd st c b = { st with behind := st.behind + c, late := st.late || b } := by unfold bhnd; rw [if_neg h]
theorem ps_nine {st : Od} {n : Nat} (h1 : st.trail = 0) (h2 : st.late = false) : PStep st ([57], n) (bhnd { st with nines := st.nines + (n : Nat) } (n : Nat) false) := .mk <| fun ho hs hn => nine_ok ho hs hn h1 h2
theorem ps_zero {st : Od} {x : List Nat} (hz : isZ x) (h1 : st.trail = 0) (h2 : st.nines = 0) (h3 : st.floats = 0) (h4 : st.zero = [] ∨ st.zero = x) : PStep st (x, 1) (bhnd { st with zero := x, zeros := st.zeros + 1 } 1 true) := .mk <| fun ho hs hn => by
  have : pick x = F_Order_take_zero := by rcases hz with rfl | rfl <;> rfl
  show Took (pick x) _ _ _ _; rw [this]; exact zero_ok ho hs hn h1 h2 h3 h4
theorem ps_float {st : Od} {x sgn : List Nat} (hf : isF x) (h0 : 0 < st.seen) (hs : st.sign = sgn) (m1 : st.nines = 0) (m2 : st.zeros = 0) (m3 : st.trail = 0) (h4 : x = [36] → st.money ≠ []) (h5 : x ≠ [36] → st.money = [] ∧ sgn = x) : PStep st (x, 1) (bhnd { st with floats := st.floats + 1 } 1 true) := .mk <| fun ho hs' hn => by
  by_cases hx : x = [36]
  · subst hx; exact moneyF_ok ho hs' hn (h4 rfl) m1 m2 m3
  · have : pick x = F_Order_take_sign := by rcases hf with rfl | rfl | rfl; exact absurd rfl hx; rfl; rfl
    show Took (pick x) _ _ _ _; rw [this]; exact signF_ok ho hs' hn (by exact (fun q => (ax3d7016 h0 q))) (by rw [hs]; exact (h5 hx).2) (h5 hx).1 m1 m2 m3
theorem ps_point {st : Od} {x : List Nat} (hx : x = [46] ∨ x = [86]) (h1 : st.point = []) (h2 : st.trail = 0) : PStep st (x, 1) { st with point := x } := .mk <| fun ho hs hn => by
  have : pick x = F_Order_take_point := by rcases hx with rfl | rfl <;> rfl
  show Took (pick x) _ _ _ _; rw [this]; exact point_ok ho hs hn h1 h2
theorem ps_pee {st : Od} (h1 : st.point = []) (h2 : 0 < st.nines + st.zeros + st.floats) : PStep st ([80], 1) { st with trail := st.trail + 1 } := .mk <| fun ho hs hn => scal_ok ho hs hn h1 h2
theorem ps_ins {st : Od} {c : Nat} (hc : okc c) (h2 : st.trail = 0) : PStep st ([c], 1) { st with ins := true } := .mk <| fun ho hs hn => by
  have : pick [c] = F_Order_take_inserted := by rcases hc with rfl | rfl | rfl | rfl <;> rfl
  show Took (pick [c]) _ _ _ _; rw [this]; exact insd_ok ho h2
theorem sg_all {fl : List Nat} {p q : Ph} {t : Tk} (h : Nxt fl p t q) : sg fl t ∈ allSigns := by
  have hz : isZ fl → fl ∈ allSigns := fun h => by rcases h with rfl | rfl <;> decide
  have hf : isF fl → fl ∈ allSigns := fun h => by rcases h with rfl | rfl | rfl <;> decide
  have hc : ∀ c, okc c → [c] ∈ allSigns := fun c h => by rcases h with rfl | rfl | rfl | rfl <;> decide
  cases h with
  | lead h => exact hf h
  | loose0 h => exact hz h
  | looseL h => exact hf h
  | loose1 h => exact h.elim hz hf
  | loose7 h => exact h.elim hz hf
  | loose3 h => exact h.elim hz hf
  | insL c h => exact hc c h
  | ins1 c h => exact hc c h
  | ins2 c h => exact hc c h
  | _ => simp only [sg]; decide
theorem zf_of {fl sgn : List Nat} {o o' : Od} (h : zf fl sgn o) (h1 : o'.floats = o.floats) (h2 : o'.zero = o.zero) (h3 : o'.zeros = o.zeros) (h4 : o'.money = o.money) : zf fl sgn o' := by unfold zf; rw [h1, h2, h3, h4]; exact h
theorem not_ZF {fl : List Nat} (h : isZ fl) (h' : isF fl) : False := by rcases h with rfl | rfl <;> rcases h' with h | h | h <;> cases h
theorem zf_zero {fl sgn : List Nat} {o o' : Od} (hz : isZ fl) (h : zf fl sgn o) (h1 : o'.floats = o.floats) (h2 : o'.zero = fl) : zf fl sgn o' := ⟨fun hz => ⟨by rw [h1]; exact (h.1 hz).1, .inr h2⟩, fun hf => (not_ZF hz hf).elim⟩
theorem zf_float {fl sgn : List Nat} {o o' : Od} (hf : isF fl) (h : zf fl sgn o) (h3 : o'.zeros = o.zeros) (h4 : o'.money = o.money) : zf fl sgn o' := ⟨fun hz => (not_ZF hz hf).elim, fun hf => by rw [h3, h4]; exact h.2 hf⟩
theorem loose_a {fl sgn : List Nat} {nd nb : Nat} {o : Od} (hfl : isZ fl ∨ isF fl) (h0 : 0 < o.seen) (hov : o.over = false) (hsg : o.sign = sgn) (hd : o.nines + o.zeros + o.floats = nd) (hb : o.behind = nb) (ht : o.trail = 0) (h1 : o.nines = 0) (hp : o.point = []) (hl : o.late = false) (hz : zf fl sgn o) :
    ∃ o', Step o (fl, 1) o' ∧ o'.last = fl ∧ RO fl .p1 sgn (nd + 1) nb 0 o' := by
  rcases hfl with h | h
  · refine ⟨_, (ps_zero h ht h1 (hz.1 h).1 (hz.1 h).2).step hov (by show fl ∈ allSigns; rcases h with rfl | rfl <;> decide), rfl, ?_⟩
    rw [bh0 (st := { o with zero := fl, zeros := o.zeros + 1 }) hp]
    exact ⟨by show 0 < o.seen + 1; exact ax370382 h0, hov, hsg, by show o.nines + (o.zeros + 1) + o.floats = _; exact axe6fbdb hd, hb, ht, by exact ax8c2fa8, h1, rfl, hp, hl, zf_zero h hz rfl rfl⟩
  · refine ⟨_, (ps_float h h0 hsg h1 (hz.2 h).1 ht (hz.2 h).2.1 (hz.2 h).2.2).step hov (by show fl ∈ allSigns; rcases h with rfl | rfl | rfl <;> decide), rfl, ?_⟩
    rw [bh0 (st := { o with floats := o.floats + 1 }) hp]
    exact ⟨by show 0 < o.seen + 1; exact ax370382 h0, hov, hsg, by show o.nines + o.zeros + (o.floats + 1) = _; exact ax215869 hd, hb, ht, by exact ax8c2fa8, h1, rfl, hp, hl, zf_float h hz rfl rfl⟩
theorem loose_b {fl sgn : List Nat} {nd nb : Nat} {o : Od} (hfl : isZ fl ∨ isF fl) (h0 : 0 < o.seen) (hov : o.over = false) (hsg : o.sign = sgn) (hd : o.nines + o.zeros + o.floats = nd) (hb : o.behind = nb) (ht : o.trail = 0) (h1 : o.nines = 0) (hp : o.point ≠ []) (hz : zf fl sgn o) :
    ∃ o', Step o (fl, 1) o' ∧ o'.last = fl ∧ RO fl .p3 sgn (nd + 1) (nb + 1) 0 o' := by
  rcases hfl with h | h
  · refine ⟨_, (ps_zero h ht h1 (hz.1 h).1 (hz.1 h).2).step hov (by show fl ∈ allSigns; rcases h with rfl | rfl <;> decide), rfl, ?_⟩
    rw [bh1 (st := { o with zero := fl, zeros := o.zeros + 1 }) hp]
    exact ⟨by show 0 < o.seen + 1; exact ax370382 h0, hov, hsg, by show o.nines + (o.zeros + 1) + o.floats = _; exact axe6fbdb hd, by show o.behind + 1 = _; exact axa299b1 hb, ht, by exact ax8c2fa8, h1, rfl, hp, zf_zero h hz rfl rfl⟩
  · refine ⟨_, (ps_float h h0 hsg h1 (hz.2 h).1 ht (hz.2 h).2.1 (hz.2 h).2.2).step hov (by show fl ∈ allSigns; rcases h with rfl | rfl | rfl <;> decide), rfl, ?_⟩
    rw [bh1 (st := { o with floats := o.floats + 1 }) hp]
    exact ⟨by show 0 < o.seen + 1; exact ax370382 h0, hov, hsg, by show o.nines + o.zeros + (o.floats + 1) = _; exact ax215869 hd, by show o.behind + 1 = _; exact axa299b1 hb, ht, by exact ax8c2fa8, h1, rfl, hp, zf_float h hz rfl rfl⟩
theorem nine_a {o : Od} (hov : o.over = false) (ht : o.trail = 0) (hl : o.late = false) (hp : o.point = []) : Step o ([57], 1) { o with nines := o.nines + 1, seen := o.seen + 1, last := [57] } := by
  have := (ps_nine (n := 1) ht hl).step hov (by show [57] ∈ allSigns; decide)
  rw [bh0 (st := { o with nines := o.nines + (1 : Nat) }) hp] at this
  exact this
theorem nine_b {o : Od} (hov : o.over = false) (ht : o.trail = 0) (hl : o.late = false) (hp : o.point ≠ []) : Step o ([57], 1) { o with nines := o.nines + 1, behind := o.behind + 1, seen := o.seen + 1, last := [57] } := by
  have := (ps_nine (n := 1) ht hl).step hov (by show [57] ∈ allSigns; decide)
  rw [bh1 (st := { o with nines := o.nines + (1 : Nat) }) hp] at this
  have e : (o.late || false) = o.late := by cases o.late <;> rfl
  rw [e] at this; exact this
theorem run_step {fl sgn : List Nat} {p q : Ph} {t : Tk} {nd nb np : Nat} {o : Od} (h : Nxt fl p t q) (hp : p ≠ .p0) (r : RO fl p sgn nd nb np o) :
    ∃ o', Step o (sg fl t, 1) o' ∧ o'.last = sg fl t ∧ RO fl q sgn (nd + dg t) (nb + if seenP p = true then dg t else 0) (np + pp t) o' := by
  obtain ⟨h0, hov, hsg, hd, hb, ht, hph⟩ := r
  cases h with
  | lead => exact absurd rfl hp
  | loose0 => exact absurd rfl hp
  | nine0 => exact absurd rfl hp
  | insL c hc =>
    obtain ⟨a1, rfl, a3, a4, a5⟩ := hph
    exact ⟨_, (ps_ins hc ht).step hov (sg_all (.insL (fl := fl) c hc)), rfl, by show 0 < o.seen + 1; exact ax370382 h0, hov, hsg, hd, hb, ht, a1, rfl, a3, a4, zf_of a5 rfl rfl rfl rfl⟩
  | looseL h =>
    obtain ⟨a1, rfl, a3, a4, a5⟩ := hph
    exact loose_a (.inr h) h0 hov hsg hd hb ht a1 a3 a4 a5
  | loose1 h =>
    obtain ⟨a0, a1, rfl, a3, a4, a5⟩ := hph
    exact loose_a h h0 hov hsg hd hb ht a1 a3 a4 a5
  | ins1 c hc =>
    obtain ⟨a0, a1, rfl, a3, a4, a5⟩ := hph
    exact ⟨_, (ps_ins hc ht).step hov (sg_all (.ins1 (fl := fl) c hc)), rfl, by show 0 < o.seen + 1; exact ax370382 h0, hov, hsg, hd, hb, ht, a0, a1, rfl, a3, a4, zf_of a5 rfl rfl rfl rfl⟩
  | nine1 =>
    obtain ⟨a0, a1, rfl, a3, a4, a5⟩ := hph
    exact ⟨_, nine_a hov ht a4 a3, rfl, by show 0 < o.seen + 1; exact ax370382 h0, hov, hsg, by show o.nines + 1 + o.zeros + o.floats = _; simp only [dg]; exact ax1c0621 hd, hb, ht, by simp only [dg]; exact ax8c2fa8, rfl, a3, a4⟩
  | nine2 =>
    obtain ⟨a0, rfl, a3, a4⟩ := hph
    exact ⟨_, nine_a hov ht a4 a3, rfl, by show 0 < o.seen + 1; exact ax370382 h0, hov, hsg, by show o.nines + 1 + o.zeros + o.floats = _; simp only [dg]; exact ax1c0621 hd, hb, ht, by simp only [dg]; exact ax8c2fa8, rfl, a3, a4⟩
  | ins2 c hc =>
    obtain ⟨a0, rfl, a3, a4⟩ := hph
    exact ⟨_, (ps_ins hc ht).step hov (sg_all (.ins2 (fl := fl) c hc)), rfl, by show 0 < o.seen + 1; exact ax370382 h0, hov, hsg, hd, hb, ht, a0, rfl, a3, a4⟩
  | dot1 =>
    obtain ⟨a0, a1, rfl, a3, a4, a5⟩ := hph
    exact ⟨_, (ps_point (.inl rfl) a3 ht).step hov (by show [46] ∈ allSigns; decide), rfl, by show 0 < o.seen + 1; exact ax370382 h0, hov, hsg, hd, hb, ht, a0, a1, rfl, by show [46] ≠ []; decide, a4, zf_of a5 rfl rfl rfl rfl⟩
  | vee1 =>
    obtain ⟨a0, a1, rfl, a3, a4, a5⟩ := hph
    exact ⟨_, (ps_point (.inr rfl) a3 ht).step hov (by show [86] ∈ allSigns; decide), rfl, by show 0 < o.seen + 1; exact ax370382 h0, hov, hsg, hd, hb, ht, a0, a1, rfl, by show [86] ≠ []; decide, a4, zf_of a5 rfl rfl rfl rfl⟩
  | dot2 =>
    obtain ⟨a0, rfl, a3, a4⟩ := hph
    exact ⟨_, (ps_point (.inl rfl) a3 ht).step hov (by show [46] ∈ allSigns; decide), rfl, by show 0 < o.seen + 1; exact ax370382 h0, hov, hsg, hd, hb, ht, a0, rfl, by show [46] ≠ []; decide, a4⟩
  | vee2 =>
    obtain ⟨a0, rfl, a3, a4⟩ := hph
    exact ⟨_, (ps_point (.inr rfl) a3 ht).step hov (by show [86] ∈ allSigns; decide), rfl, by show 0 < o.seen + 1; exact ax370382 h0, hov, hsg, hd, hb, ht, a0, rfl, by show [86] ≠ []; decide, a4⟩
  | loose7 h =>
    obtain ⟨a0, a1, rfl, a3, a4, a5⟩ := hph
    exact loose_b h h0 hov hsg hd hb ht a1 a3 a5
  | loose3 h =>
    obtain ⟨a0, a1, rfl, a3, a5⟩ := hph
    exact loose_b h h0 hov hsg hd hb ht a1 a3 a5
  | nine7 =>
    obtain ⟨a0, a1, rfl, a3, a4, a5⟩ := hph
    exact ⟨_, nine_b hov ht a4 a3, rfl, by show 0 < o.seen + 1; exact ax370382 h0, hov, hsg, by show o.nines + 1 + o.zeros + o.floats = _; simp only [dg]; exact ax1c0621 hd, by show o.behind + 1 = _; simp only [dg, seenP, if_true]; exact axa299b1 hb, ht, by simp only [dg]; exact ax8c2fa8, rfl, a3, a4⟩
  | nine8 =>
    obtain ⟨a0, rfl, a3, a4⟩ := hph
    exact ⟨_, nine_b hov ht a4 a3, rfl, by show 0 < o.seen + 1; exact ax370382 h0, hov, hsg, by show o.nines + 1 + o.zeros + o.floats = _; simp only [dg]; exact ax1c0621 hd, by show o.behind + 1 = _; simp only [dg, seenP, if_true]; exact axa299b1 hb, ht, by simp only [dg]; exact ax8c2fa8, rfl, a3, a4⟩
  | nine4 =>
    obtain ⟨a0, rfl, a3, a4⟩ := hph
    exact ⟨_, nine_b hov ht a4 a3, rfl, by show 0 < o.seen + 1; exact ax370382 h0, hov, hsg, by show o.nines + 1 + o.zeros + o.floats = _; simp only [dg]; exact ax1c0621 hd, by show o.behind + 1 = _; simp only [dg, seenP, if_true]; exact axa299b1 hb, ht, by simp only [dg]; exact ax8c2fa8, rfl, a3, a4⟩
  | pee1 =>
    obtain ⟨a0, a1, rfl, a3, a4, a5⟩ := hph
    exact ⟨_, (ps_pee a3 (by exact ax36aba8 hd a0)).step hov (by show [80] ∈ allSigns; decide), rfl, by show 0 < o.seen + 1; exact ax370382 h0, hov, hsg, hd, hb, by show o.trail + 1 = _; simp only [pp]; exact ax8f0714 ht, a0, a3⟩
  | pee2 =>
    obtain ⟨a0, rfl, a3, a4⟩ := hph
    exact ⟨_, (ps_pee a3 (by exact ax36aba8 hd a0)).step hov (by show [80] ∈ allSigns; decide), rfl, by show 0 < o.seen + 1; exact ax370382 h0, hov, hsg, hd, hb, by show o.trail + 1 = _; simp only [pp]; exact ax8f0714 ht, a0, a3⟩
  | pee5 =>
    obtain ⟨a0, a3⟩ := hph
    exact ⟨_, (ps_pee a3 (by exact ax36aba8 hd a0)).step hov (by show [80] ∈ allSigns; decide), rfl, by show 0 < o.seen + 1; exact ax370382 h0, hov, hsg, hd, hb, by show o.trail + 1 = _; simp only [pp]; exact axa299b1 ht, a0, a3⟩
inductive PreOk (fl : List Nat) : List (List Nat) → List Nat → List Nat → Prop
  | nil : PreOk fl [] [] []
  | sgn (s : List Nat) : s = [43] ∨ s = [45] → fl ≠ [43] → fl ≠ [45] → PreOk fl [s] s []
  | mon : ¬ isF fl → PreOk fl [[36]] [] [36]
  | both (s : List Nat) : s = [43] ∨ s = [45] → ¬ isF fl → PreOk fl [s, [36]] s [36]
noncomputable def PostOk (fl sgn : List Nat) (post : List (List Nat)) : Prop := post = [] ∨ ∃ s, post = [s] ∧ (s = [67, 82] ∨ s = [68, 66] ∨ s = [43] ∨ s = [45]) ∧ sgn = [] ∧ fl ≠ [43] ∧ fl ≠ [45]
structure Pic (fl : List Nat) (pre : List (List Nat)) (core : List Tk) (post : List (List Nat)) (sgn mon : List Nat) (q : Ph) : Prop where
  hf : fl = [] ∨ isZ fl ∨ isF fl
  hpre : PreOk fl pre sgn mon
  run : Run fl .p0 core q
  qL : q ≠ .pL
  last : ∃ t, core.getLast? = some t ∧ sg fl t ≠ [44] ∧ sg fl t ≠ [46]
  hpost : PostOk fl sgn post
  dgs : nD core + nP core ≤ 18
noncomputable def signs (fl : List Nat) (pre : List (List Nat)) (core : List Tk) (post : List (List Nat)) : List (List Nat) := pre ++ (core.map (sg fl) ++ post)
noncomputable def odP (n : Int) (sgn mon la : List Nat) : Od := ⟨n, [], 0, 0, [], 0, 0, 0, false, sgn, mon, la, false, false⟩
theorem ps_signN {st : Od} {x : List Nat} {n : Nat} (hx : x = [43] ∨ x = [45]) (h1 : st.seen = 0) (h2 : st.point = []) : PStep st (x, n) { st with sign := x, floats := st.floats + ((n : Nat) - 1) } := .mk <| fun ho hs hn => by
  have : pick x = F_Order_take_sign := by rcases hx with rfl | rfl <;> rfl
  show Took (pick x) _ _ _ _; rw [this]; exact sign0_ok ho hs hn h1 h2
theorem ps_sign0 {st : Od} {x : List Nat} (hx : x = [43] ∨ x = [45]) (h1 : st.seen = 0) (h2 : st.point = []) : PStep st (x, 1) { st with sign := x } := by
  have := ps_signN (n := 1) hx h1 h2
  have e : st.floats + (((1 : Nat) : Int) - 1) = st.floats := by exact axe1a261
  rw [e] at this; exact this
theorem ps_money0 {st : Od} (h1 : st.seen = 0 ∨ st.seen = 1 ∧ st.sign ≠ [] ∧ st.floats = 0) (h2 : st.point = []) (h3 : st.money = []) : PStep st ([36], 1) { st with money := [36] } := .mk <| fun ho hs hn => money0_ok ho hs hn h1 h2 h3
theorem ps_end {st : Od} {x : List Nat} (hx : x = [67, 82] ∨ x = [68, 66] ∨ x = [43] ∨ x = [45]) (h0 : 0 < st.seen) (h1 : st.nines + st.zeros + st.floats ≠ 0) (h2 : st.sign = []) : PStep st (x, 1) { st with sign := x, over := true } := .mk <| fun ho hs hn => by
  rcases hx with rfl | rfl | rfl | rfl
  · exact end_ok ho hs hn h1 h2
  · exact end_ok ho hs hn h1 h2
  · exact signE_ok ho hs hn (by exact (fun q => (ax3d7016 h0 q))) h2 (by decide) h1
  · exact signE_ok ho hs hn (by exact (fun q => (ax3d7016 h0 q))) h2 (by decide) h1
noncomputable def one (l : List (List Nat)) : List Rn := l.map fun s => (s, 1)
theorem one_app (a b : List (List Nat)) : one (a ++ b) = one a ++ one b := List.map_append
theorem one_expand (l : List (List Nat)) : expand (one l) = l := by
  induction l with
  | nil => rfl
  | cons s r ih => rw [show one (s :: r) = [(s, 1)] ++ one r from rfl, expand_app, ih]; rfl
theorem one_txt (l : List (List Nat)) : txt (one l) = l.flatten := by
  induction l with
  | nil => rfl
  | cons s r ih => rw [show one (s :: r) = (s, 1) :: one r from rfl, txt_cons, ih]; rfl
theorem one_ok {l : List (List Nat)} (h : ∀ s ∈ l, s ∈ allSigns) : ∀ p ∈ one l, okIt p := fun p m => by
  obtain ⟨s, hs, rfl⟩ := List.mem_map.1 m
  exact ⟨h s hs, .inl rfl⟩
theorem Runs.app {a b c : Od} {x y : List Rn} (h : Runs a x b) (h' : Runs b y c) : Runs a (x ++ y) c := by
  induction h with
  | nil => exact h'
  | cons s _ ih => exact .cons s (ih h')
theorem sign_in {s : List Nat} (h : s = [43] ∨ s = [45]) : s ∈ allSigns := by rcases h with rfl | rfl <;> decide
theorem pre_runs {fl sgn mon : List Nat} {pre : List (List Nat)} (h : PreOk fl pre sgn mon) : ∃ la, Runs od0 (one pre) (odP (pre.length : Nat) sgn mon la) := by
  cases h with
  | nil => exact ⟨[], .nil _⟩
  | sgn s h => exact ⟨sgn, .cons ((ps_sign0 h rfl rfl).step rfl (sign_in h)) (.nil _)⟩
  | mon h => exact ⟨[36], .cons ((ps_money0 (.inl rfl) rfl rfl).step rfl (by show [36] ∈ allSigns; decide)) (.nil _)⟩
  | both s h =>
    refine ⟨[36], .cons ((ps_sign0 h rfl rfl).step rfl (sign_in h)) (.cons ((ps_money0 (.inr ⟨rfl, ?_, rfl⟩) rfl rfl).step rfl (by show [36] ∈ allSigns; decide)) (.nil _))⟩
    show sgn ≠ []
    rcases h with rfl | rfl <;> decide
theorem first_step {fl sgn mon la : List Nat} {pre : List (List Nat)} {t : Tk} {q : Ph} (h : PreOk fl pre sgn mon) (n : Nxt fl .p0 t q) :
    ∃ sgn' o', Step (odP (pre.length : Nat) sgn mon la) (sg fl t, 1) o' ∧ o'.last = sg fl t ∧ RO fl q sgn' (dg t) 0 (pp t) o' ∧ (sgn' = sgn ∨ sgn' = fl ∧ (fl = [43] ∨ fl = [45])) := by
  have len : (0 : Int) < (pre.length : Nat) + 1 := by exact axea50fb
  cases n with
  | loose0 hz => exact ⟨sgn, _, (ps_zero hz rfl rfl rfl (.inl rfl)).step rfl (by show fl ∈ allSigns; rcases hz with rfl | rfl <;> decide), rfl, ⟨len, rfl, rfl, rfl, rfl, rfl, Nat.zero_lt_one, rfl, rfl, rfl, rfl, fun _ => ⟨rfl, .inr rfl⟩, fun hf => (not_ZF hz hf).elim⟩, .inl rfl⟩
  | nine0 e => exact ⟨sgn, _, nine_a rfl rfl rfl rfl, rfl, ⟨len, rfl, rfl, rfl, rfl, rfl, Nat.zero_lt_one, rfl, rfl, rfl⟩, .inl rfl⟩
  | lead hf =>
    by_cases h36 : fl = [36]
    · subst h36
      have m0 : mon = [] ∧ ((pre.length : Nat) : Int) = 0 ∨ mon = [] ∧ ((pre.length : Nat) : Int) = 1 ∧ sgn ≠ [] := by
        cases h with
        | nil => exact .inl ⟨rfl, rfl⟩
        | sgn _ hs => exact .inr ⟨rfl, rfl, by rcases hs with rfl | rfl <;> decide⟩
        | mon hn => exact absurd hf hn
        | both _ _ hn => exact absurd hf hn
      have mm : mon = [] := m0.elim (·.1) (·.1)
      subst mm
      refine ⟨sgn, _, (ps_money0 (st := odP (pre.length : Nat) sgn [] la) (m0.elim (fun q => .inl q.2) fun q => .inr ⟨q.2.1, q.2.2, rfl⟩) rfl rfl).step rfl (by show [36] ∈ allSigns; decide), rfl, ⟨len, rfl, rfl, rfl, rfl, rfl, rfl, rfl, rfl, rfl, fun hz => (not_ZF hz hf).elim, fun _ => ⟨rfl, fun _ => ?_, fun q => absurd rfl q⟩⟩, .inl rfl⟩
      show [36] ≠ []
      decide
    · have hpm : fl = [43] ∨ fl = [45] := hf.elim (fun q => absurd q h36) id
      have m0 : pre = [] ∧ mon = [] := by
        cases h with
        | nil => exact ⟨rfl, rfl⟩
        | sgn _ _ a b => exact (hpm.elim a b).elim
        | mon hn => exact absurd hf hn
        | both _ _ hn => exact absurd hf hn
      obtain ⟨rfl, rfl⟩ := m0
      exact ⟨fl, _, (ps_sign0 (st := odP (0 : Nat) sgn [] la) hpm rfl rfl).step rfl (sign_in hpm), rfl, ⟨len, rfl, rfl, rfl, rfl, rfl, rfl, rfl, rfl, rfl, fun hz => (not_ZF hz hf).elim, fun _ => ⟨rfl, fun q => absurd q h36, fun _ => ⟨rfl, rfl⟩⟩⟩, .inr ⟨rfl, hpm⟩⟩
theorem seen_nx {fl : List Nat} {p q : Ph} {t : Tk} (h : Nxt fl p t q) : seenP q = (seenP p || pt t) := by cases h <;> rfl
theorem nx_ne0 {fl : List Nat} {p q : Ph} {t : Tk} (h : Nxt fl p t q) : q ≠ .p0 := by cases h <;> (intro e; cases e)
theorem run_all {fl sgn : List Nat} {p q : Ph} {core : List Tk} (h : Run fl p core q) : ∀ {nd nb np : Nat} {o : Od}, p ≠ .p0 → RO fl p sgn nd nb np o →
    ∃ o', Runs o (one (core.map (sg fl))) o' ∧ RO fl q sgn (nd + nD core) (nb + nB (seenP p) core) (np + nP core) o' ∧ (core = [] → o' = o) ∧ (∀ t, core.getLast? = some t → o'.last = sg fl t) := by
  induction h with
  | nil p => intro nd nb np o _ r; exact ⟨o, .nil _, r, fun _ => rfl, fun t e => by cases e⟩
  | cons n _ ih =>
    rename_i p q' r' t ts _
    intro nd nb np o hp r
    obtain ⟨o1, s1, l1, r1⟩ := run_step n hp r
    obtain ⟨o2, s2, r2, l2, l3⟩ := ih (nx_ne0 n) r1
    refine ⟨o2, .cons s1 s2, ?_, (fun e => by cases e), fun u e => ?_⟩
    · rw [seen_nx n] at r2
      simp only [nD, nB, nP, ← Nat.add_assoc]
      exact r2
    · cases ts with
      | nil => cases e; rw [l2 rfl]; exact l1
      | cons u' ts => exact l3 u (by simpa [List.getLast?_cons_cons] using e)
theorem pic_runs {fl sgn mon : List Nat} {pre post : List (List Nat)} {core : List Tk} {q : Ph} (h : Pic fl pre core post sgn mon q) :
    ∃ st, Runs od0 (one (signs fl pre core post)) st ∧ st.nines + st.zeros + st.floats = (nD core : Nat) ∧ st.behind = (nB false core : Nat) ∧ st.trail = (nP core : Nat) ∧ st.last ≠ [44] ∧ st.last ≠ [46] ∧ nD core ≠ 0 := by
  obtain ⟨la, r0⟩ := pre_runs h.hpre
  obtain ⟨tl, htl, hn1, hn2⟩ := h.last
  have hrun := h.run
  cases hrun with
  | nil => cases htl
  | cons n rest =>
    rename_i q' t ts
    obtain ⟨sgn', o1, s1, l1, ro1, hsgn⟩ := first_step (la := la) h.hpre n
    obtain ⟨o2, s2, ro2, l2, l3⟩ := run_all rest (nx_ne0 n) ro1
    have hlast : o2.last = sg fl tl := by
      cases ts with
      | nil => cases htl; rw [l2 rfl]; exact l1
      | cons u ts => exact l3 tl (by simpa [List.getLast?_cons_cons] using htl)
    have e1 : dg t + nD ts = nD (t :: ts) := rfl
    have e2 : 0 + nB (seenP q') ts = nB false (t :: ts) := by rw [seen_nx n]; simp [nB, seenP]
    have e3 : pp t + nP ts = nP (t :: ts) := rfl
    rw [e1, e2, e3] at ro2
    have nd0 : nD (t :: ts) ≠ 0 := by
      have := ro2.ph
      intro e
      cases q with
      | p0 => exact this
      | pL => exact h.qL rfl
      | _ => have := this.1; exact axc188ea e this
    have ra := r0.app (.cons s1 s2)
    rcases h.hpost with hp | ⟨s, hp, hs, hg, f1, f2⟩
    · subst hp
      exact ⟨o2, by unfold signs; rw [List.append_nil, one_app]; exact ra, ro2.dgs, ro2.bh, ro2.tr, by rw [hlast]; exact hn1, by rw [hlast]; exact hn2, nd0⟩
    · subst hp
      have sg0 : o2.sign = [] := by
        rw [ro2.sign]
        rcases hsgn with e | ⟨_, e⟩
        · rw [e]; exact hg
        · exact (e.elim f1 f2).elim
      have dz : o2.nines + o2.zeros + o2.floats ≠ 0 := by rw [ro2.dgs]; omega
      refine ⟨{ o2 with sign := s, over := true, seen := o2.seen + 1, last := s }, ?_, ro2.dgs, ro2.bh, ro2.tr, ?_, ?_, nd0⟩
      · unfold signs
        rw [← List.append_assoc, one_app, one_app]
        exact ra.app (.cons ((ps_end hs ro2.seen dz sg0).step ro2.over (by show s ∈ allSigns; rcases hs with rfl | rfl | rfl | rfl <;> decide)) (.nil _))
      · show s ≠ _
        rcases hs with rfl | rfl | rfl | rfl <;> decide
      · show s ≠ _
        rcases hs with rfl | rfl | rfl | rfl <;> decide
theorem signs_all {fl sgn mon : List Nat} {pre post : List (List Nat)} {core : List Tk} {q : Ph} (h : Pic fl pre core post sgn mon q) : ∀ s ∈ signs fl pre core post, s ∈ allSigns := by
  intro s hs
  rcases List.mem_append.1 hs with a | a
  · cases h.hpre with
    | nil => cases a
    | sgn _ hx => cases List.mem_singleton.1 a; exact sign_in hx
    | mon => cases List.mem_singleton.1 a; decide
    | both _ hx =>
      rcases List.mem_cons.1 a with rfl | a
      · exact sign_in hx
      · cases List.mem_singleton.1 a; decide
  · rcases List.mem_append.1 a with a | a
    · obtain ⟨t, ht, rfl⟩ := List.mem_map.1 a
      have : ∀ {p q : Ph} {c : List Tk}, Run fl p c q → t ∈ c → sg fl t ∈ allSigns := fun r => by
        induction r with
        | nil => intro q; cases q
        | cons n _ ih =>
          intro m
          rcases List.mem_cons.1 m with rfl | m
          · exact sg_all n
          · exact ih m
      exact this h.run ht
    · rcases h.hpost with e | ⟨x, e, hx, _⟩
      · subst e; cases a
      · subst e; cases List.mem_singleton.1 a; rcases hx with rfl | rfl | rfl | rfl <;> decide
noncomputable def toks (pre : List (List Nat)) (core : List Tk) (post : List (List Nat)) : List Tk := pre.map .fix ++ (core ++ post.map .fix)
theorem signs_toks (fl : List Nat) (pre : List (List Nat)) (core : List Tk) (post : List (List Nat)) : signs fl pre core post = (toks pre core post).map (sg fl) := by
  unfold signs toks
  have e : ∀ l : List (List Nat), (l.map Tk.fix).map (sg fl) = l := fun l => by rw [List.map_map]; exact List.map_id l
  rw [List.map_append, List.map_append, e, e]
noncomputable def okfix (s : List Nat) : Prop := s = [36] ∨ s = [43] ∨ s = [45] ∨ s = [67, 82] ∨ s = [68, 66]
noncomputable def Good (fl : List Nat) : Bool → List Tk → Prop
  | _, [] => True
  | b, t :: r => (match t with
    | .lead => isF fl ∧ b = false
    | .loose => isZ fl ∨ isF fl ∧ b = true
    | .ins c => okc c
    | .fix s => okfix s ∧ (isF fl → s ≠ fl)
    | _ => True) ∧ Good fl (match t with | .lead => true | _ => b) r
theorem good_fix {fl : List Nat} {b : Bool} : ∀ {l : List (List Nat)} {r : List Tk}, (∀ s ∈ l, okfix s ∧ (isF fl → s ≠ fl)) → Good fl b r → Good fl b (l.map Tk.fix ++ r)
  | [], _, _, h => h
  | s :: l, r, hs, h => ⟨hs s (.head _), good_fix (fun q m => hs q (.tail _ m)) h⟩
noncomputable def ledP (fl : List Nat) : Ph → Bool → Prop
  | .p0, b => b = false
  | .pL, b => b = true
  | _, b => isF fl → b = true
theorem good_run {fl : List Nat} {p q : Ph} {core r : List Tk} (h : Run fl p core q) (hr : ∀ b, Good fl b r) : ∀ {b : Bool}, ledP fl p b → Good fl b (core ++ r) := by
  induction h with
  | nil p => intro b _; exact hr b
  | cons n rest ih =>
    intro b hb
    cases n with
    | lead h => exact ⟨⟨h, hb⟩, ih rfl⟩
    | loose0 h => exact ⟨.inl h, ih fun hf => (not_ZF h hf).elim⟩
    | nine0 h => exact ⟨trivial, ih fun hf => by subst h; rcases hf with h | h | h <;> cases h⟩
    | insL c h => exact ⟨h, ih hb⟩
    | looseL h => exact ⟨.inr ⟨h, hb⟩, ih fun _ => hb⟩
    | loose1 h => exact ⟨h.imp_right fun h => ⟨h, hb h⟩, ih hb⟩
    | loose7 h => exact ⟨h.imp_right fun h => ⟨h, hb h⟩, ih hb⟩
    | loose3 h => exact ⟨h.imp_right fun h => ⟨h, hb h⟩, ih hb⟩
    | ins1 c h => exact ⟨h, ih hb⟩
    | ins2 c h => exact ⟨h, ih hb⟩
    | _ => exact ⟨trivial, ih hb⟩
theorem pic_good {fl sgn mon : List Nat} {pre post : List (List Nat)} {core : List Tk} {q : Ph} (h : Pic fl pre core post sgn mon q) : Good fl false (toks pre core post) := by
  unfold toks
  refine good_fix (fun s hs => ?_) (good_run h.run (fun b => ?_) rfl)
  · have pm : ∀ {s : List Nat}, s = [43] ∨ s = [45] → okfix s := fun e => e.elim (fun e => .inr (.inl e)) fun e => .inr (.inr (.inl e))
    have hp := h.hpre
    cases hp with
    | nil => cases hs
    | sgn x hx a b => cases List.mem_singleton.1 hs; exact ⟨pm hx, fun _ e => hx.elim (fun q => a (e.symm.trans q)) fun q => b (e.symm.trans q)⟩
    | mon a => cases List.mem_singleton.1 hs; exact ⟨.inl rfl, fun f => absurd f a⟩
    | both x hx a =>
      rcases List.mem_cons.1 hs with rfl | hs
      · exact ⟨pm hx, fun f => absurd f a⟩
      · cases List.mem_singleton.1 hs; exact ⟨.inl rfl, fun f => absurd f a⟩
  · have := good_fix (fl := fl) (b := b) (l := post) (r := []) (fun s hs => ?_) trivial
    · rwa [List.append_nil] at this
    · rcases h.hpost with e | ⟨x, e, hx, _, f1, f2⟩
      · rw [e] at hs; cases hs
      · rw [e] at hs
        cases List.mem_singleton.1 hs
        refine ⟨?_, fun f e => ?_⟩
        · rcases hx with hx | hx | hx | hx
          · exact .inr (.inr (.inr (.inl hx)))
          · exact .inr (.inr (.inr (.inr hx)))
          · exact .inr (.inl hx)
          · exact .inr (.inr (.inl hx))
        · subst e
          rcases hx with rfl | rfl | rfl | rfl
          · rcases f with f | f | f <;> cases f
          · rcases f with f | f | f <;> cases f
          · exact f1 rfl
          · exact f2 rfl
noncomputable def cnt (c : List Nat) (l : List (List Nat)) : Nat := l.countP (· == c)
theorem cnt_app (c : List Nat) (a b : List (List Nat)) : cnt c (a ++ b) = cnt c a + cnt c b := List.countP_append
theorem cnt_one {c s : List Nat} : cnt c [s] = if s = c then 1 else 0 := by
  unfold cnt
  by_cases h : s = c
  · rw [if_pos h, List.countP_cons, h]; simp
  · rw [if_neg h, List.countP_cons]; simp [h]
theorem cnt_cons (c s : List Nat) (l : List (List Nat)) : cnt c (s :: l) = (if s = c then 1 else 0) + cnt c l := by
  rw [← cnt_one, ← cnt_app]; rfl
theorem cnt_core {fl c : List Nat} {p q : Ph} {core : List Tk} (h : Run fl p core q) (hc : isF c) (hn : fl ≠ c) : cnt c (core.map (sg fl)) = 0 := by
  induction h with
  | nil => rfl
  | cons n _ ih =>
    rw [List.map_cons, cnt_cons, ih, if_neg, Nat.add_zero]
    intro e
    cases n with
    | lead => exact hn e
    | loose0 => exact hn e
    | looseL => exact hn e
    | loose1 => exact hn e
    | loose7 => exact hn e
    | loose3 => exact hn e
    | insL x h => rcases h with rfl | rfl | rfl | rfl <;> (rcases hc with rfl | rfl | rfl <;> cases e)
    | ins1 x h => rcases h with rfl | rfl | rfl | rfl <;> (rcases hc with rfl | rfl | rfl <;> cases e)
    | ins2 x h => rcases h with rfl | rfl | rfl | rfl <;> (rcases hc with rfl | rfl | rfl <;> cases e)
    | _ => rcases hc with rfl | rfl | rfl <;> cases e
theorem loose_in {fl : List Nat} {core : List Tk} {q : Ph} : ∀ {p : Ph}, Run fl p core q → p = .pL → q ≠ .pL → 1 ≤ cnt fl (core.map (sg fl)) := fun {p} h => by
  induction h with
  | nil p => intro e n; exact absurd e n
  | cons n _ ih =>
    intro e nq
    subst e
    rw [List.map_cons, cnt_cons]
    cases n with
    | insL c h => exact Nat.le_trans (ih rfl nq) (Nat.le_add_left _ _)
    | looseL h => rw [if_pos (show sg fl Tk.loose = fl from rfl)]; exact axee725d
theorem cnt_ge {fl sgn mon : List Nat} {pre post : List (List Nat)} {core : List Tk} {q : Ph} (h : Pic fl pre core post sgn mon q) (hf : isF fl) : 2 ≤ cnt fl (signs fl pre core post) := by
  unfold signs
  rw [cnt_app, cnt_app]
  have : 2 ≤ cnt fl (core.map (sg fl)) := by
    have hr := h.run
    cases hr with
    | nil => obtain ⟨t, e, _⟩ := h.last; cases e
    | cons n rest =>
      cases n with
      | lead _ =>
        have := loose_in rest rfl h.qL
        rw [List.map_cons, cnt_cons, if_pos (show sg fl Tk.lead = fl from rfl)]; exact axfd5bed this
      | loose0 hz => exact (not_ZF hz hf).elim
      | nine0 e => subst e; rcases hf with f | f | f <;> cases f
  exact ax8b5301 this
theorem cnt_le {fl sgn mon c : List Nat} {pre post : List (List Nat)} {core : List Tk} {q : Ph} (h : Pic fl pre core post sgn mon q) (hc : isF c) (hn : fl ≠ c) : cnt c (signs fl pre core post) ≤ 1 := by
  unfold signs
  rw [cnt_app, cnt_app, cnt_core h.run hc hn]
  have hp := h.hpre
  have pc : ∀ {s : List Nat}, s = [43] ∨ s = [45] → cnt c [s, [36]] ≤ 1 := fun {s} hs => by
    rw [cnt_cons, cnt_one]
    by_cases e : s = c
    · rw [if_pos e, if_neg]
      · exact Nat.le_refl _
      · intro e2; subst e; rcases hs with rfl | rfl <;> cases e2
    · rw [if_neg e]; split <;> (first | exact axc19da6 | exact axdebabd | omega)
  rcases h.hpost with e | ⟨x, e, hx, hg, _, _⟩
  · subst e
    cases hp with
    | nil => exact Nat.zero_le _
    | sgn s hs => rw [cnt_one]; show _ + (0 + 0) ≤ 1; split <;> (first | exact axb9c125 | exact axe74e8d | omega)
    | mon => rw [cnt_one]; show _ + (0 + 0) ≤ 1; split <;> (first | exact axb9c125 | exact axe74e8d | omega)
    | both s hs => exact pc hs
  · subst e hg
    rw [cnt_one]
    cases hp with
    | nil => show 0 + (0 + _) ≤ 1; split <;> (first | exact ax01dc61 | exact axe74e8d | omega)
    | sgn s hs => rcases hs with h | h <;> cases h
    | mon _ =>
      rw [cnt_one]
      by_cases e : x = c
      · rw [if_pos e, if_neg]
        · exact Nat.le_refl _
        · intro e2; subst e2; subst e; rcases hx with h | h | h | h <;> cases h
      · rw [if_neg e]; split <;> (first | exact axb9c125 | exact axe74e8d | omega)
    | both s hs => rcases hs with h | h <;> cases h
noncomputable def Flo (fl x : List Nat) : Prop := (isF fl → x = fl) ∧ (¬ isF fl → x = [])
inductive FltI (t : Nat) (ss : List (List Nat)) (H : Hp) : List V → Rho → Hp → Prop
  | mk (a b : List (List Nat)) (x : Option V) (e : [[36], [43], [45]] = a ++ b) (ha : ∀ s ∈ a, cnt s ss ≤ 1) : FltI t ss H (b.map V.str) [some (.ref t), x] H
theorem floating_ok {H : Hp} {t : Nat} {fl : List Nat} {ss : List (List Nat)} {K : KV} (ht : H[t]? = some (.list (ss.map V.str))) (hge : isF fl → 2 ≤ cnt fl ss) (hle : ∀ c, isF c → fl ≠ c → cnt c ss ≤ 1)
    (kk : ∀ x, Flo fl x → K (.str x) H) : callAt F_floating_sign [.ref t] H K := by
  refine ⟨⟨⟨rfl, for_go [.str [36], .str [43], .str [45]] (FltI t ss H) ⟨[], [[36], [43], [45]], none, rfl, fun _ q => nomatch q⟩ (fun _ _ _ _ => has_items) ?_ ?_⟩⟩⟩
  · intro v r ρ H' G go h
    generalize hv : v :: r = vr at h
    obtain ⟨a, b, x, e, ha⟩ := h
    cases b with
    | nil => cases hv
    | cons c b =>
    cases hv
    have hc : isF c := by
      have : c ∈ [[36], [43], [45]] := by rw [e]; simp
      simpa [isF] using this
    refine at_list ht (at_list ht ⟨ss, strs_map _, ?_⟩)
    by_cases h : 2 ≤ cnt c ss
    · have : fl = c := Classical.byContradiction fun q => by have := hle c hc q; exact axacffb5 h this
      subst this
      exact lt_t (Int.ofNat_lt.2 h) (kk fl ⟨fun _ => rfl, fun q => absurd hc q⟩)
    · refine lt_f (Int.ofNat_le.2 (Nat.le_of_lt_succ (Nat.lt_of_not_le h))) (go _ _ ⟨a ++ [c], b, _, by rw [e]; simp, fun s hs => ?_⟩)
      rcases List.mem_append.1 hs with q | q
      · exact ha s q
      · cases List.mem_singleton.1 q; exact axc95959 (Nat.lt_of_not_le h)
  · intro ρ H' h
    generalize hv : ([] : List V) = vr at h
    obtain ⟨a, b, x, e, ha⟩ := h
    cases b with
    | cons => cases hv
    | nil =>
    rw [List.append_nil] at e
    subst e
    refine kk [] ⟨fun hf => ?_, fun _ => rfl⟩
    have := hge hf
    have := ha fl (by rcases hf with rfl | rfl | rfl <;> simp)
    omega
noncomputable def rFigure : List Nat := [102, 105, 103, 117, 114, 101]
noncomputable def rZero : List Nat := [122, 101, 114, 111]
noncomputable def rStar : List Nat := [115, 116, 97, 114]
noncomputable def rFloat : List Nat := [102, 108, 111, 97, 116]
noncomputable def rLead : List Nat := [108, 101, 97, 100]
noncomputable def rInsert : List Nat := [105, 110, 115, 101, 114, 116]
noncomputable def rPoint : List Nat := [112, 111, 105, 110, 116]
noncomputable def rMark : List Nat := [109, 97, 114, 107]
noncomputable def rNone : List Nat := [110, 111, 110, 101]
noncomputable def rFixed : List Nat := [102, 105, 120, 101, 100]
noncomputable def roleS (fl : List Nat) : Tk → List Nat
  | .lead => rLead
  | .loose => if fl = [90] then rZero else if fl = [42] then rStar else rFloat
  | .nine => rFigure | .ins _ => rInsert | .dot => rPoint | .vee => rMark | .pee => rNone | .fix _ => rFixed
noncomputable def roV (fl : List Nat) (t : Tk) : V := .str (roleS fl t)
noncomputable def sgV (fl : List Nat) (t : Tk) : V := .str (sg fl t)
theorem sgV_map (fl : List Nat) (T : List Tk) : T.map (sgV fl) = (T.map (sg fl)).map V.str := by rw [List.map_map]; rfl
theorem roV_map (fl : List Nat) (T : List Tk) : T.map (roV fl) = (T.map (roleS fl)).map V.str := by rw [List.map_map]; rfl
noncomputable def dK (l : List Nat) : List (List Nat × V) := l.foldl (fun kv c => setK [c] (.str rInsert) kv) ([([57], rFigure), ([90], rZero), ([42], rStar), ([46], rPoint), ([86], rMark), ([80], rNone)].map fun p => (p.1, .str p.2))
noncomputable def dR : List (List Nat × V) := dK [66, 48, 47, 44]
theorem setK_len (k : List Nat) (v : V) : ∀ kvs : List (List Nat × V), (setK k v kvs).length ≤ kvs.length + 1
  | [] => Nat.le_refl _
  | (j, u) :: r => by
    rw [setK]
    split
    · simp
    · have := setK_len k v r; simp; exact axe02d92 this
theorem dK_snoc (l : List Nat) (c : Nat) : dK (l ++ [c]) = setK [c] (.str rInsert) (dK l) := by unfold dK; rw [List.foldl_append]; rfl
theorem hasLead (fl : List Nat) (t : Tk) : (roleS fl t == rLead) = match t with | .lead => true | _ => false := by
  cases t with
  | loose => unfold roleS; by_cases h : fl = [90]; · simp only [h]; rfl
             by_cases h' : fl = [42]; · simp only [h']; rfl
             simp only [h, h']; rfl
  | _ => rfl
theorem role_cases {fl fx : List Nat} {l : Bool} {t : Tk} (h : match t with | .lead => isF fl ∧ l = false | .loose => isZ fl ∨ isF fl ∧ l = true | .ins c => okc c | .fix s => okfix s ∧ (isF fl → s ≠ fl) | _ => True) (hx : Flo fl fx) :
    (sg fl t = fx ∧ (if l = true then rFloat else rLead) = roleS fl t) ∨ (sg fl t ≠ fx ∧ (getK (sg fl t) dR).getD (.str rFixed) = roV fl t) := by
  have nofx : ∀ s : List Nat, s ≠ [] → (isF fl → s ≠ fl) → s ≠ fx := fun s h1 h2 q => by
    subst q
    by_cases f : isF fl
    · exact h2 f (hx.1 f)
    · exact h1 (hx.2 f)
  have lit : ∀ s : List Nat, s ≠ [] → ¬ isF s → s ≠ fx := fun s h1 h2 => nofx s h1 fun f e => h2 (e ▸ f)
  cases t with
  | lead => exact .inl ⟨(hx.1 h.1).symm, by rw [h.2]; rfl⟩
  | loose =>
    rcases h with h | ⟨h, e⟩
    · refine .inr ⟨nofx _ (by rcases h with rfl | rfl <;> decide) (fun f => (not_ZF h f).elim), ?_⟩
      rcases h with rfl | rfl <;> rfl
    · refine .inl ⟨(hx.1 h).symm, ?_⟩
      rw [e]
      rcases h with rfl | rfl | rfl <;> rfl
  | nine => exact .inr ⟨lit [57] (by decide) (by unfold isF; decide), rfl⟩
  | dot => exact .inr ⟨lit [46] (by decide) (by unfold isF; decide), rfl⟩
  | vee => exact .inr ⟨lit [86] (by decide) (by unfold isF; decide), rfl⟩
  | pee => exact .inr ⟨lit [80] (by decide) (by unfold isF; decide), rfl⟩
  | ins c => rcases h with rfl | rfl | rfl | rfl <;> exact .inr ⟨lit [_] (by decide) (by unfold isF; decide), rfl⟩
  | fix s => exact .inr ⟨nofx s (by rcases h.1 with rfl | rfl | rfl | rfl | rfl <;> decide) h.2, by rcases h.1 with rfl | rfl | rfl | rfl | rfl <;> rfl⟩
inductive RolD (H : Hp) (t D : Nat) : List V → Rho → Hp → Prop
  | mk (a b : List Nat) (x : Option V) (H' : Hp) (e : [66, 48, 47, 44] = a ++ b) (g : H'[D]? = some (.dict (dK a))) (hl : (dK a).length ≤ 6 + a.length) (X : Lx [] H H') : RolD H t D (b.map fun c => .str [c]) [some (.ref t), some (.ref D), x, none, none] H'
inductive RolI (H : Hp) (fl : List Nat) (T : List Tk) (t D F : Nat) (fx : List Nat) : List V → Rho → Hp → Prop
  | mk (a b : List Tk) (l : Bool) (x : Option V) (K' : Hp) (e : T = a ++ b) (gd : Good fl l b) (al : (a.map (roleS fl)).any (· == rLead) = l) (gK : K'[D]? = some (.dict dR)) (gR : K'[F]? = some (.list ((a.map (roleS fl)).map V.str))) (X : Lx [] H K') :
    RolI H fl T t D F fx (b.map (sgV fl)) [some (.ref t), some (.ref D), x, some (.str fx), some (.ref F)] K'
theorem roles_ok {H : Hp} {t : Nat} {fl : List Nat} {T : List Tk} {K : KV} (ht : H[t]? = some (.list (T.map (sgV fl)))) (hg : Good fl false T) (hfl : fl = [] ∨ isZ fl ∨ isF fl) (hl : T.length ≤ 30) (hge : isF fl → 2 ≤ cnt fl (T.map (sg fl))) (hle : ∀ c, isF c → fl ≠ c → cnt c (T.map (sg fl)) ≤ 1)
    (kk : ∀ R H', H'[R]? = some (.list (T.map (roV fl))) → Lx [] H H' → H.length ≤ R → K (.ref R) H') : callAt F_roles_of [.ref t] H K := by
  refine ⟨new_at' fun D H1 gD X1 l1 => ⟨⟨rfl, for_go ([66, 48, 47, 44].map fun c => .str [c]) (RolD H t D) ⟨[], _, none, H1, rfl, gD, by decide, X1⟩ (fun _ _ _ _ => has_items) ?_ ?_⟩⟩⟩
  · intro v r ρ H' G go h
    generalize hv : v :: r = vr at h
    obtain ⟨a, b, x, _, e, g, hl, X⟩ := h
    cases b with
    | nil => cases hv
    | cons c b =>
    cases hv
    have la : a.length + (b.length + 1) = 4 := by have := congrArg List.length e; simpa using this.symm
    refine at_dict g ⟨by exact ax1fc8b8 hl la, put_at g fun H2 g2 X2 => go _ _ ⟨a ++ [c], b, _, H2, by rw [e]; simp, by rw [dK_snoc]; exact g2, ?_, Lx.fresh X X2 (by simp; exact axcb450d l1)⟩⟩
    have := setK_len [c] (.str rInsert) (dK a)
    rw [dK_snoc, List.length_append]; show _ ≤ 6 + (a.length + 1); exact ax4f0178 hl this
  · intro ρ H' h
    generalize hv : ([] : List V) = vr at h
    obtain ⟨a, b, x, _, e, g, _, X⟩ := h
    cases b with
    | cons => cases hv
    | nil =>
    rw [List.append_nil] at e
    subst e
    have ht' := X.at0 ht
    rw [sgV_map] at ht'
    refine floating_ok ht' hge hle fun fx hx => new_at' fun F H2 gF XF m1 => ?_
    have gD2 := XF.at0 g
    have hDF : D ≠ F := fun q => by subst q; rw [gD2] at gF; cases gF
    have hlF : H.length ≤ F := by have := X.len; exact axcb5e9d m1 this
    refine ⟨at_list (XF.at0 (X.at0 ht)) (for_go (T.map (sgV fl)) (RolI H fl T t D F fx) ⟨[], T, false, _, H2, rfl, hg, rfl, gD2, gF, X.trans XF⟩ (fun r ρ H' h => by cases h with | mk _ _ _ _ _ _ _ _ _ _ XK => exact has_list (XK.at0 ht)) ?_ ?_)⟩
    · intro v r ρ H' G go h
      generalize hv : v :: r = vr at h
      obtain ⟨a, b, l, x, _, e, gd, al, gK, gR, XK⟩ := h
      cases b with
      | nil => cases hv
      | cons tk b =>
      cases hv
      have cl : T.length = a.length + (b.length + 1) := by rw [e]; simp
      have bl : ((a.map (roleS fl)).map V.str).length ≤ lenMax := by rw [List.length_map, List.length_map]; exact len30 (by exact axba9f05 hl cl)
      have fin : ∀ (s : List Nat), s = roleS fl tk → ∀ K' : Hp, K'[F]? = some (.list ((a.map (roleS fl)).map V.str ++ [.str s])) → Lx [F] H' K' → G [some (V.ref t), some (.ref D), some (sgV fl tk), some (.str fx), some (.ref F)] K' := fun s hs K' g1 X1 => by
        subst hs
        refine go _ _ ⟨a ++ [tk], b, _, _, K', by rw [e]; simp, gd.2, ?_, X1.at1 hDF gK, by rw [g1, List.map_append, List.map_append]; rfl, Lx.fresh XK X1 (by simp; exact axcb450d hlF)⟩
        rw [List.map_append, List.any_append, al]
        show (l || ((roleS fl tk == rLead) || false)) = _
        rw [hasLead]
        cases tk <;> cases l <;> rfl
      rcases role_cases gd.1 hx with ⟨h1, h2⟩ | ⟨h1, h2⟩
      · refine eq_t h1 (at_list gR (at_list gR (on_some (strs_map _) ?_)))
        cases l with
        | true => exact if_t al (at_list gR ⟨bl, put_at gR (fin _ h2)⟩)
        | false => exact if_f al (at_list gR ⟨bl, put_at gR (fin _ h2)⟩)
      · refine eq_f h1 (at_list gR (at_dict gK (at_dict gK (at_list gR ⟨bl, put_at gR fun K' g1 X1 => fin _ rfl K' ?_ X1⟩))))
        rw [show V.str (roleS fl tk) = (getK (sg fl tk) dR).getD (.str rFixed) from h2.symm]; exact g1
    · intro ρ H' h
      generalize hv : ([] : List V) = vr at h
      obtain ⟨a, b, l, x, _, e, gd, al, gK, gR, XK⟩ := h
      cases b with
      | cons => cases hv
      | nil =>
      rw [List.append_nil] at e
      subst e
      exact kk F _ (by rw [gR, roV_map]) XK hlF
noncomputable def FloL (fl : List Nat) (fs : List (List Nat)) : Prop := (isF fl → fs = [fl]) ∧ (¬ isF fl → fs = [])
noncomputable def flC (ss : List (List Nat)) : V → Bool
  | .str s => decide (1 < cnt s ss)
  | _ => false
theorem flo_list {fl : List Nat} {ss : List (List Nat)} (hge : isF fl → 2 ≤ cnt fl ss) (hle : ∀ c, isF c → fl ≠ c → cnt c ss ≤ 1) :
    ∃ fs, (([V.str [36], .str [43], .str [45]].filter (flC ss)).map id) = fs.map V.str ∧ FloL fl fs := by
  have no : ∀ c, isF c → fl ≠ c → flC ss (.str c) = false := fun c hc hn => decide_eq_false (by have := hle c hc hn; exact (fun q => (axed617f this q)))
  by_cases h : isF fl
  · have yes : flC ss (.str fl) = true := decide_eq_true (by have := hge h; exact axdbfddb this)
    refine ⟨[fl], ?_, fun _ => rfl, fun q => absurd h q⟩
    rcases h with rfl | rfl | rfl
    · rw [List.filter_cons, yes, List.filter_cons, no [43] (by simp [isF]) (by decide), List.filter_cons, no [45] (by simp [isF]) (by decide)]; rfl
    · rw [List.filter_cons, no [36] (by simp [isF]) (by decide), List.filter_cons, yes, List.filter_cons, no [45] (by simp [isF]) (by decide)]; rfl
    · rw [List.filter_cons, no [36] (by simp [isF]) (by decide), List.filter_cons, no [43] (by simp [isF]) (by decide), List.filter_cons, yes]; rfl
  · refine ⟨[], ?_, fun q => absurd q h, fun _ => rfl⟩
    have n : ∀ c, isF c → fl ≠ c := fun c hc e => h (e ▸ hc)
    rw [List.filter_cons, no [36] (by simp [isF]) (n _ (by simp [isF])), List.filter_cons, no [43] (by simp [isF]) (n _ (by simp [isF])), List.filter_cons, no [45] (by simp [isF]) (n _ (by simp [isF]))]; rfl
noncomputable def spotsFrom : Nat → List Tk → List V
  | _, [] => []
  | k, t :: r => (if pt t = true then [V.int (k : Nat)] else []) ++ spotsFrom (k + 1) r
noncomputable def ptC : V → Bool
  | .tup [_, .str s] => [[46], [86]].any (· == s)
  | _ => false
noncomputable def fst2 : V → V
  | .tup [a, _] => a
  | v => v
noncomputable def ldB (b : Bool) : Tk → Bool
  | .lead => true
  | _ => b
noncomputable def headOk (fl : List Nat) (b : Bool) (t : Tk) : Prop := match t with
  | .lead => isF fl ∧ b = false
  | .loose => isZ fl ∨ isF fl ∧ b = true
  | .ins c => okc c
  | .fix s => okfix s ∧ (isF fl → s ≠ fl)
  | _ => True
theorem good_head {fl : List Nat} {b : Bool} {t : Tk} {r : List Tk} (h : Good fl b (t :: r)) : headOk fl b t ∧ Good fl (ldB b t) r := by cases t <;> exact h
theorem isPt {fl : List Nat} {b : Bool} {t : Tk} (h : headOk fl b t) : [[46], [86]].any (· == sg fl t) = pt t := by
  cases t with
  | lead => rcases h.1 with rfl | rfl | rfl <;> rfl
  | loose => rcases h with (rfl | rfl) | ⟨rfl | rfl | rfl, _⟩ <;> rfl
  | ins c => rcases h with rfl | rfl | rfl | rfl <;> rfl
  | fix s => rcases h.1 with rfl | rfl | rfl | rfl | rfl <;> rfl
  | _ => rfl
theorem isPee {fl : List Nat} {b : Bool} {t : Tk} (h : headOk fl b t) : (if sg fl t = [80] then 1 else 0) = pp t := by
  cases t with
  | lead => rcases h.1 with rfl | rfl | rfl <;> rfl
  | loose => rcases h with (rfl | rfl) | ⟨rfl | rfl | rfl, _⟩ <;> rfl
  | ins c => rcases h with rfl | rfl | rfl | rfl <;> rfl
  | fix s => rcases h.1 with rfl | rfl | rfl | rfl | rfl <;> rfl
  | _ => rfl
theorem spots_eq {fl : List Nat} : ∀ (T : List Tk) (b : Bool) (k : Nat), Good fl b T → (((T.map (sgV fl)).mapIdx fun j v => V.tup [.int ((k + j : Nat) : Int), v]).filter ptC).map fst2 = spotsFrom k T
  | [], _, _, _ => rfl
  | t :: r, b, k, h => by
    have hh := good_head h
    have ih := spots_eq r _ (k + 1) hh.2
    have e : (fun (j : Nat) v => V.tup [.int ((k + (j + 1) : Nat) : Int), v]) = fun j v => V.tup [.int ((k + 1 + j : Nat) : Int), v] := by
      funext j v; rw [show k + (j + 1) = k + 1 + j by exact ax61e71b]
    rw [List.map_cons, List.mapIdx_cons, List.filter_cons, spotsFrom, e]
    have : ptC (V.tup [.int ((k + 0 : Nat) : Int), sgV fl t]) = pt t := isPt hh.1
    rw [this]
    cases pt t with
    | true => rw [if_pos rfl, if_pos rfl, List.map_cons, ih]; rfl
    | false => rw [if_neg (by decide), if_neg (by decide), ih]; rfl
theorem spots_yes : ∀ (a b : List Tk) (k : Nat), a.any pt = true → ∃ m r, spotsFrom k (a ++ b) = V.int (m : Nat) :: r ∧ m < k + a.length
  | [], b, k, h => by cases h
  | t :: a, b, k, h => by
    rw [List.cons_append, spotsFrom]
    cases e : pt t with
    | true => exact ⟨k, spotsFrom (k + 1) (a ++ b), rfl, by simp⟩
    | false =>
      obtain ⟨m, r, q, hm⟩ := spots_yes a b (k + 1) (by rw [List.any_cons, e] at h; exact h)
      exact ⟨m, r, q, by simp; exact ax14198a hm⟩
theorem spots_no : ∀ (a b : List Tk) (k : Nat), a.any pt = false → spotsFrom k (a ++ b) = [] ∨ ∃ m r, spotsFrom k (a ++ b) = V.int (m : Nat) :: r ∧ k + a.length ≤ m
  | [], b, k, _ => by
    have : ∀ (b : List Tk) (k : Nat), spotsFrom k b = [] ∨ ∃ m r, spotsFrom k b = V.int (m : Nat) :: r ∧ k ≤ m := fun b => by
      induction b with
      | nil => intro k; exact .inl rfl
      | cons t b ih =>
        intro k
        rw [spotsFrom]
        cases pt t with
        | true => exact .inr ⟨k, _, rfl, Nat.le_refl _⟩
        | false =>
          rcases ih (k + 1) with h | ⟨m, r, h, hm⟩
          · exact .inl h
          · exact .inr ⟨m, r, h, by exact ax543bd1 hm⟩
    exact this b k
  | t :: a, b, k, h => by
    rw [List.any_cons, Bool.or_eq_false_iff] at h
    rw [List.cons_append, spotsFrom, h.1]
    rcases spots_no a b (k + 1) h.2 with e | ⟨m, r, e, hm⟩
    · exact .inl e
    · exact .inr ⟨m, r, e, by simp; exact ax3c9273 hm⟩
theorem nB_snoc : ∀ (a : List Tk) (t : Tk) (b : Bool), nB b (a ++ [t]) = nB b a + if (b || a.any pt) = true then dg t else 0
  | [], t, b => by simp [nB]
  | x :: a, t, b => by
    rw [List.cons_append, nB, nB, nB_snoc a t, List.any_cons, Bool.or_assoc]; exact ax388755
theorem nD_snoc : ∀ (a : List Tk) (t : Tk), nD (a ++ [t]) = nD a + dg t
  | [], t => by simp [nD]
  | x :: a, t => by rw [List.cons_append, nD, nD, nD_snoc a t]; exact ax388755
theorem cnt_pee {fl : List Nat} : ∀ (T : List Tk) (b : Bool), Good fl b T → cnt [80] (T.map (sg fl)) = nP T
  | [], _, _ => rfl
  | t :: r, b, h => by
    have hh := good_head h
    rw [List.map_cons, cnt_cons, cnt_pee r _ hh.2, nP]
    rw [isPee hh.1]
theorem dig_cases {fl : List Nat} {b : Bool} {t : Tk} {fs seen : List (List Nat)} (h : headOk fl b t) (hf : FloL fl fs) (hs : isF fl → seen.any (· == fl) = b) :
    ([[57], [90], [42]].any (· == sg fl t) = true ∧ dg t = 1) ∨
    ([[57], [90], [42]].any (· == sg fl t) = false ∧ fs.any (· == sg fl t) = true ∧ seen.any (· == sg fl t) = decide (dg t = 1)) ∨
    ([[57], [90], [42]].any (· == sg fl t) = false ∧ fs.any (· == sg fl t) = false ∧ dg t = 0) := by
  have nf : ∀ s, (isF fl → s ≠ fl) → fs.any (· == s) = false := fun s hs => by
    by_cases f : isF fl
    · rw [hf.1 f]; simp [(hs f).symm]
    · rw [hf.2 f]; rfl
  have lit : ∀ s, ¬ isF s → fs.any (· == s) = false := fun s hs => nf s fun f e => hs (e ▸ f)
  have yf : isF fl → fs.any (· == fl) = true := fun f => by rw [hf.1 f]; simp
  have n3 : isF fl → [[57], [90], [42]].any (· == fl) = false := fun f => by rcases f with rfl | rfl | rfl <;> rfl
  cases t with
  | lead => exact .inr (.inl ⟨n3 h.1, yf h.1, by show seen.any (· == fl) = false; rw [hs h.1]; exact h.2⟩)
  | loose =>
    rcases h with h | h
    · exact .inl ⟨by rcases h with rfl | rfl <;> rfl, rfl⟩
    · exact .inr (.inl ⟨n3 h.1, yf h.1, by show seen.any (· == fl) = true; rw [hs h.1]; exact h.2⟩)
  | nine => exact .inl ⟨rfl, rfl⟩
  | ins c => exact .inr (.inr ⟨by rcases h with rfl | rfl | rfl | rfl <;> rfl, lit _ (by rcases h with rfl | rfl | rfl | rfl <;> (unfold isF; simp [sg])), rfl⟩)
  | dot => exact .inr (.inr ⟨rfl, lit [46] (by unfold isF; decide), rfl⟩)
  | vee => exact .inr (.inr ⟨rfl, lit [86] (by unfold isF; decide), rfl⟩)
  | pee => exact .inr (.inr ⟨rfl, lit [80] (by unfold isF; decide), rfl⟩)
  | fix s => exact .inr (.inr ⟨by show [[57], [90], [42]].any (· == s) = false; rcases h.1 with rfl | rfl | rfl | rfl | rfl <;> rfl, nf s h.2, rfl⟩)
theorem seen_next {fl : List Nat} {b : Bool} {t : Tk} {a : List Tk} (h : headOk fl b t) (hs : isF fl → (a.map (sg fl)).any (· == fl) = b) : isF fl → ((a ++ [t]).map (sg fl)).any (· == fl) = ldB b t := fun f => by
  rw [List.map_append, List.any_append, hs f]
  have lit : ∀ s, ¬ isF s → (s == fl) = false := fun s q => beq_eq_false_iff_ne.2 fun e => q (e ▸ f)
  show (b || ((sg fl t == fl) || false)) = _
  cases t with
  | lead => show (b || ((fl == fl) || false)) = true; simp
  | loose =>
    rcases h with h | h
    · exact (not_ZF h f).elim
    · rw [h.2]; exact Bool.true_or _
  | nine => rw [show (sg fl .nine == fl) = false from lit [57] (by unfold isF; decide)]; cases b <;> rfl
  | ins c => rw [show (sg fl (.ins c) == fl) = false from lit [c] (by rcases h with rfl | rfl | rfl | rfl <;> (unfold isF; decide))]; cases b <;> rfl
  | dot => rw [show (sg fl .dot == fl) = false from lit [46] (by unfold isF; decide)]; cases b <;> rfl
  | vee => rw [show (sg fl .vee == fl) = false from lit [86] (by unfold isF; decide)]; cases b <;> rfl
  | pee => rw [show (sg fl .pee == fl) = false from lit [80] (by unfold isF; decide)]; cases b <;> rfl
  | fix s => rw [show (sg fl (.fix s) == fl) = false from beq_eq_false_iff_ne.2 (h.2 f)]; cases b <;> rfl
noncomputable def cutN (u s : Nat) (bp : Int) : Nat := u * 10 ^ (if bp < 0 then 0 else bp).toNat / 10 ^ ((s : Int) + (if 0 - bp < 0 then 0 else 0 - bp)).toNat
theorem cutN_units {w u : Int} {m s : Nat} {bp : Int} (h : m ≤ s) (e : u = w * 10 ^ (s - m)) : cutN u.natAbs s bp = unitsN w.natAbs m bp := by
  have eu : u.natAbs = w.natAbs * 10 ^ (s - m) := by rw [e, Int.natAbs_mul, Int.natAbs_pow]; rfl
  have p10 : ∀ k : Nat, 0 < 10 ^ k := fun k => Nat.pow_pos (by decide)
  have key : ∀ x y k : Nat, x * 10 ^ k / (10 ^ k * y) = x / y := fun x y k => by rw [Nat.mul_comm x, Nat.mul_div_mul_left _ _ (p10 _)]
  unfold cutN unitsN
  rw [eu]
  by_cases h1 : bp < 0
  · rw [if_pos h1, if_neg (by exact (fun q => (axd8ffa9 h1 q))), if_neg (by exact (fun q => (ax2b0449 h1 q))), show ((s : Int) + (0 - bp)).toNat = (s - m) + ((m : Int) - bp).toNat by omega, Nat.pow_add, show Int.toNat 0 = 0 from rfl, Nat.pow_zero, Nat.mul_one, key]
  · have e0 : (if 0 - bp < 0 then (0 : Int) else 0 - bp) = 0 := by split <;> (first | exact axc9c108 | omega)
    rw [if_neg h1, e0, show ((s : Int) + 0).toNat = (s - m) + m by omega, Nat.pow_add, Nat.mul_right_comm, key]
    by_cases h2 : (m : Int) ≤ bp
    · rw [if_pos h2, show bp.toNat = (bp - m).toNat + m by omega, Nat.pow_add, ← Nat.mul_assoc, Nat.mul_div_cancel _ (p10 _)]
    · rw [if_neg h2]
      generalize hk : ((m : Int) - bp).toNat = k
      rw [show m = bp.toNat + k by omega, Nat.pow_add, key]
noncomputable def B_cut2 : SX := sSeq (sExpr (eBM 1 fAppend (eLoc 7) (lCons (eLoc 9) (lNil)))) (sSeq (sSet 6 (eOp2 vAdd (eLoc 6) (eIf (tVal (eLoc 10)) (eCon (.int 1)) (eCon (.int 0))))) (sSeq (sSet 5 (eOp2 vAdd (eLoc 5) (eIf (tAnd (tVal (eLoc 10)) (tAnd (tCmp vNe (eLoc 3) (eLst (lNil))) (tAnd (tCmp vGt (eLoc 8) (eOp2 vIdx (eLoc 3) (eCon (.int 0)))) (tTrue)))) (eCon (.int 1)) (eCon (.int 0))))) (sNil)))
noncomputable def B_cut3 : SX := sSeq (sSet 11 (eOp2 vMod (eOp2 vDiv (eOp2 vMul (eFun fAbs (lCons (eLoc 1) (lNil))) (eOp2 vPow (eCon (.int 10)) (eFun fMax (lCons (eLoc 5) (lCons (eCon (.int 0)) (lNil)))))) (eOp2 vPow (eCon (.int 10)) (eOp2 vAdd (eLoc 2) (eFun fMax (lCons (eOp2 vSub (eCon (.int 0)) (eLoc 5)) (lCons (eCon (.int 0)) (lNil))))))) (eOp2 vPow (eCon (.int 10)) (eLoc 6)))) (sSeq (sRet (eTup (lCons (eIf (tCmp vLt (eLoc 1) (eCon (.int 0))) (eOp2 vSub (eCon (.int 0)) (eLoc 11)) (eLoc 11)) (lCons (eLoc 5) (lCons (eLoc 6) (lNil)))))) (sNil))
inductive CutI (H : Hp) (fl : List Nat) (T : List Tk) (fs : List (List Nat)) (t sp ft S : Nat) (u s : Int) : List V → Rho → Hp → Prop
  | mk (a b : List Tk) (l : Bool) (x y z : Option V) (p q : Int) (H' : Hp) (r : List V) (e : T = a ++ b) (er : r = (b.map (sgV fl)).mapIdx (fun j v => V.tup [.int ((a.length + j : Nat) : Int), v])) (gd : Good fl l b) (hsn : isF fl → (a.map (sg fl)).any (· == fl) = l) (hp : p = (nB false a : Nat)) (hq : q = (nD a : Nat))
    (gK : H'[S]? = some (.list ((a.map (sg fl)).map V.str))) (gsp : H'[sp]? = some (.list (spotsFrom 0 T))) (gft : H'[ft]? = some (.list (fs.map V.str))) (X : Lx [] H H') :
    CutI H fl T fs t sp ft S u s r [some (.ref t), some (.int u), some (.int s), some (.ref sp), some (.ref ft), some (.int p), some (.int q), some (.ref S), x, y, z, none] H'
theorem mapIdx_shift (fl : List Nat) (t : Tk) (b : List Tk) (k : Nat) : (((t :: b).map (sgV fl)).mapIdx fun j v => V.tup [.int ((k + j : Nat) : Int), v]) = V.tup [.int (k : Nat), sgV fl t] :: ((b.map (sgV fl)).mapIdx fun j v => V.tup [.int ((k + 1 + j : Nat) : Int), v]) := by
  rw [List.map_cons, List.mapIdx_cons]
  congr 1
  congr 1
  funext j v; rw [show k + (j + 1) = k + 1 + j by exact ax61e71b]
theorem law_cut_ok {H : Hp} {t : Nat} {fl : List Nat} {T : List Tk} {u : Int} {s : Nat} {K : KV} (ht : H[t]? = some (.list (T.map (sgV fl)))) (hg : Good fl false T) (hl : T.length ≤ 30) (hge : isF fl → 2 ≤ cnt fl (T.map (sg fl))) (hle : ∀ c, isF c → fl ≠ c → cnt c (T.map (sg fl)) ≤ 1)
    (hu : u.natAbs < 1152921504606846976) (hs : s < 20) (hB : nB false T ≤ 18) (hP : nP T ≤ 18) (hD : nD T ≤ 18)
    (kk : ∀ (U : Nat) (x : Int) H', U = cutN u.natAbs s ((nB false T : Nat) - (nP T : Nat)) % 10 ^ nD T → x = (if u < 0 then -(U : Int) else U) → Lx [] H H' → K (.tup [.int x, .int ((nB false T : Nat) - (nP T : Nat)), .int (nD T : Nat)]) H') : callAt F_law_cut [.ref t, .int u, .int s] H K := by
  have e0 : (fun (j : Nat) v => V.tup [.int (j : Nat), v]) = fun j v => V.tup [.int ((0 + j : Nat) : Int), v] := by funext j v; rw [Nat.zero_add]
  have hlen : ((T.map (sgV fl)).mapIdx fun j v => V.tup [.int (j : Nat), v]).length ≤ lenMax := by rw [List.length_mapIdx, List.length_map]; exact len30 hl
  refine ⟨⟨at_list ht (comp_go _ ptC fst2 hlen (fun H' X => has_enum (X.at0 ht)) (fun v hv H' G₁ G₀ X h1 h0 => ?_) fun H0 X0 => new_at' fun sp H1 gsp X1 b1 => ⟨comp_go [.str [36], .str [43], .str [45]] (flC (T.map (sg fl))) id (show 3 ≤ lenMax by decide) (fun H' X => has_items) (fun v hv H' G₁ G₀ X h1 h0 => ?_)
    fun H2 X2 => new_at' fun ft H3 gft X3 b3 => new_at' fun S H4 gS X4 b4 => ?_⟩)⟩⟩
  · obtain ⟨j, hj, rfl⟩ := List.mem_mapIdx.1 hv
    obtain ⟨w, hw⟩ : ∃ w, (T.map (sgV fl))[j] = .str w := ⟨_, by rw [List.getElem_map]; rfl⟩
    rw [hw] at h1 h0 ⊢
    exact if_b (fun h => h1 h _ X) fun h => h0 h _ X
  · have ht' := X.at0 (X1.at0 (X0.at0 ht))
    rw [sgV_map] at ht'
    obtain ⟨c, rfl⟩ : ∃ c, v = .str c := by simp at hv; rcases hv with rfl | rfl | rfl <;> exact ⟨_, rfl⟩
    exact at_list ht' (at_list ht' ⟨_, strs_map _, if_d (fun h => h1 (decide_eq_true (Int.ofNat_lt.1 h)) _ X) fun h => h0 (decide_eq_false fun q => h (Int.ofNat_lt.2 q)) _ X⟩)
  rw [e0, spots_eq T false 0 hg] at gsp
  obtain ⟨fs, efs, hfs⟩ := flo_list hge hle
  rw [efs] at gft
  have gsp3 := X4.at0 (X3.at0 (X2.at0 gsp))
  have gft3 := X4.at0 gft
  have X01 := X0.trans X1
  have X03 := ((X01.trans X2).trans X3).trans X4
  have lS : H.length ≤ S := Nat.le_trans ((X01.trans X2).trans X3).len b4
  have hsS : sp ≠ S := fun q => by have := get_lt (X3.at0 (X2.at0 gsp)); exact ax89a702 b4 q this
  have hfS : ft ≠ S := fun q => by have := get_lt gft; exact ax89a702 b4 q this
  refine ⟨at_list (X03.at0 ht) (for_go ((T.map (sgV fl)).mapIdx fun j v => V.tup [.int (j : Nat), v]) (CutI H fl T fs t sp ft S u s) ⟨[], T, false, none, none, none, 0, 0, H4, _, rfl, by rw [e0]; rfl, hg, fun _ => rfl, rfl, rfl, gS, gsp3, gft3, X03⟩
    (fun r ρ H' h => by cases h with | mk _ _ _ _ _ _ _ _ _ _ _ _ _ _ _ _ _ _ _ X => exact has_enum (X.at0 ht)) ?_ ?_)⟩
  · intro v r ρ H' G go h
    generalize hv : v :: r = vr at h
    obtain ⟨a, b, l, x, y, z, p, q, _, _, e, er, gd, hsn, hp, hq, gK, gspK, gftK, X⟩ := h
    subst hv
    cases b with
    | nil => cases er
    | cons tk b =>
    rw [mapIdx_shift] at er
    cases er
    have hh := good_head gd
    have cl : T.length = a.length + (b.length + 1) := by rw [e]; simp
    have nBe := nB_snoc a tk false
    have nDe := nD_snoc a tk
    have bl : ((a.map (sg fl)).map V.str).length ≤ lenMax := by rw [List.length_map, List.length_map]; exact len30 (by exact axba9f05 hl cl)
    have fin : ∀ (K' : Hp) (x y z : Option V) (p q : Int), p = (nB false (a ++ [tk]) : Nat) → q = (nD (a ++ [tk]) : Nat) → K'[S]? = some (.list ((a.map (sg fl)).map V.str ++ [V.str (sg fl tk)])) → K'[sp]? = some (.list (spotsFrom 0 T)) → K'[ft]? = some (.list (fs.map V.str)) → Lx [] H K' →
        G [some (.ref t), some (.int u), some (.int s), some (.ref sp), some (.ref ft), some (.int p), some (.int q), some (.ref S), x, y, z, none] K' := fun K' x y z p q hp hq g1 g2 g3 X1 => by
      refine go _ _ ⟨a ++ [tk], b, _, x, y, z, p, q, K', _, by rw [e]; simp, ?_, hh.2, seen_next hh.1 hsn, hp, hq, by rw [g1, List.map_append, List.map_append]; rfl, g2, g3, X1⟩
      rw [List.length_append]; rfl
    have rest : ∀ c : Bool, c = decide (dg tk = 1) → B_cut2 [some (.ref t), some (.int u), some (.int s), some (.ref sp), some (.ref ft), some (.int p), some (.int q), some (.ref S), some (.int (a.length : Nat)), some (.str (sg fl tk)), some (.bool c), none] H' G K := fun c hc => by
      refine at_list gK (at_list gK ⟨bl, put_at gK fun K1 g1 X1 => ?_⟩)
      have XS := Lx.fresh X X1 (by simp; exact axcb450d lS)
      have gsp1 := X1.at1 hsS gspK
      have gft1 := X1.at1 hfS gftK
      cases c with
      | false =>
        have hd := of_decide_eq_false hc.symm
        have d0 : dg tk = 0 := by cases tk <;> first | rfl | exact absurd rfl hd
        rw [d0] at nBe nDe
        exact fin K1 _ _ _ _ _ (by rw [nBe, hp]; split <;> simp) (by rw [nDe, hq]; simp) g1 gsp1 gft1 XS
      | true =>
        rw [of_decide_eq_true hc.symm] at nBe nDe
        refine new_at' fun E K2 gE XE lE => at_list (XE.at0 gsp1) (at_list gE ⟨rfl, ?_⟩)
        have gsp2 := XE.at0 gsp1
        have out : ∀ d : Int, d = (if (false || a.any pt) = true then 1 else 0 : Nat) → G [some (.ref t), some (.int u), some (.int s), some (.ref sp), some (.ref ft), some (.int (p + d)), some (.int (q + 1)), some (.ref S), some (.int (a.length : Nat)), some (.str (sg fl tk)), some (.bool true), none] K2 := fun d hd =>
          fin K2 _ _ _ _ _ (by rw [nBe, hp, hd]; rfl) (by rw [nDe, hq]; rfl) (XE.at0 g1) gsp2 (XE.at0 gft1) (XS.trans XE)
        cases hpt : a.any pt with
        | true =>
          rw [hpt] at out
          obtain ⟨m, r', hm, lm⟩ := spots_yes a (tk :: b) 0 hpt
          rw [← e] at hm
          rw [hm] at gsp2 ⊢
          exact at_list gsp2 (lt_t (by exact Int.ofNat_lt.2 (by exact ax156742 lm)) (out 1 rfl))
        | false =>
          rw [hpt] at out
          rcases spots_no a (tk :: b) 0 hpt with hm | ⟨m, r', hm, lm⟩
          · rw [← e] at hm
            rw [hm]
            exact out 0 rfl
          · rw [← e] at hm
            rw [hm] at gsp2 ⊢
            exact at_list gsp2 (lt_f (by exact Int.ofNat_le.2 (by exact axdd06ae lm)) (out 0 rfl))
    rcases dig_cases (seen := a.map (sg fl)) hh.1 hfs hsn with ⟨h1, h2⟩ | ⟨h1, h2, h3⟩ | ⟨h1, h2, h3⟩
    · exact if_t h1 (rest true (by rw [h2]; rfl))
    · exact if_f h1 (at_list gftK (on_some (strs_map _) (if_t h2 (at_list gK (on_some (strs_map _) (rest _ h3))))))
    · exact if_f h1 (at_list gftK (on_some (strs_map _) (if_f h2 (rest false (by rw [h3]; rfl)))))
  · intro ρ H' h
    generalize hv : ([] : List V) = vr at h
    obtain ⟨a, b, l, x, y, z, p, q, _, _, e, er, gd, hsn, hp, hq, gK, gspK, gftK, X⟩ := h
    subst hv
    cases b with
    | cons => rw [mapIdx_shift] at er; cases er
    | nil =>
    rw [List.append_nil] at e
    subst e
    have ht' := X.at0 ht
    rw [sgV_map] at ht'
    have tail : ∀ bp : Int, bp = (nB false T : Nat) - (nP T : Nat) → B_cut3 [some (.ref t), some (.int u), some (.int s), some (.ref sp), some (.ref ft), some (.int bp), some (.int q), some (.ref S), x, y, z, none] H' (fun _ H => K .none H) K := fun bp hbp => by
      subst hq
      rw [← hbp] at kk
      have pz : ∀ k : Nat, (10 : Int) ^ k ≠ 0 := fun k => Int.ne_of_gt (Int.pow_pos (by decide))
      have b1 : bp ≤ 18 := by exact ax867eef hB hbp
      have b2 : 0 - bp ≤ 18 := by exact ax25b831 hP hbp
      have b3 : (s : Int) + (if 0 > 0 - bp then 0 else 0 - bp) ≤ 38 := Int.add_le_add (Int.ofNat_le.2 (Nat.le_of_lt hs)) (clipk (by decide) b2)
      refine ⟨by decide, clip0, clipk (by decide) (Int.le_trans b1 (by decide)), by rw [abs_nat, Int.natAbs_natCast]; exact hu, by decide, Int.add_nonneg (Int.natCast_nonneg _) clip0, Int.le_trans b3 (by decide), by rw [Int.natAbs_pow]; exact pow_lt (Int.toNat_le.2 (Int.le_trans b3 (by decide))), pz _, by decide, axb956d2, ax308d29 hD, pz _, ?_⟩
      have hU : (((if u < 0 then -u else u) * 10 ^ (if 0 > bp then 0 else bp).toNat).fdiv (10 ^ ((s : Int) + if 0 > 0 - bp then 0 else 0 - bp).toNat)).fmod (10 ^ ((nD T : Nat) : Int).toNat) = ((cutN u.natAbs s bp % 10 ^ nD T : Nat) : Int) := by
        rw [abs_nat, ← nat_fmod, cutN, ← nat_fdiv]; simp
      rw [hU]
      exact if_d (fun h0 => kk _ _ _ rfl (by rw [if_pos h0]; exact Int.zero_sub _) X) fun h0 => kk _ _ _ rfl (by rw [if_neg h0]) X
    exact at_list ht' (at_list ht' ⟨_, strs_map _, tail _ (by rw [hp]; exact congrArg (fun n : Nat => (nB false T : Int) - n) (cnt_pee T false hg))⟩)
noncomputable def insT (c : Nat) : List Nat := if c = 66 then [32] else [c]
noncomputable def signT (s : List Nat) (neg : Bool) : List Nat := if s = [43] then (if neg = true then [45] else [43]) else if s = [45] then (if neg = true then [45] else [32]) else if s = [67, 82] ∨ s = [68, 66] then (if neg = true then s else [32, 32]) else s
theorem sign_text_ok {H : Hp} {s : List Nat} {neg : Bool} {K : KV} (kk : K (.str (signT s neg)) H) : callAt F_sign_text [.str s, .bool neg] H K := by
  unfold signT at kk
  by_cases h1 : s = [43]
  · rw [if_pos h1] at kk
    exact ⟨eq_t h1 (by cases neg <;> exact kk)⟩
  rw [if_neg h1] at kk
  by_cases h2 : s = [45]
  · rw [if_pos h2] at kk
    exact ⟨eq_f h1 (eq_t h2 (by cases neg <;> exact kk))⟩
  rw [if_neg h2] at kk
  by_cases h3 : s = [67, 82] ∨ s = [68, 66]
  · rw [if_pos h3] at kk
    refine ⟨eq_f h1 (eq_f h2 (if_t (?_ : ([[67, 82], [68, 66]] : List (List Nat)).any (· == s) = true) ?_))⟩
    · rcases h3 with rfl | rfl <;> rfl
    · cases neg
      · exact ⟨of_decide_eq_true rfl, ⟨by decide, by decide⟩, kk⟩
      · exact kk
  · rw [if_neg h3] at kk
    exact ⟨eq_f h1 (eq_f h2 (if_f (show ([[67, 82], [68, 66]] : List (List Nat)).any (· == s) = false by simp only [not_or] at h3; simp [Ne.symm h3.1, Ne.symm h3.2]) kk))⟩
theorem insert_text_ok {H : Hp} {c : Nat} {K : KV} (kk : K (.str (insT c)) H) : callAt F_insert_text [.str [c]] H K := by
  unfold insT at kk
  by_cases h : c = 66
  · rw [if_pos h] at kk; exact ⟨eq_t (by rw [h]) kk⟩
  · rw [if_neg h] at kk; exact ⟨eq_f (by simp [h]) kk⟩
theorem supp_ok {H : Hp} {r : List Nat} {K : KV} (kk : K (.bool ([rZero, rStar, rFloat].any (· == r))) H) : callAt F_is_suppressing [.str r] H K := ⟨kk⟩
structure Ly where
  next : Nat
  found : List (List Nat)
  counting : Bool
  begun : Bool
  spot : Int
noncomputable def layL (F : List Nat) (neg : Bool) (fill : List Nat) (f : Nat) (st : Ly) : List (Nat × V) := [(25, .str F), (26, .bool neg), (27, .str fill), (28, .int (st.next : Nat)), (29, .ref f), (30, .bool st.counting), (31, .bool st.begun), (32, .int st.spot)]
structure LyAt (H : Hp) (F : List Nat) (neg : Bool) (fill : List Nat) (a f : Nat) (st : Ly) : Prop where
  lay : H[a]? = some (.inst 411 (layL F neg fill f st))
  fnd : H[f]? = some (.list (st.found.map V.str))
theorem LyAt.ne {H : Hp} {F : List Nat} {neg : Bool} {fill : List Nat} {a f : Nat} {st : Ly} (h : LyAt H F neg fill a f st) : a ≠ f := fun q => by
  have h1 := h.lay
  rw [q, h.fnd] at h1; cases h1
noncomputable def Laid (g : FX) (vs : List V) (H : Hp) (F : List Nat) (neg : Bool) (fill : List Nat) (a f : Nat) (st : Ly) : Prop := ∀ K : KV, (∀ H', LyAt H' F neg fill a f st → Lx [a, f] H H' → K .none H') → callAt g vs H K
noncomputable def supp (fill : List Nat) (st : Ly) : Ly := { st with found := st.found ++ [fill], spot := (st.found.length : Nat) }
noncomputable def putT (x : List Nat) (st : Ly) : Ly := { st with found := st.found ++ [x] }
noncomputable def B_fig3 : SX := sSeq (sIf (tVal (eOp1 (vAttr 411 30) (eLoc 0))) (sSeq (sExpr (eBM 1 fAppend (eOp1 (vAttr 411 29) (eLoc 0)) (lCons (eLoc 2) (lNil)))) (sNil)) (sSeq (sExpr (eMeth0 411 46 F_Layer_suppress (eLoc 0))) (sNil))) (sNil)
noncomputable def B_fig2 : SX := sSeq (sSetAttr 411 30 (eLoc 0) (eOr (eOp1 (vAttr 411 30) (eLoc 0)) (eOr (eBool (tCmp vEq (eLoc 1) (eCon (.str [102, 105, 103, 117, 114, 101])))) (eBool (tCmp vNe (eLoc 2) (eCon (.str [48]))))))) B_fig3
noncomputable def figS2 (fill : List Nat) (c : Nat) (s1 : Ly) : Ly := if s1.counting = true then putT [c] s1 else supp fill s1
noncomputable def figSt (F : List Nat) (fill : List Nat) (fb sb : Bool) (st : Ly) : Ly :=
  figS2 fill (F.getD st.next 48) { st with next := st.next + 1, begun := st.begun || sb, counting := st.counting || (fb || !(F.getD st.next 48 == 48)) }
section
variable {H : Hp} {F : List Nat} {neg : Bool} {fill : List Nat} {a f : Nat} {st : Ly}
theorem Lx.w1 {H H' : Hp} (h : Lx [a] H H') : Lx [a, f] H H' := h.weak (by simp)
theorem Lx.w2 {H H' : Hp} (h : Lx [f] H H') : Lx [a, f] H H' := h.weak (by simp)
theorem found_len (hl : st.found.length ≤ 40) : (st.found.map V.str).length ≤ lenMax := by rw [List.length_map]; exact Nat.le_trans hl (by decide)
theorem put_ok {x : List Nat} {H' : Hp} (h : LyAt H F neg fill a f st) (g : H'[f]? = some (.list (st.found.map V.str ++ [V.str x]))) (X : Lx [f] H H') : LyAt H' F neg fill a f (putT x st) :=
  ⟨X.at1 h.ne h.lay, by rw [show (putT x st).found = st.found ++ [x] from rfl, List.map_append]; exact g⟩
theorem suppress_ok (h : LyAt H F neg fill a f st) (hl : st.found.length ≤ 40) : Laid F_Layer_suppress [.ref a] H F neg fill a f (supp fill st) := fun K k =>
  ⟨at_inst h.lay (at_list h.fnd ⟨found_len hl, at_inst h.lay (put_at h.lay fun H1 g1 X1 => have f1 := X1.at1 h.ne.symm h.fnd
    at_inst g1 (at_list f1 (at_inst g1 (at_list f1 ⟨found_len hl, put_at f1 fun H2 g2 X2 => k H2 ⟨X2.at1 h.ne (by rw [List.length_map] at g1; exact g1), by rw [show (supp fill st).found = st.found ++ [fill] from rfl, List.map_append]; exact g2⟩ ((Lx.w1 X1).trans (Lx.w2 X2))⟩))))⟩)⟩
theorem fig3_ok {r : List Nat} {c : Nat} {K : KV} (h : LyAt H F neg fill a f st) (hl : st.found.length ≤ 40) (k : ∀ H', LyAt H' F neg fill a f (figS2 fill c st) → Lx [a, f] H H' → K .none H') : B_fig3 [some (.ref a), some (.str r), some (.str [c])] H (fun _ H => K .none H) K := by
  unfold figS2 at k
  refine at_inst h.lay (if_b (fun q => ?_) fun q => ?_)
  · rw [if_pos q] at k
    exact at_inst h.lay (at_list h.fnd (at_list h.fnd ⟨found_len hl, put_at h.fnd fun H2 g2 X2 => k H2 (put_ok h g2 X2) (Lx.w2 X2)⟩))
  · rw [if_neg (by rw [q]; decide)] at k
    exact at_inst h.lay (suppress_ok h hl _ k)
theorem figure_ok {r : List Nat} {fb sb : Bool} (h : LyAt H F neg fill a f st) (hl : st.found.length ≤ 40) (hF : st.next < F.length) (hF' : F.length ≤ 30) (h1 : (r == rFigure) = fb) (h2 : [rZero, rStar, rFloat].any (· == r) = sb) :
    Laid F_Layer_figure [.ref a, .str r] H F neg fill a f (figSt F fill fb sb st) := fun K k => by
  have gx : F[st.next]? = some (F.getD st.next 48) := by rw [List.getD_eq_getElem?_getD, List.getElem?_eq_getElem hF]; rfl
  have s3 : ∀ (K2 : Hp) (d : Bool), d = (st.counting || (fb || !(F.getD st.next 48 == 48))) → LyAt K2 F neg fill a f { st with next := st.next + 1, begun := st.begun || sb } → Lx [a] H K2 →
      vSetAttr 411 30 (.ref a) (.bool d) K2 fun H4 => B_fig3 [some (.ref a), some (.str r), some (.str [F.getD st.next 48])] H4 (fun _ H => K .none H) K := fun K2 d hd L X => by
    subst hd
    exact at_inst L.lay (put_at L.lay fun K3 g3 X3 => fig3_ok (st := { st with next := st.next + 1, begun := st.begun || sb, counting := st.counting || (fb || !(F.getD st.next 48 == 48)) }) ⟨g3, X3.at1 L.ne.symm L.fnd⟩ hl fun H' L' X' => k H' L' ((Lx.w1 (X.trans X3)).trans X'))
  have s2 : ∀ (K1 : Hp) (b : Bool), b = (st.begun || sb) → LyAt K1 F neg fill a f { st with next := st.next + 1 } → Lx [a] H K1 →
      vSetAttr 411 31 (.ref a) (.bool b) K1 fun H3 => B_fig2 [some (.ref a), some (.str r), some (.str [F.getD st.next 48])] H3 (fun _ H => K .none H) K := fun K1 b hb L X => by
    subst hb
    refine at_inst L.lay (put_at L.lay fun K2 g2 X2 => at_inst g2 ?_)
    have L2 : LyAt K2 F neg fill a f { st with next := st.next + 1, begun := st.begun || sb } := ⟨g2, X2.at1 L.ne.symm L.fnd⟩
    have X' := X.trans X2
    exact if_b (fun q => s3 K2 _ (by rw [show st.counting = true from q]; rfl) L2 X') fun q => if_b (fun q' => s3 K2 _ (by rw [show st.counting = false from q, ← h1, show (r == rFigure) = true from q']; rfl) L2 X')
      fun q' => s3 K2 _ (by rw [show st.counting = false from q, ← h1, show (r == rFigure) = false from q']; simp) L2 X'
  exact ⟨at_inst h.lay (at_inst h.lay (on_some rfl (on_some (pyIdx_nat rfl (Nat.lt_of_lt_of_le hF (Nat.le_trans hF' (by decide)))) (on_some gx (at_inst h.lay (at_inst h.lay (put_at h.lay fun K1 g1 X1 => have L1 : LyAt K1 F neg fill a f { st with next := st.next + 1 } := ⟨g1, X1.at1 h.ne.symm h.fnd⟩
    at_inst g1 (if_b (fun q => s2 K1 _ (by rw [show st.begun = true from q]; rfl) L1 X1) fun q => supp_ok (s2 K1 _ (by rw [show st.begun = false from q]; exact h2) L1 X1)))))))))⟩
end
noncomputable def layStep (F : List Nat) (fill : List Nat) (neg : Bool) (st : Ly) : Tk → Ly
  | .lead => supp fill { st with begun := true }
  | .loose => figSt F fill false true st
  | .nine => figSt F fill true false st
  | .ins c => if st.begun = true ∧ st.counting = false then supp fill st else putT (insT c) st
  | .fix s => putT (signT s neg) st
  | .dot => putT [46] { st with counting := true }
  | .vee => putT [] { st with counting := true }
  | .pee => st
section
variable {H : Hp} {F : List Nat} {neg : Bool} {fill : List Nat} {a f : Nat} {st : Ly}
theorem loose_role {fl : List Nat} : (roleS fl .loose == rFigure) = false ∧ [rZero, rStar, rFloat].any (· == roleS fl .loose) = true := by
  unfold roleS
  by_cases h : fl = [90]
  · simp only [h]; exact ⟨rfl, rfl⟩
  by_cases h' : fl = [42]
  · simp only [h']; exact ⟨rfl, rfl⟩
  simp only [h, h']; exact ⟨rfl, rfl⟩
theorem place_ok {fl : List Nat} {t : Tk} (h : LyAt H F neg fill a f st) (hl : st.found.length ≤ 40) (hF : dg t = 1 → st.next < F.length) (hF' : F.length ≤ 30) :
    Laid F_Layer_place [.ref a, .str (roleS fl t), .str (sg fl t)] H F neg fill a f (layStep F fill neg st t) := fun K k => by
  have cnt : ∀ {x : List Nat} {K1 : Hp}, LyAt K1 F neg fill a f { st with counting := true } → Lx [a] H K1 → (∀ H', LyAt H' F neg fill a f (putT x { st with counting := true }) → Lx [a, f] H H' → K .none H') → atInst K1 a 411 fun fs => onSome (getF 29 fs) fun v => withKind 1 v K1 (fAppend [v, .str x] K1 fun _ H => K .none H) := fun L X k =>
    at_inst L.lay (at_list L.fnd (at_list L.fnd ⟨found_len (st := st) hl, put_at L.fnd fun H2 g2 X2 => k H2 (put_ok L g2 X2) ((Lx.w1 X).trans (Lx.w2 X2))⟩))
  have put : ∀ {x : List Nat}, (∀ H', LyAt H' F neg fill a f (putT x st) → Lx [a, f] H H' → K .none H') → atList H f fun y => y.length ≤ lenMax ∧ putAt H f (.list (y ++ [V.str x])) fun H => K .none H := fun k =>
    at_list h.fnd ⟨found_len hl, put_at h.fnd fun H2 g2 X2 => k H2 (put_ok h g2 X2) (Lx.w2 X2)⟩
  cases t with
  | loose =>
    obtain ⟨r1, r2⟩ := loose_role (fl := fl)
    exact ⟨if_f r1 (supp_ok (if_t r2 (at_inst h.lay (figure_ok h hl (hF rfl) hF' r1 r2 _ k))))⟩
  | nine => exact ⟨at_inst h.lay (figure_ok h hl (hF rfl) hF' (fb := true) (sb := false) rfl rfl _ k)⟩
  | lead => exact ⟨supp_ok (at_inst h.lay (put_at h.lay fun H1 g1 X1 => at_inst g1 (suppress_ok (st := { st with begun := true }) ⟨g1, X1.at1 h.ne.symm h.fnd⟩ hl _ fun H2 L2 X2 => k H2 L2 ((Lx.w1 X1).trans X2))))⟩
  | fix s => exact ⟨supp_ok (at_inst h.lay (at_list h.fnd (at_inst h.lay (sign_text_ok (put k)))))⟩
  | dot => exact ⟨supp_ok (at_inst h.lay (put_at h.lay fun H1 g1 X1 => cnt ⟨g1, X1.at1 h.ne.symm h.fnd⟩ X1 k))⟩
  | vee => exact ⟨supp_ok (at_inst h.lay (put_at h.lay fun H1 g1 X1 => cnt ⟨g1, X1.at1 h.ne.symm h.fnd⟩ X1 k))⟩
  | pee => exact ⟨supp_ok (k H h (.refl ..))⟩
  | ins c =>
    refine ⟨supp_ok (at_inst h.lay (if_b (fun hb => at_inst h.lay (if_b (fun hc => ?_) fun hc => ?_)) fun hb => ?_))⟩
    · have hc : st.counting = false := by cases q : st.counting with | false => rfl | true => rw [show st.counting = true from q] at hc; cases hc
      rw [show layStep F fill neg st (.ins c) = supp fill st from if_pos ⟨hb, hc⟩] at k
      exact at_inst h.lay (suppress_ok h hl _ k)
    · rw [show layStep F fill neg st (.ins c) = putT (insT c) st from if_neg fun q => by rw [show st.counting = false from q.2] at hc; cases hc] at k
      exact at_inst h.lay (at_list h.fnd (insert_text_ok (put k)))
    · rw [show layStep F fill neg st (.ins c) = putT (insT c) st from if_neg fun q => by rw [show st.begun = false from hb] at q; cases q.1] at k
      exact at_inst h.lay (at_list h.fnd (insert_text_ok (put k)))
end
noncomputable def fig (F : List Nat) (k : Nat) : Nat := F.getD k 48
noncomputable def cell (F : List Nat) (neg : Bool) (k : Nat) : Tk → List Nat
  | .lead => [] | .loose => [fig F k] | .nine => [fig F k] | .ins c => insT c | .dot => [46] | .vee => [] | .pee => [] | .fix s => signT s neg
noncomputable def cellsT (F : List Nat) (neg : Bool) : Nat → List Tk → List (List Nat)
  | _, [] => []
  | k, t :: r => cell F neg k t :: cellsT F neg (k + dg t) r
noncomputable def cellP (F : List Nat) (neg : Bool) (k : Nat) : Tk → List (List Nat)
  | .lead => [[]] | .loose => [[fig F k]] | .nine => [[fig F k]] | .ins c => [insT c] | .dot => [[46]] | .vee => [[]] | .pee => [] | .fix s => [signT s neg]
noncomputable def cellsL (F : List Nat) (neg : Bool) : Nat → List Tk → List (List Nat)
  | _, [] => []
  | k, t :: r => cellP F neg k t ++ cellsL F neg (k + dg t) r
theorem cellsL_flat (F : List Nat) (neg : Bool) : ∀ (T : List Tk) (k : Nat), (cellsL F neg k T).flatten = (cellsT F neg k T).flatten
  | [], _ => rfl
  | t :: r, k => by
    rw [cellsL, cellsT, List.flatten_append, cellsL_flat F neg r, List.flatten_cons]
    congr 1
    cases t <;> first | rfl | exact List.append_nil _
noncomputable def hidTk (F : List Nat) (k : Nat) : Tk → Prop
  | .lead => True | .ins _ => True | .loose => fig F k = 48 | _ => False
noncomputable def Hid (F : List Nat) : Nat → List Tk → Prop
  | _, [] => True
  | k, t :: r => hidTk F k t ∧ Hid F (k + dg t) r
noncomputable def tailTk (t : Tk) : Prop := t = .pee ∨ ∃ s, t = .fix s
noncomputable def tailOnly (l : List Tk) : Prop := ∀ t ∈ l, tailTk t
noncomputable def Shape : List Tk → Prop
  | [] => True
  | t :: r => (tailTk t ∧ tailOnly r) ∨ (¬ tailTk t ∧ Shape r)
noncomputable def counts (F : List Nat) (k : Nat) : Tk → Prop
  | .nine => True | .dot => True | .vee => True | .loose => fig F k ≠ 48 | _ => False
theorem split_ok (F : List Nat) : ∀ (R : List Tk) (k : Nat), Shape R → ∃ B C, R = B ++ C ∧ Hid F k B ∧ (C = [] ∨ tailOnly C ∨ ∃ t r, C = t :: r ∧ counts F (k + nD B) t)
  | [], k, _ => ⟨[], [], rfl, trivial, .inl rfl⟩
  | t :: r, k, h => by
    rcases h with ⟨h1, h2⟩ | ⟨h1, h2⟩
    · exact ⟨[], t :: r, rfl, trivial, .inr (.inl fun x m => (List.mem_cons.1 m).elim (fun e => e ▸ h1) (h2 x))⟩
    · have go : hidTk F k t → ∃ B C, t :: r = B ++ C ∧ Hid F k B ∧ (C = [] ∨ tailOnly C ∨ ∃ t r, C = t :: r ∧ counts F (k + nD B) t) := fun q => by
        obtain ⟨B, C, e, hb, hc⟩ := split_ok F r (k + dg t) h2
        refine ⟨t :: B, C, by rw [e]; rfl, ⟨q, hb⟩, ?_⟩
        rw [show k + nD (t :: B) = k + dg t + nD B by rw [nD]; exact ax388755]; exact hc
      cases t with
      | lead => exact go trivial
      | ins c => exact go trivial
      | loose =>
        by_cases q : fig F k = 48
        · exact go q
        · exact ⟨[], .loose :: r, rfl, trivial, .inr (.inr ⟨_, _, rfl, q⟩)⟩
      | nine => exact ⟨[], _, rfl, trivial, .inr (.inr ⟨_, _, rfl, trivial⟩)⟩
      | dot => exact ⟨[], _, rfl, trivial, .inr (.inr ⟨_, _, rfl, trivial⟩)⟩
      | vee => exact ⟨[], _, rfl, trivial, .inr (.inr ⟨_, _, rfl, trivial⟩)⟩
      | pee => exact absurd (.inl rfl) h1
      | fix s => exact absurd (.inr ⟨s, rfl⟩) h1
section
variable {F fill : List Nat} {neg : Bool}
structure Aft (st : Ly) (n : Nat) (fd : List (List Nat)) (sp : Int) : Prop where
  nx : st.next = n
  fd : st.found = fd
  sp : st.spot = sp
theorem fst_cn {fb sb : Bool} {st : Ly} (h : (st.counting || (fb || !(fig F st.next == 48))) = true) : Aft (figSt F fill fb sb st) (st.next + 1) (st.found ++ [[fig F st.next]]) st.spot ∧ (figSt F fill fb sb st).counting = true := by
  unfold figSt figS2 putT
  show Aft (if (st.counting || (fb || !(fig F st.next == 48))) = true then _ else _) _ _ _ ∧ Ly.counting (if (st.counting || (fb || !(fig F st.next == 48))) = true then _ else _) = true
  rw [if_pos h]
  exact ⟨⟨rfl, rfl, rfl⟩, h⟩
theorem fst_hd {fb sb : Bool} {st : Ly} (h : (st.counting || (fb || !(fig F st.next == 48))) = false) : Aft (figSt F fill fb sb st) (st.next + 1) (st.found ++ [fill]) (st.found.length : Nat) ∧ (figSt F fill fb sb st).counting = false ∧ (figSt F fill fb sb st).begun = (st.begun || sb) := by
  unfold figSt figS2 supp
  show Aft (if (st.counting || (fb || !(fig F st.next == 48))) = true then _ else _) _ _ _ ∧ Ly.counting (if (st.counting || (fb || !(fig F st.next == 48))) = true then _ else _) = false ∧ Ly.begun (if (st.counting || (fb || !(fig F st.next == 48))) = true then _ else _) = _
  rw [if_neg (by rw [h]; decide)]
  exact ⟨⟨rfl, rfl, rfl⟩, h, rfl⟩
theorem step_cnt {st : Ly} {t : Tk} (hn : t ≠ .lead) (h : st.counting = true ∨ counts F st.next t) : Aft (layStep F fill neg st t) (st.next + dg t) (st.found ++ cellP F neg st.next t) st.spot ∧ (layStep F fill neg st t).counting = true := by
  cases t with
  | lead => exact absurd rfl hn
  | loose => exact fst_cn (by rcases h with h | h
                              · rw [h]; rfl
                              · have h : fig F st.next ≠ 48 := h
                                have : (fig F st.next == 48) = false := beq_eq_false_iff_ne.2 h
                                rw [this]; cases st.counting <;> rfl)
  | nine => exact fst_cn (by cases st.counting <;> rfl)
  | ins c =>
    have h := h.elim id (fun q => q.elim)
    have e : layStep F fill neg st (.ins c) = putT (insT c) st := if_neg (by rw [h]; simp)
    rw [e]; exact ⟨⟨rfl, rfl, rfl⟩, h⟩
  | dot => exact ⟨⟨rfl, rfl, rfl⟩, rfl⟩
  | vee => exact ⟨⟨rfl, rfl, rfl⟩, rfl⟩
  | pee => exact ⟨⟨rfl, (List.append_nil _).symm, rfl⟩, h.elim id (fun q => q.elim)⟩
  | fix s => exact ⟨⟨rfl, rfl, rfl⟩, h.elim id (fun q => q.elim)⟩
theorem lay_cnt : ∀ (C : List Tk) (st : Ly), st.counting = true → (∀ t ∈ C, t ≠ .lead) → Aft (C.foldl (layStep F fill neg) st) (st.next + nD C) (st.found ++ cellsL F neg st.next C) st.spot
  | [], st, h, _ => ⟨rfl, (List.append_nil _).symm, rfl⟩
  | t :: C, st, h, hn => by
    obtain ⟨a, c⟩ := step_cnt (F := F) (fill := fill) (neg := neg) (hn t (.head _)) (.inl h)
    obtain ⟨e1, e2, e3⟩ := lay_cnt C (layStep F fill neg st t) c fun x m => hn x (.tail _ m)
    rw [List.foldl_cons]
    exact ⟨by rw [e1, a.nx, nD, Nat.add_assoc], by rw [e2, a.nx, a.fd, cellsL, List.append_assoc], by rw [e3, a.sp]⟩
theorem lay_tail : ∀ (C : List Tk) (st : Ly), tailOnly C → Aft (C.foldl (layStep F fill neg) st) st.next (st.found ++ cellsL F neg st.next C) st.spot ∧ (C.foldl (layStep F fill neg) st).counting = st.counting ∧ (C.foldl (layStep F fill neg) st).begun = st.begun ∧ nD C = 0
  | [], st, _ => ⟨⟨rfl, (List.append_nil _).symm, rfl⟩, rfl, rfl, rfl⟩
  | t :: C, st, h => by
    rw [List.foldl_cons]
    rcases h t (.head _) with e | ⟨s, e⟩
    · subst e
      obtain ⟨q, c, b, d⟩ := lay_tail C st fun x m => h x (.tail _ m)
      exact ⟨q, c, b, by rw [nD, d]; rfl⟩
    · subst e
      obtain ⟨q, c, b, d⟩ := lay_tail C (putT (signT s neg) st) fun x m => h x (.tail _ m)
      refine ⟨⟨q.nx, ?_, q.sp⟩, c, b, by rw [nD, d]; rfl⟩
      refine q.fd.trans ?_
      rw [cellsL, ← List.append_assoc]; rfl
theorem lay_hid : ∀ (B : List Tk) (st : Ly), st.counting = false → (st.begun = true ∨ ∀ c, B.head? ≠ some (.ins c)) → Hid F st.next B →
    Aft (B.foldl (layStep F fill neg) st) (st.next + nD B) (st.found ++ List.replicate B.length fill) (if B = [] then st.spot else ((st.found.length + B.length - 1 : Nat) : Int)) ∧ (B.foldl (layStep F fill neg) st).counting = false
  | [], st, h, _, _ => ⟨⟨rfl, (List.append_nil _).symm, rfl⟩, h⟩
  | t :: B, st, h, hb, hh => by
    have step : Aft (layStep F fill neg st t) (st.next + dg t) (st.found ++ [fill]) (st.found.length : Nat) → (layStep F fill neg st t).counting = false → (layStep F fill neg st t).begun = true → Aft ((t :: B).foldl (layStep F fill neg) st) (st.next + nD (t :: B)) (st.found ++ List.replicate (t :: B).length fill) (if t :: B = [] then st.spot else ((st.found.length + (t :: B).length - 1 : Nat) : Int)) ∧ ((t :: B).foldl (layStep F fill neg) st).counting = false := fun a c bg => by
      obtain ⟨⟨e1, e2, e3⟩, c2⟩ := lay_hid B (layStep F fill neg st t) c (.inl bg) (by rw [a.nx]; exact hh.2)
      rw [List.foldl_cons]
      refine ⟨⟨by rw [e1, a.nx, nD, Nat.add_assoc], by rw [e2, a.fd, List.append_assoc, List.length_cons, List.replicate_succ]; rfl, ?_⟩, c2⟩
      rw [e3, if_neg (List.cons_ne_nil t B), a.sp, a.fd]
      by_cases hB : B = []
      · subst hB; rw [if_pos rfl]; rfl
      · rw [if_neg hB, List.length_append, List.length_cons]; show ((st.found.length + 1 + B.length - 1 : Nat) : Int) = ((st.found.length + (B.length + 1) - 1 : Nat) : Int); omega
    cases t with
    | lead => exact step ⟨rfl, rfl, rfl⟩ h rfl
    | loose =>
      have q := fst_hd (F := F) (fill := fill) (fb := false) (sb := true) (st := st) (by rw [h, show fig F st.next = 48 from hh.1]; rfl)
      exact step q.1 q.2.1 (q.2.2.trans (by cases st.begun <;> rfl))
    | ins c =>
      have bg : st.begun = true := hb.elim id fun q => absurd rfl (q c)
      have e : layStep F fill neg st (.ins c) = supp fill st := if_pos ⟨bg, h⟩
      refine step ?_ ?_ ?_ <;> rw [e]
      · exact ⟨rfl, rfl, rfl⟩
      · exact h
      · exact bg
    | nine => exact hh.1.elim
    | dot => exact hh.1.elim
    | vee => exact hh.1.elim
    | pee => exact hh.1.elim
    | fix s => exact hh.1.elim
end
noncomputable def st0 : Ly := ⟨0, [], false, false, -1⟩
theorem fix_tail (pre : List (List Nat)) : tailOnly (pre.map Tk.fix) := fun t m => by
  obtain ⟨s, _, e⟩ := List.mem_map.1 m
  exact .inr ⟨s, e.symm⟩
theorem cellsL_fix (F : List Nat) (neg : Bool) : ∀ (pre : List (List Nat)) (k : Nat), (cellsL F neg k (pre.map Tk.fix)).length = pre.length
  | [], _ => rfl
  | s :: r, k => by rw [List.map_cons, cellsL, List.length_append, cellsL_fix F neg r, List.length_cons]; exact Nat.add_comm _ _
theorem lay_all {F fill : List Nat} {neg : Bool} {pre : List (List Nat)} {B C : List Tk} (hb : ∀ c, B.head? ≠ some (.ins c)) (hh : Hid F 0 B) (hC : C = [] ∨ tailOnly C ∨ ∃ t r, C = t :: r ∧ counts F (0 + nD B) t) (hn : ∀ t ∈ C, t ≠ .lead) :
    ∃ n, Aft ((pre.map Tk.fix ++ (B ++ C)).foldl (layStep F fill neg) st0) n (cellsL F neg 0 (pre.map Tk.fix) ++ (List.replicate B.length fill ++ cellsL F neg (nD B) C)) (if B = [] then -1 else ((pre.length + B.length - 1 : Nat) : Int)) := by
  rw [List.foldl_append, List.foldl_append]
  obtain ⟨a1, c1, b1, _⟩ := lay_tail (F := F) (fill := fill) (neg := neg) (pre.map Tk.fix) st0 (fix_tail pre)
  generalize (pre.map Tk.fix).foldl (layStep F fill neg) st0 = s1 at *
  have f1 : s1.found = cellsL F neg 0 (pre.map Tk.fix) := a1.fd
  obtain ⟨a2, c2⟩ := lay_hid (F := F) (fill := fill) (neg := neg) B s1 c1 (.inr hb) (by rw [a1.nx]; exact hh)
  generalize B.foldl (layStep F fill neg) s1 = s2 at *
  have n2 : s2.next = nD B := by rw [a2.nx, a1.nx]; exact Nat.zero_add _
  have f2 : s2.found = cellsL F neg 0 (pre.map Tk.fix) ++ List.replicate B.length fill := by rw [a2.fd, f1]
  have p2 : s2.spot = if B = [] then -1 else ((pre.length + B.length - 1 : Nat) : Int) := by rw [a2.sp, a1.sp, f1, cellsL_fix]; rfl
  rcases hC with rfl | hC | ⟨t, r, rfl, hc⟩
  · exact ⟨_, rfl, by rw [List.foldl_nil, f2, cellsL, List.append_nil], p2⟩
  · obtain ⟨a3, _⟩ := lay_tail (F := F) (fill := fill) (neg := neg) C s2 hC
    exact ⟨_, rfl, by rw [a3.fd, f2, n2, List.append_assoc], a3.sp.trans p2⟩
  · rw [Nat.zero_add, ← n2] at hc
    obtain ⟨a3, c3⟩ := step_cnt (F := F) (fill := fill) (neg := neg) (hn t (.head _)) (.inr hc)
    rw [List.foldl_cons]
    obtain ⟨e1, e2, e3⟩ := lay_cnt (F := F) (fill := fill) (neg := neg) r (layStep F fill neg s2 t) c3 fun x m => hn x (.tail _ m)
    exact ⟨_, rfl, by rw [e2, a3.nx, a3.fd, f2, n2, cellsL, List.append_assoc, List.append_assoc], by rw [e3, a3.sp, p2]⟩
theorem len2 : ∀ {ss : List (List Nat)}, (∀ x ∈ ss, x.length ≤ 2) → (ss.map List.length).sum + ss.length ≤ 3 * ss.length
  | [], _ => Nat.le_refl _
  | s :: r, h => by
    have h1 := h s (.head _)
    have h2 := len2 fun x m => h x (.tail _ m)
    rw [List.map_cons, List.sum_cons, List.length_cons]; exact axad970e h1 h2
theorem any_role (fl : List Nat) (T : List Tk) (r : List Nat) : (T.map (roleS fl)).any (· == r) = T.any fun t => roleS fl t == r := by rw [List.any_map]; rfl
theorem zip_tok (fl : List Nat) : ∀ T : List Tk, List.zipWith (fun a b => V.tup [a, b]) (T.map (roV fl)) (T.map (sgV fl)) = T.map fun t => V.tup [roV fl t, sgV fl t]
  | [] => rfl
  | t :: r => by rw [List.map_cons, List.map_cons, List.zipWith_cons_cons, zip_tok fl r]; rfl
noncomputable def vanT (fl : List Nat) : Tk → List Nat
  | .vee => [] | .pee => [] | .dot => [46] | t => List.replicate (sg fl t).length 42
noncomputable def vanS (r s : List Nat) : List Nat := if [rMark, rNone].any (· == r) = true then [] else if r = rPoint then s else List.replicate s.length 42
noncomputable def vanU : V → V
  | .tup [.str r, .str s] => .str (vanS r s)
  | v => v
theorem vanS_tok (fl : List Nat) (t : Tk) : vanS (roleS fl t) (sg fl t) = vanT fl t := by
  cases t with
  | loose =>
    unfold vanS vanT roleS
    by_cases h : fl = [90]
    · subst h; rfl
    by_cases h' : fl = [42]
    · subst h'; rfl
    simp only [h, h']; rfl
  | _ => rfl
noncomputable def hasS (fl : List Nat) (T : List Tk) : Bool := (T.map (roleS fl)).any (· == rStar)
noncomputable def hasL (fl : List Nat) (T : List Tk) : Bool := (T.map (roleS fl)).any (· == rLead)
noncomputable def hasN (fl : List Nat) (T : List Tk) : Bool := (T.map (roleS fl)).any (· == rFigure)
noncomputable def vanR (fl : List Nat) (T : List Tk) (sz : Nat) : List Nat := if hasS fl T = true then (T.map (vanT fl)).flatten else List.replicate sz 32
theorem van_ok {H : Hp} {K : KV} {p s r sy : Nat} {tx ca : List Nat} {d sc : Int} {b : Bool} {sz : Nat} {fl : List Nat} {T : List Tk} (hp : H[p]? = some (.inst 113 (picL tx sy ca d sc b (sz : Nat)))) (hr : H[r]? = some (.list (T.map (roV fl)))) (hs : H[s]? = some (.list (T.map (sgV fl)))) (hne : r ≠ s) (hl : T.length ≤ 30) (h2 : ∀ t ∈ T, (sg fl t).length ≤ 2) (hz : sz ≤ 1000)
    (kk : ∀ H', Lx [] H H' → K (.str (vanR fl T sz)) H') : callAt F_vanished [.ref p, .ref s, .ref r] H K := by
  have hr' := hr
  rw [roV_map] at hr'
  refine ⟨at_list hr' (on_some (strs_map _) ?_)⟩
  unfold vanR at kk
  cases hS : hasS fl T with
  | false =>
    rw [hS] at kk
    refine not_t hS (at_inst hp ⟨of_decide_eq_true rfl, ⟨ax6fa31b, ax274152 hz⟩, ?_⟩)
    rw [repL_str]
    exact kk H (.refl ..)
  | true =>
    rw [hS] at kk
    refine not_f hS ⟨at_list hr (at_list hs ⟨hne, comp_go (T.map fun t => V.tup [roV fl t, sgV fl t]) (fun _ => true) vanU (by rw [List.length_map]; exact len30 hl) (fun H' X => by have q := has_zip (X.at0 hr) (X.at0 hs); rw [zip_tok] at q; exact q) (fun v hv H' G₁ G₀ X h1 h0 => ?_)
      fun H2 X2 => new_at' fun e H3 ge X3 le => ?_⟩)⟩
    · obtain ⟨t, ht, rfl⟩ := List.mem_map.1 hv
      have hlt := len30 (Nat.le_trans (h2 t ht) (by decide))
      have h1' : ∀ x, x = vanS (roleS fl t) (sg fl t) → G₁ (.str x) H' := fun x e => e ▸ h1 rfl _ X
      refine if_b (fun q => h1' _ (if_pos q).symm) fun q => ?_
      have q : ¬ [rMark, rNone].any (· == roleS fl t) = true := fun z => by rw [show [rMark, rNone].any (· == roleS fl t) = false from q] at z; cases z
      refine if_b (fun q' => h1' _ ?_) fun q' => ⟨hlt, of_decide_eq_true rfl, by unfold lenMax at hlt; exact ⟨ax6fa31b, ax0388bf hlt⟩, h1' _ ?_⟩
      · unfold vanS; rw [if_neg q, if_pos (show roleS fl t = rPoint from eq_of_beq q')]
      · unfold vanS; rw [if_neg q, if_neg (show roleS fl t ≠ rPoint from ne_of_beq_false q'), repL_str]; rfl
    have em : ((T.map fun t => V.tup [roV fl t, sgV fl t]).filter fun _ => true).map vanU = (T.map (vanT fl)).map V.str := by
      rw [List.filter_eq_self.2 (fun _ _ => rfl), List.map_map, List.map_map]
      exact List.map_congr_left fun t _ => congrArg V.str (vanS_tok fl t)
    rw [em] at ge
    refine at_list ge ⟨rfl, _, strs_map _, Nat.le_trans (len2 fun x m => ?_) (by rw [List.length_map]; exact axb62948 hl), kk _ (X2.trans X3)⟩
    obtain ⟨t, ht, rfl⟩ := List.mem_map.1 m
    have := h2 t ht
    cases t <;> simp_all [vanT]
noncomputable def okS (x : List Nat) : Prop := x.length ≤ 2 ∧ ∀ c ∈ x, c < 256
theorem okS_rep {n c : Nat} (h : c < 256) : ∀ x ∈ List.replicate n c, x < 256 := fun x m => by rw [(List.mem_replicate.1 m).2]; exact h
theorem signT_ok {s : List Nat} {neg : Bool} (h : okS s) : okS (signT s neg) := by
  unfold signT
  cases neg <;> (repeat' split) <;> first | exact h | exact ⟨by decide, by decide⟩
theorem lay_inv {fl F fill : List Nat} {neg : Bool} {st : Ly} {t : Tk} (hs : okS (sg fl t)) (hf : okS fill) (hF : ∀ c ∈ F, c < 256) (h : ∀ x ∈ st.found, okS x) :
    (∀ x ∈ (layStep F fill neg st t).found, okS x) ∧ (layStep F fill neg st t).found.length ≤ st.found.length + 1 ∧ (layStep F fill neg st t).next = st.next + dg t := by
  have put : ∀ (x : List Nat) (s1 : Ly), okS x → s1.found = st.found → s1.next = st.next + dg t → (∀ y ∈ (putT x s1).found, okS y) ∧ (putT x s1).found.length ≤ st.found.length + 1 ∧ (putT x s1).next = st.next + dg t := fun x s1 hx e1 e2 => by
    refine ⟨fun y m => ?_, by show (s1.found ++ [x]).length ≤ _; rw [e1, List.length_append]; exact Nat.le_refl _, e2⟩
    rcases List.mem_append.1 (show y ∈ s1.found ++ [x] from m) with m | m
    · exact h y (e1 ▸ m)
    · cases List.mem_singleton.1 m; exact hx
  have sup : ∀ s1 : Ly, s1.found = st.found → s1.next = st.next + dg t → (∀ y ∈ (supp fill s1).found, okS y) ∧ (supp fill s1).found.length ≤ st.found.length + 1 ∧ (supp fill s1).next = st.next + dg t := fun s1 e1 e2 => put fill s1 hf e1 e2
  have one : ∀ c : Nat, c < 256 → okS [c] := fun c hc => ⟨Nat.le_succ 1, fun x m => by cases List.mem_singleton.1 m; exact hc⟩
  have fgs : ∀ fb sb, dg t = 1 → (∀ y ∈ (figSt F fill fb sb st).found, okS y) ∧ (figSt F fill fb sb st).found.length ≤ st.found.length + 1 ∧ (figSt F fill fb sb st).next = st.next + dg t := fun fb sb hd => by
    have hc : F.getD st.next 48 < 256 := by
      rw [List.getD_eq_getElem?_getD]
      cases e : F[st.next]? with
      | none => decide
      | some c => exact hF c (List.mem_of_getElem? e)
    unfold figSt figS2
    dsimp only
    split
    · exact put _ _ (one _ hc) rfl (by rw [hd])
    · exact sup _ rfl (by rw [hd])
  cases t with
  | lead => exact sup _ rfl rfl
  | loose => exact fgs _ _ rfl
  | nine => exact fgs _ _ rfl
  | ins c =>
    have e : layStep F fill neg st (.ins c) = if st.begun = true ∧ st.counting = false then supp fill st else putT (insT c) st := rfl
    rw [e]
    split
    · exact sup _ rfl rfl
    · exact put _ _ (by unfold insT; split; exact one 32 (by decide); exact hs) rfl rfl
  | fix s => exact put _ _ (signT_ok hs) rfl rfl
  | dot => exact put _ _ (one 46 (by decide)) rfl rfl
  | vee => exact put _ _ ⟨Nat.zero_le _, fun _ m => nomatch m⟩ rfl rfl
  | pee => exact ⟨h, Nat.le_succ _, rfl⟩
theorem lead_idx (fl : List Nat) : ∀ T : List Tk, hasL fl T = true → ∃ j, (T.map (roleS fl)).findIdx? (· == rLead) = some j ∧ (T.map (sgV fl))[j]? = some (.str fl) ∧ j < T.length
  | [], h => by cases h
  | t :: r, h => by
    rw [List.map_cons, List.findIdx?_cons]
    by_cases e : (roleS fl t == rLead) = true
    · rw [if_pos e]
      refine ⟨0, rfl, ?_, by simp⟩
      have : t = .lead := by rw [hasLead] at e; cases t <;> first | rfl | cases e
      subst this; rfl
    · rw [if_neg e]
      have : hasL fl r = true := by
        unfold hasL at h
        rw [List.map_cons, List.any_cons, Bool.eq_false_iff.2 e] at h
        exact h
      obtain ⟨j, h1, h2, h3⟩ := lead_idx fl r this
      exact ⟨j + 1, by rw [h1]; rfl, h2, by simp; exact ax3a5d60 h3⟩
noncomputable def fixS (fl : List Nat) (T : List Tk) (st : Ly) (neg : Bool) : List (List Nat) := if hasL fl T = true then st.found.set st.spot.toNat (signT fl neg) else st.found
noncomputable def layF (fl F fill : List Nat) (neg : Bool) (T : List Tk) : List (List Nat) := fixS fl T (T.foldl (layStep F fill neg) st0) neg
noncomputable def fillT (fl : List Nat) (T : List Tk) : List Nat := if hasS fl T = true then [42] else [32]
noncomputable def edT (fl : List Nat) (T : List Tk) (d U : Nat) (neg : Bool) (sz : Nat) (blank : Bool) : List Nat :=
  if U = 0 ∧ blank = true then List.replicate sz 32
  else if U = 0 ∧ hasN fl T = false then vanR fl T sz
  else (layF fl (figR d U) (fillT fl T) neg T).flatten
theorem nD_app : ∀ a b : List Tk, nD (a ++ b) = nD a + nD b
  | [], b => (Nat.zero_add _).symm
  | t :: a, b => by rw [List.cons_append, nD, nD, nD_app a b, Nat.add_assoc]
theorem figR_chr : ∀ (d U : Nat), ∀ c ∈ figR d U, c < 256
  | 0, U => fun c m => by cases m
  | d + 1, U => fun c m => by
    rcases List.mem_append.1 (show c ∈ figR d (U / 10) ++ [48 + U % 10] from m) with m | m
    · exact figR_chr d _ c m
    · cases List.mem_singleton.1 m; omega
theorem flat_chr {ss : List (List Nat)} (h : ∀ x ∈ ss, okS x) : (∀ c ∈ ss.flatten, c < 256) ∧ ss.flatten.length ≤ 2 * ss.length := by
  refine ⟨fun c m => ?_, ?_⟩
  · obtain ⟨s, a, b⟩ := List.mem_flatten.1 m
    exact (h s a).2 c b
  · induction ss with
    | nil => exact Nat.le_refl _
    | cons s r ih =>
      have h1 := (h s (.head _)).1
      have h2 := ih fun x m => h x (.tail _ m)
      rw [List.flatten_cons, List.length_append, List.length_cons]; exact ax0d676f h1 h2
theorem vanR_chr {fl : List Nat} {T : List Tk} {sz : Nat} (hl : T.length ≤ 30) (h2 : ∀ t ∈ T, (sg fl t).length ≤ 2) (hz : sz ≤ 1000) : (∀ c ∈ vanR fl T sz, c < 256) ∧ (vanR fl T sz).length ≤ 1000 := by
  unfold vanR
  split
  · have : ∀ x ∈ T.map (vanT fl), okS x := fun x m => by
      obtain ⟨t, ht, rfl⟩ := List.mem_map.1 m
      have := h2 t ht
      have rp : okS (List.replicate (sg fl t).length 42) := ⟨by rw [List.length_replicate]; exact this, okS_rep (by decide)⟩
      have e46 : okS [46] := ⟨by decide, by decide⟩
      have e0 : okS [] := ⟨by decide, by decide⟩
      cases t <;> first | exact rp | exact e46 | exact e0
    have q := flat_chr this
    rw [List.length_map] at q
    exact ⟨q.1, by omega⟩
  · exact ⟨okS_rep (by decide), by rw [List.length_replicate]; exact hz⟩
theorem laynew_ok {H : Hp} {F fill : List Nat} {neg : Bool} {K : KV} (kk : ∀ a f H', LyAt H' F neg fill a f st0 → Lx [] H H' → H.length ≤ a → H.length ≤ f → K (.ref a) H') : callAt (fNew 411 F_Layer_init) [.str F, .bool neg, .str fill] H K :=
  ⟨new_at' fun r H1 g1 X1 l1 => ⟨at_inst g1 (put_at g1 fun H2 g2 X2 => at_inst g2 (put_at g2 fun H3 g3 X3 => at_inst g3 (put_at g3 fun H4 g4 X4 => at_inst g4 (put_at g4 fun H5 g5 X5 => new_at' fun f H6 gf X6 lf =>
    have g6 := X6.at0 g5
    have A := ((X2.trans X3).trans X4).trans X5
    have nf : f ≠ r := fun q => by rw [q, g6] at gf; cases gf
    at_inst g6 (put_at g6 fun H7 g7 X7 => at_inst g7 (put_at g7 fun H8 g8 X8 => at_inst g8 (put_at g8 fun H9 g9 X9 => at_inst g9 (put_at g9 fun H10 g10 X10 =>
      have B := ((X7.trans X8).trans X9).trans X10
      kk r f H10 ⟨g10, B.at1 nf gf⟩ (X1.fresh ((A.trans X6.nil).trans B) fun i hi => .inr (List.mem_singleton.1 hi ▸ l1)) l1 (Nat.le_trans X1.len (Nat.le_trans A.len lf))))))))))⟩⟩
structure TOk (fl : List Nat) (T : List Tk) : Prop where
  good : Good fl false T
  hfl : fl = [] ∨ isZ fl ∨ isF fl
  len : T.length ≤ 30
  ge : isF fl → 2 ≤ cnt fl (T.map (sg fl))
  le : ∀ c, isF c → fl ≠ c → cnt c (T.map (sg fl)) ≤ 1
  ok2 : ∀ t ∈ T, okS (sg fl t)
  sz : szOf (T.map (sg fl)) ≤ 1000
  hD : nD T ≤ 18
  spot : hasL fl T = true → ∀ F fill neg, 0 ≤ (T.foldl (layStep F fill neg) st0).spot ∧ (T.foldl (layStep F fill neg) st0).spot.toNat < (T.foldl (layStep F fill neg) st0).found.length
theorem TOk.okfl {fl : List Nat} {T : List Tk} (h : TOk fl T) : okS fl := by
  rcases h.hfl with h | h | h
  · subst h; exact ⟨by decide, by decide⟩
  · rcases h with rfl | rfl <;> exact ⟨by decide, by decide⟩
  · rcases h with rfl | rfl | rfl <;> exact ⟨by decide, by decide⟩
noncomputable def B_edt4 : SX := sSeq (sIf (tCmp vIn (eCon (.str [108, 101, 97, 100])) (eLoc 4)) (sSeq (sPut (eOp1 (vAttr 411 29) (eLoc 7)) (eOp1 (vAttr 411 32) (eLoc 7)) (eCal F_sign_text (lCons (eOp2 vIdx (eLoc 3) (eBM 1 fIndex (eLoc 4) (lCons (eCon (.str [108, 101, 97, 100])) (lNil)))) (lCons (eLoc 6) (lNil))))) (sNil)) (sNil)) (sSeq (sRet (eBM 0 fJoin (eCon (.str [])) (lCons (eOp1 (vAttr 411 29) (eLoc 7)) (lNil)))) (sNil))
noncomputable def B_edt3 : SX := sSeq (sFor (iZip (eLoc 4) (eLoc 3)) (bTup [8, 9]) (sSeq (sExpr (eMeth 411 48 F_Layer_place (eLoc 7) (lCons (eLoc 8) (lCons (eLoc 9) (lNil))))) (sNil))) B_edt4
noncomputable def B_edt2 : SX := sSeq (sSet 7 (eCal (fNew 411 F_Layer_init) (lCons (eLoc 5) (lCons (eLoc 6) (lCons (eIf (tCmp vIn (eCon (.str [115, 116, 97, 114])) (eLoc 4)) (eCon (.str [42])) (eCon (.str [32]))) (lNil)))))) B_edt3
section
variable {H : Hp} {K : KV} {fl F fill : List Nat} {T : List Tk} {neg : Bool} {a f R S : Nat} {st : Ly} {x0 x1 x2 x5 x y : Option V}
theorem edt4_ok (hT : TOk fl T) (LA : LyAt H F neg fill a f st) (gR : H[R]? = some (.list (T.map (roV fl)))) (gS : H[S]? = some (.list (T.map (sgV fl)))) (i1 : ∀ x ∈ st.found, okS x) (i2 : st.found.length ≤ 30) (hs : hasL fl T = true → 0 ≤ st.spot ∧ st.spot.toNat < st.found.length)
    (kk : ∀ z H', z = (fixS fl T st neg).flatten → (∀ c ∈ z, c < 256) → z.length ≤ 1000 → Lx [a, f] H H' → K (.str z) H') : B_edt4 [x0, x1, x2, some (.ref S), some (.ref R), x5, some (.bool neg), some (.ref a), x, y] H (fun _ H => K .none H) K := by
  rw [roV_map] at gR
  unfold fixS at kk
  have join : ∀ (L : List (List Nat)) (K2 : Hp), (∀ x ∈ L, okS x) → L.length ≤ 30 → K2[a]? = some (.inst 411 (layL F neg fill f st)) → K2[f]? = some (.list (L.map V.str)) → L = (if hasL fl T = true then st.found.set st.spot.toNat (signT fl neg) else st.found) → Lx [a, f] H K2 →
      atInst K2 a 411 fun fs => onSome (getF 29 fs) fun v => onList v K2 fun x => ([] : List Nat) = [] ∧ ∃ ss, strsOf x = some ss ∧ (ss.map List.length).sum + ss.length ≤ 1048576 ∧ K (.str ss.flatten) K2 := fun L K2 j1 j2 g1 g2 e X => by
    have q := len2 fun x m => (j1 x m).1
    exact at_inst g1 (at_list g2 ⟨rfl, L, strs_map _, by exact ax793492 j2 q, kk _ _ (by rw [e]) (flat_chr j1).1 (Nat.le_trans (flat_chr j1).2 (by exact axceabbf j2)) X⟩)
  refine at_list gR (on_some (strs_map _) ?_)
  cases hL : hasL fl T with
  | false => exact if_f hL (join _ _ i1 i2 LA.lay LA.fnd (by rw [hL]; rfl) (.refl ..))
  | true =>
    obtain ⟨j, f1, f2, f3⟩ := lead_idx fl T hL
    obtain ⟨p1, p2⟩ := hs hL
    refine if_t hL (at_list gR (at_list gR ⟨_, j, strs_map _, f1, by rw [List.length_map]; exact len30 hT.len, at_list gS (on_some (pyIdx_nat rfl (Nat.lt_of_lt_of_le f3 (Nat.le_trans hT.len (by decide)))) (on_some f2 (sign_text_ok (at_inst LA.lay (at_inst LA.lay (at_list LA.fnd
      (on_some (pyIdx_nat (Int.toNat_of_nonneg p1).symm (Nat.lt_of_lt_of_le p2 (Nat.le_trans i2 (by decide)))) (if_t (by rw [List.length_map, Nat.blt_eq]; exact p2) (put_at LA.fnd fun K2 g2 X2 => ?_)))))))))⟩))
    rw [← List.map_set] at g2
    refine join _ _ (fun y m => ?_) (by rw [List.length_set]; exact i2) (X2.at1 LA.ne LA.lay) g2 (by rw [hL]; rfl) (Lx.w2 X2)
    rcases List.mem_or_eq_of_mem_set m with m | m
    · exact i1 y m
    · subst m; exact signT_ok hT.okfl
inductive LayI (H : Hp) (fl F fill : List Nat) (neg : Bool) (T : List Tk) (a f S R : Nat) (x0 x1 x2 x5 : Option V) : List V → Rho → Hp → Prop
  | mk (T1 T2 : List Tk) (st : Ly) (x y : Option V) (H' : Hp) (e : T = T1 ++ T2) (es : st = T1.foldl (layStep F fill neg) st0) (LA : LyAt H' F neg fill a f st) (i1 : ∀ x ∈ st.found, okS x) (i2 : st.found.length ≤ T1.length) (i3 : st.next = nD T1) (X : Lx [a, f] H H') :
    LayI H fl F fill neg T a f S R x0 x1 x2 x5 (T2.map fun t => V.tup [roV fl t, sgV fl t]) [x0, x1, x2, some (.ref S), some (.ref R), x5, some (.bool neg), some (.ref a), x, y] H'
theorem edt3_ok (hT : TOk fl T) (LA : LyAt H F neg fill a f st0) (gR : H[R]? = some (.list (T.map (roV fl)))) (gS : H[S]? = some (.list (T.map (sgV fl)))) (hRS : R ≠ S) (nR : R ∉ [a, f]) (nS : S ∉ [a, f]) (hfill : okS fill) (hFc : ∀ c ∈ F, c < 256) (hFl : F.length = nD T)
    (kk : ∀ z H', z = (layF fl F fill neg T).flatten → (∀ c ∈ z, c < 256) → z.length ≤ 1000 → Lx [a, f] H H' → K (.str z) H') : B_edt3 [x0, x1, x2, some (.ref S), some (.ref R), x5, some (.bool neg), some (.ref a), none, none] H (fun _ H => K .none H) K := by
  refine ⟨at_list gR (at_list gS ⟨hRS, for_go (T.map fun t => V.tup [roV fl t, sgV fl t]) (LayI H fl F fill neg T a f S R x0 x1 x2 x5) ⟨[], T, st0, none, none, H, rfl, rfl, LA, (fun _ q => nomatch q), Nat.le_refl _, rfl, .refl ..⟩ (fun r ρ H' h => ?_) ?_ ?_⟩)⟩
  · cases h with | mk _ _ _ _ _ _ _ _ _ _ _ _ X =>
    have q := has_zip (X.get _ _ nR gR) (X.get _ _ nS gS)
    rw [zip_tok] at q
    exact q
  · intro v r ρ H' G go h
    generalize hv : v :: r = vr at h
    obtain ⟨T1, T2, st, x, y, _, e, es, LA, i1, i2, i3, X⟩ := h
    cases T2 with
    | nil => cases hv
    | cons t T2 =>
    cases hv
    have cl : T.length = T1.length + (T2.length + 1) := by rw [e]; simp
    have hl := hT.len
    have hnx : dg t = 1 → st.next < F.length := fun hdg => by rw [i3, hFl, e, nD_app, nD, hdg]; exact ax94c015
    obtain ⟨j1, j2, j3⟩ := lay_inv (fl := fl) (F := F) (neg := neg) (t := t) (hT.ok2 t (by rw [e]; simp)) hfill hFc i1
    refine at_inst LA.lay (place_ok LA (by exact axe7e220 i2 cl hl) hnx (by rw [hFl]; exact Nat.le_trans hT.hD (by decide)) _ fun H2 L2 X2 => go _ _ ⟨T1 ++ [t], T2, _, _, _, H2, by rw [e]; simp, ?_, L2, j1, by rw [List.length_append]; exact Nat.le_trans j2 (Nat.add_le_add_right i2 1), by rw [j3, i3, nD_snoc], X.trans X2⟩)
    rw [List.foldl_append, es]; rfl
  · intro ρ H' h
    generalize hv : ([] : List V) = vr at h
    obtain ⟨T1, T2, st, x, y, _, e, es, LA, i1, i2, i3, X⟩ := h
    cases T2 with
    | cons => cases hv
    | nil =>
    rw [List.append_nil] at e
    subst e
    exact edt4_ok hT LA (X.get _ _ nR gR) (X.get _ _ nS gS) i1 (Nat.le_trans i2 hT.len) (fun h => es ▸ hT.spot h F fill neg) fun z H3 hz c1 c2 X3 => kk z H3 (by rw [hz, es]; rfl) c1 c2 (X.trans X3)
theorem edited_text_ok {p s : Nat} {u sc : Int} {blank : Bool} (hp : PicAt H p (T.map (sg fl)) (nD T) sc) (hT : TOk fl T) (hu : u.natAbs < 1152921504606846976) (hs : s < 30) (hs1 : -30 < sc) (hs2 : sc < 30) {U : Nat} (hU : unitsN u.natAbs s sc % 10 ^ nD T = U)
    (kk : ∀ z H', z = edT fl T (nD T) U (decide (u < 0) && decide (0 < U)) (szOf (T.map (sg fl))) blank → (∀ c ∈ z, c < 256) → z.length ≤ 1000 → Lx [] H H' → K (.str z) H') : callAt F_edited_text [.ref p, .tup [.int u, .int s], .bool blank] H K := by
  refine ⟨places_ok hp (by rw [List.length_map]; exact hT.len) fun S H1 gS X1 l1 => ?_⟩
  rw [← sgV_map] at gS
  refine roles_ok gS hT.good hT.hfl hT.len hT.ge hT.le fun R H2 gR X2 l2 => ?_
  have gS2 := X2.at0 gS
  have hRS : R ≠ S := fun q => by have := get_lt gS; exact ax0fd884 l2 q this
  have X02 := X1.trans X2
  obtain ⟨tx, sy, ca, bb, acc, gp, -, -, -, -⟩ := hp
  have gp2 := X02.at0 gp
  refine figures_ok gp2 hT.hD hu hs hs1 hs2 fun F neg hF hneg => ?_
  rw [hU] at hF hneg
  rw [← hneg] at kk
  have hUl : U < 10 ^ nD T := by rw [← hU]; exact Nat.mod_lt _ (Nat.pow_pos (by decide))
  have hFl : F.length = nD T := by rw [hF]; exact figR_len _ U
  have hz : F = repL (F.length : Nat) [48] ↔ U = 0 := by rw [repL_str, hFl, hF]; exact figR_nought _ U hUl
  have hd := hT.hD
  have gR' := gR
  rw [roV_map] at gR'
  have rest : (U = 0 → blank = false ∧ hasN fl T = true) → B_edt2 [some (.ref p), some (.tup [.int u, .int s]), some (.bool blank), some (.ref S), some (.ref R), some (.str F), some (.bool neg), none, none, none] H2 (fun _ H => K .none H) K := fun hA => by
    have lay : ∀ fill : List Nat, fill = fillT fl T → callAt (fNew 411 F_Layer_init) [.str F, .bool neg, .str fill] H2 fun v H => B_edt3 [some (.ref p), some (.tup [.int u, .int s]), some (.bool blank), some (.ref S), some (.ref R), some (.str F), some (.bool neg), some v, none, none] H (fun _ H => K .none H) K := fun fill hf => by
      refine laynew_ok fun a f H3 LA X3 la lf => edt3_ok hT LA (X3.at0 gR) (X3.at0 gS2) hRS ?_ ?_ (by rw [hf]; unfold fillT; split <;> exact ⟨by decide, by decide⟩) (by rw [hF]; exact figR_chr _ U) hFl fun z H4 hz c1 c2 X4 => kk z H4 ?_ c1 c2 (Lx.fresh (X02.trans X3) X4 ?_)
      · have := get_lt gR; simp; exact ⟨(fun q => (ax6fa6a3 la this q)), (fun q => (ax6fa6a3 lf this q))⟩
      · have := get_lt gS2; simp; exact ⟨(fun q => (ax6fa6a3 la this q)), (fun q => (ax6fa6a3 lf this q))⟩
      · unfold edT
        rw [if_neg (fun q => by rw [(hA q.1).1] at q; cases q.2), if_neg (fun q => by rw [(hA q.1).2] at q; cases q.2), ← hF, ← hf]; exact hz
      · have := X02.len; simp; exact ⟨(axcb5e9d la this), (axcb5e9d lf this)⟩
    exact at_list gR' (on_some (strs_map _) (if_b (fun q => lay _ (if_pos q).symm) fun q => lay _ (if_neg fun z => by rw [show hasS fl T = false from q] at z; cases z).symm))
  refine ⟨by rw [hFl]; exact len30 (by exact axc81f52 hd), of_decide_eq_true rfl, by rw [hFl]; exact ⟨ax6fa31b, axa2d858 hd⟩, if_b (fun q => ?_) fun q => rest fun h0 => absurd (hz.2 h0) (ne_of_beq_false q)⟩
  have hU0 : U = 0 := hz.1 (eq_of_beq q)
  refine if_b (fun hb => at_inst gp2 ⟨of_decide_eq_true rfl, ⟨ax6fa31b, ax274152 hT.sz⟩, ?_⟩) fun hb => at_list gR' (on_some (strs_map _) ?_)
  · rw [repL_str]
    exact kk _ _ (if_pos ⟨hU0, hb⟩).symm (okS_rep (by decide)) (by rw [List.length_replicate]; exact hT.sz) X02
  · cases hN : hasN fl T with
    | true => exact not_f hN (rest fun _ => ⟨hb, hN⟩)
    | false => exact not_t hN (van_ok gp2 gR gS2 hRS hT.len (fun t m => (hT.ok2 t m).1) hT.sz fun H3 X3 => kk _ _ (by rw [edT, if_neg (fun q => by rw [show blank = false from hb] at q; cases q.2), if_pos ⟨hU0, hN⟩]) (vanR_chr hT.len (fun t m => (hT.ok2 t m).1) hT.sz).1 (vanR_chr hT.len (fun t m => (hT.ok2 t m).1) hT.sz).2 (X02.trans X3))
end
noncomputable def byt (s : List Nat) : List UInt8 := (s.map fun c : Nat => (c : Int)).map fun y : Int => y.toNat.toUInt8
noncomputable def ordU : V → V
  | .str [c] => .int (c : Nat)
  | v => v
theorem bytes_ok {ρ : Rho} {H : Hp} {K : KV} {s : List Nat} (h1 : ∀ c ∈ s, c < 256) (h2 : s.length ≤ 1000) (kk : ∀ H', Lx [] H H' → K (.bytes (byt s)) H') :
    true = true ∧ ∃ f, compTurns (.items (s.map fun c => .str [c])) (bName 0) tTrue (eFun fOrd (lCons (eLoc 0) lNil)) (none :: ρ) (fun vs H₁ => newAt H₁ (.list vs) fun v H => fBytes [v] H K) f 0 H [] := by
  have hl : s.length ≤ lenMax := Nat.le_trans h2 (by decide)
  refine ⟨rfl, comp_go (s.map fun c => .str [c]) (fun _ => true) ordU (by rw [List.length_map]; exact hl) (fun _ _ => has_items) (fun v hv H' G₁ G₀ X k1 k0 => ?_) fun H2 X2 => new_at' fun a H3 g X3 l => ?_⟩
  · obtain ⟨c, hc, rfl⟩ := List.mem_map.1 hv
    exact k1 rfl _ X
  have em : ((s.map fun c => V.str [c]).filter fun _ => true).map ordU = (s.map fun c : Nat => (c : Int)).map V.int := by
    rw [List.filter_eq_self.2 (fun _ _ => rfl), List.map_map, List.map_map]; rfl
  rw [em] at g
  refine at_list g ⟨_, ints_map _, by rw [List.length_map]; exact hl, ?_, kk _ (X2.trans X3)⟩
  rw [List.all_map, List.all_eq_true]
  intro c hc
  have := h1 c hc
  simp; exact ax8323c5 this
theorem edited_ok {H : Hp} {K : KV} {p s : Nat} {u sc : Int} {blank : Bool} {fl : List Nat} {T : List Tk} (hp : PicAt H p (T.map (sg fl)) (nD T) sc) (hT : TOk fl T) (hu : u.natAbs < 1152921504606846976) (hs : s < 30) (hs1 : -30 < sc) (hs2 : sc < 30) {U : Nat} (hU : unitsN u.natAbs s sc % 10 ^ nD T = U)
    {vs : List V} (hv : padEdited vs = some [.ref p, .tup [.int u, .int s], .bool blank]) (kk : ∀ x H', x = byt (edT fl T (nD T) U (decide (u < 0) && decide (0 < U)) (szOf (T.map (sg fl))) blank) → Lx [] H H' → K (.bytes x) H') : callAt F_edited vs H K :=
  ⟨on_some hv ⟨edited_text_ok hp hT hu hs hs1 hs2 hU fun z H1 hz c1 c2 X1 => bytes_ok c1 c2 fun H2 X2 => kk _ _ (by rw [hz]) (X1.trans X2)⟩⟩
noncomputable def kPlain : List Nat := [112, 108, 97, 105, 110]
noncomputable def kLead : List Nat := [108, 101, 97, 100]
noncomputable def kLoose : List Nat := [108, 111, 111, 115, 101]
noncomputable def kNine : List Nat := [110, 105, 110, 101]
noncomputable def kPut_ : List Nat := [112, 117, 116, 32, 105, 110]
noncomputable def kPoint : List Nat := [112, 111, 105, 110, 116]
noncomputable def kindS : Tk → List Nat
  | .lead => kLead | .loose => kLoose | .nine => kNine | .ins _ => kPut_ | .dot => kPoint | .vee => kPoint | .pee => kPlain | .fix _ => kPlain
noncomputable abbrev Ce := Tk × List Nat
noncomputable def ceV (p : Ce) : V := .tup [.str (kindS p.1), .str p.2]
noncomputable def ces (F : List Nat) (neg : Bool) : Nat → List Tk → List Ce
  | _, [] => []
  | k, t :: r => (t, cell F neg k t) :: ces F neg (k + dg t) r
theorem ces_app (F : List Nat) (neg : Bool) : ∀ (a b : List Tk) (k : Nat), ces F neg k (a ++ b) = ces F neg k a ++ ces F neg (k + nD a) b
  | [], b, k => rfl
  | t :: a, b, k => by rw [List.cons_append, ces, ces_app F neg a b, ces, nD, Nat.add_assoc]; rfl
theorem ces_len (F : List Nat) (neg : Bool) : ∀ (a : List Tk) (k : Nat), (ces F neg k a).length = a.length
  | [], _ => rfl
  | t :: a, k => by rw [ces, List.length_cons, ces_len F neg a, List.length_cons]
theorem ces_txt (F : List Nat) (neg : Bool) : ∀ (a : List Tk) (k : Nat), (ces F neg k a).map (·.2) = cellsT F neg k a
  | [], _ => rfl
  | t :: a, k => by rw [ces, cellsT, List.map_cons, ces_txt F neg a]
noncomputable def idxs (p : Ce → Bool) : Nat → List Ce → List Int
  | _, [] => []
  | k, c :: r => (if p c = true then [((k : Nat) : Int)] else []) ++ idxs p (k + 1) r
theorem idxs_ge (p : Ce → Bool) : ∀ (l : List Ce) (k : Nat), ∀ x ∈ idxs p k l, ((k : Nat) : Int) ≤ x
  | [], k, x, m => by cases m
  | c :: r, k, x, m => by
    rcases List.mem_append.1 (show x ∈ (if p c = true then [((k : Nat) : Int)] else []) ++ idxs p (k + 1) r from m) with m | m
    · split at m
      · cases List.mem_singleton.1 m; exact Int.le_refl _
      · cases m
    · have := idxs_ge p r (k + 1) x m; exact ax4bc4fa this
theorem idxs_skip (p : Ce → Bool) : ∀ (a b : List Ce) (k : Nat), (∀ c ∈ a, p c = false) → idxs p k (a ++ b) = idxs p (k + a.length) b
  | [], b, k, _ => rfl
  | c :: a, b, k, h => by
    rw [List.cons_append, idxs, h c (.head _), idxs_skip p a b (k + 1) fun x m => h x (.tail _ m), List.length_cons, show k + 1 + a.length = k + (a.length + 1) by exact axf7f447]; rfl
theorem minL_le : ∀ (l : List Int) (y : Int), (∀ x ∈ l, y ≤ x) → minL l y = y
  | [], y, _ => rfl
  | x :: r, y, h => by
    rw [minL, if_neg (by have := h x (.head _); exact (fun q => (ax76efb6 this q)))]
    exact minL_le r y fun z m => h z (.tail _ m)
theorem minL_ge (m : Int) : ∀ (l : List Int) (y : Int), m ≤ y → (∀ x ∈ l, m ≤ x) → m ≤ minL l y
  | [], y, h, _ => h
  | x :: r, y, h, hl => by
    rw [minL]
    split
    · exact minL_ge m r x (hl x (.head _)) fun z q => hl z (.tail _ q)
    · exact minL_ge m r y h fun z q => hl z (.tail _ q)
noncomputable def pB (c : Ce) : Bool := [kLead, kLoose].any (· == kindS c.1)
noncomputable def pC (c : Ce) : Bool := [kNine, kPoint].any (· == kindS c.1) || ((kindS c.1 == kLoose) && !(c.2 == [48]))
noncomputable def pH (c : Ce) : Bool := [kLead, kLoose, kPut_].any (· == kindS c.1)
noncomputable def words (bg ct : Int) (fill : List Nat) : Nat → List Ce → List (List Nat)
  | _, [] => []
  | k, c :: r => (if (decide (bg ≤ ((k : Nat) : Int)) && decide (((k : Nat) : Int) < ct) && pH c) = true then fill else c.2) :: words bg ct fill (k + 1) r
theorem words_no (bg ct : Int) (fill : List Nat) : ∀ (l : List Ce) (k : Nat), (∀ j : Nat, k ≤ j → j < k + l.length → ((j : Nat) : Int) < bg ∨ ct ≤ ((j : Nat) : Int)) → words bg ct fill k l = l.map (·.2)
  | [], k, _ => rfl
  | c :: r, k, h => by
    have h0 := h k (Nat.le_refl _) (by simp)
    have : (decide (bg ≤ ((k : Nat) : Int)) && decide (((k : Nat) : Int) < ct)) = false := by
      rcases h0 with h0 | h0
      · rw [decide_eq_false (by exact (fun q => (ax9eacb0 h0 q)))]; rfl
      · rw [decide_eq_false (p := ((k : Nat) : Int) < ct) (by exact (fun q => (axae768e h0 q))), Bool.and_false]
    rw [words, this, Bool.false_and, if_neg (by decide), List.map_cons, words_no bg ct fill r (k + 1) fun j a b => h j (by exact ax543bd1 a) (by simp; exact ax14198a b)]
theorem words_yes (bg ct : Int) (fill : List Nat) : ∀ (l : List Ce) (k : Nat), bg ≤ ((k : Nat) : Int) → (((k + l.length : Nat) : Nat) : Int) ≤ ct → (∀ c ∈ l, pH c = true) → words bg ct fill k l = List.replicate l.length fill
  | [], k, _, _, _ => rfl
  | c :: r, k, h1, h2, h3 => by
    rw [List.length_cons] at h2
    rw [words, h3 c (.head _), decide_eq_true h1, decide_eq_true (p := ((k : Nat) : Int) < ct) (by exact ax3a6420 h2)]
    show fill :: words bg ct fill (k + 1) r = _
    rw [words_yes bg ct fill r (k + 1) (by exact axeb82c2 h1) (by exact ax35c5f3 h2) fun x m => h3 x (.tail _ m)]; rfl
theorem words_app (bg ct : Int) (fill : List Nat) : ∀ (a b : List Ce) (k : Nat), words bg ct fill k (a ++ b) = words bg ct fill k a ++ words bg ct fill (k + a.length) b
  | [], b, k => rfl
  | c :: a, b, k => by rw [List.cons_append, words, words_app bg ct fill a b, words, List.length_cons, show k + 1 + a.length = k + (a.length + 1) by exact axf7f447]; rfl
theorem hid_ces {F : List Nat} {neg : Bool} : ∀ (B : List Tk) (k : Nat), Hid F k B → ∀ c ∈ ces F neg k B, pC c = false ∧ pH c = true
  | [], _, _, c, m => by cases m
  | t :: B, k, h, c, m => by
    rcases List.mem_cons.1 m with e | m
    · subst e
      cases t with
      | lead => exact ⟨rfl, rfl⟩
      | ins x => exact ⟨rfl, rfl⟩
      | loose =>
        have h1 : fig F k = 48 := h.1
        exact ⟨by show pC (.loose, [fig F k]) = false; rw [h1]; rfl, rfl⟩
      | nine => exact h.1.elim
      | dot => exact h.1.elim
      | vee => exact h.1.elim
      | pee => exact h.1.elim
      | fix s => exact h.1.elim
    · exact hid_ces B _ h.2 c m
theorem fix_ces {F : List Nat} {neg : Bool} : ∀ (pre : List (List Nat)) (k : Nat), ∀ c ∈ ces F neg k (pre.map Tk.fix), pC c = false ∧ pB c = false
  | [], _, c, m => by cases m
  | s :: r, k, c, m => by
    rcases List.mem_cons.1 m with e | m
    · subst e; exact ⟨rfl, rfl⟩
    · exact fix_ces r _ c m
theorem nD_fix : ∀ pre : List (List Nat), nD (pre.map Tk.fix) = 0
  | [] => rfl
  | s :: r => by rw [List.map_cons, nD, nD_fix r]; rfl
theorem words_all {F fill : List Nat} {neg : Bool} {pre : List (List Nat)} {B C : List Tk} {t : Tk} {r : List Tk} (hb : ∀ c, B.head? ≠ some (.ins c)) (hh : Hid F 0 B) (hC : C = t :: r) (hc : counts F (nD B) t) {y : Int} {ys : List Int} {n : Int}
    (hB : idxs pB 0 (ces F neg 0 (pre.map Tk.fix ++ (B ++ C))) ++ [n] = y :: ys) (hn : n = ((pre.map Tk.fix ++ (B ++ C)).length : Nat)) :
    ∃ z zs, idxs pC 0 (ces F neg 0 (pre.map Tk.fix ++ (B ++ C))) = z :: zs ∧ minL zs z = ((pre.length + B.length : Nat) : Int) ∧
      words (minL ys y) (minL zs z) fill 0 (ces F neg 0 (pre.map Tk.fix ++ (B ++ C))) = cellsT F neg 0 (pre.map Tk.fix) ++ (List.replicate B.length fill ++ cellsT F neg (nD B) C) := by
  have e0 : ces F neg 0 (pre.map Tk.fix ++ (B ++ C)) = ces F neg 0 (pre.map Tk.fix) ++ (ces F neg 0 B ++ ces F neg (nD B) C) := by
    rw [ces_app, nD_fix, Nat.zero_add, ces_app, Nat.zero_add]
  have lA : (ces F neg 0 (pre.map Tk.fix)).length = pre.length := by rw [ces_len, List.length_map]
  have lB : (ces F neg 0 B).length = B.length := ces_len _ _ _ _
  rw [e0] at hB ⊢
  have eC : idxs pC 0 (ces F neg 0 (pre.map Tk.fix) ++ (ces F neg 0 B ++ ces F neg (nD B) C)) = ((pre.length + B.length : Nat) : Int) :: idxs pC (pre.length + B.length + 1) (ces F neg (nD B + dg t) r) := by
    rw [idxs_skip pC _ _ 0 (fun c m => (fix_ces pre 0 c m).1), idxs_skip pC _ _ _ (fun c m => (hid_ces B 0 hh c m).1), lA, lB, hC, ces, idxs]
    have : pC (t, cell F neg (nD B) t) = true := by
      cases t with
      | nine => rfl
      | dot => rfl
      | vee => rfl
      | loose =>
        have hc : fig F (nD B) ≠ 48 := hc
        show (false || (true && !([fig F (nD B)] == [48]))) = true
        simp [hc]
      | lead => exact hc.elim
      | ins c => exact hc.elim
      | pee => exact hc.elim
      | fix s => exact hc.elim
    rw [this, Nat.zero_add]; rfl
  have mC : minL (idxs pC (pre.length + B.length + 1) (ces F neg (nD B + dg t) r)) ((pre.length + B.length : Nat) : Int) = ((pre.length + B.length : Nat) : Int) := minL_le _ _ fun x m => by have := idxs_ge _ _ _ x m; exact ax91825d this
  refine ⟨_, _, eC, mC, ?_⟩
  rw [mC]
  rw [idxs_skip pB _ _ 0 (fun c m => (fix_ces pre 0 c m).2), lA, Nat.zero_add] at hB
  have gB : ((pre.length : Nat) : Int) ≤ minL ys y := by
    have hall : ∀ x ∈ y :: ys, ((pre.length : Nat) : Int) ≤ x := by
      rw [← hB]
      intro x m
      rcases List.mem_append.1 m with m | m
      · exact idxs_ge _ _ _ x m
      · cases List.mem_singleton.1 m
        rw [hn, List.length_append, List.length_map]; exact ax9dedb6
    exact minL_ge _ _ _ (hall y (.head _)) fun x m => hall x (.tail _ m)
  rw [words_app, words_app, lA, lB, Nat.zero_add, words_no _ _ _ (ces F neg 0 (pre.map Tk.fix)) 0 (fun j a b => .inl (by rw [lA] at b; exact ax7f17df gB b)), ces_txt, words_no _ _ _ (ces F neg (nD B) C) _ (fun j a b => .inr (by exact axcbd616 a)), ces_txt]
  cases B with
  | nil => rfl
  | cons b B =>
    have hbB : pB (b, cell F neg 0 b) = true := by
      cases b with
      | lead => rfl
      | loose => rfl
      | ins c => exact absurd rfl (hb c)
      | nine => exact hh.1.elim
      | dot => exact hh.1.elim
      | vee => exact hh.1.elim
      | pee => exact hh.1.elim
      | fix s => exact hh.1.elim
    have eB : y = ((pre.length : Nat) : Int) := by
      rw [ces, List.cons_append, idxs, hbB] at hB
      injection hB with h1 h2
      exact h1.symm
    have mB : minL ys y ≤ ((pre.length : Nat) : Int) := by
      rw [eB]
      have : ∀ (l : List Int) (z : Int), minL l z ≤ z := fun l => by
        induction l with
        | nil => intro z; exact Int.le_refl _
        | cons x r ih =>
          intro z
          rw [minL]
          split
          · have := ih x; exact axb546ae (by assumption) this
          · exact ih z
      exact this _ _
    rw [words_yes _ _ _ (ces F neg 0 (b :: B)) _ mB (by rw [lB]; exact Int.le_refl _) (fun c m => (hid_ces (b :: B) 0 hh c m).2), lB]
noncomputable def B_le5 : SX := sSeq (sIf (tCmp vNe (eLoc 4) (eLst (lNil))) (sSeq (sPut (eLoc 14) (eOp2 vSub (eLoc 13) (eCon (.int 1))) (eIf (tCmp vEq (eOp2 vIdx (eLoc 4) (eCon (.int 0))) (eCon (.str [36]))) (eOp2 vIdx (eLoc 4) (eCon (.int 0))) (eIf (tCmp vLt (eLoc 1) (eCon (.int 0))) (eCon (.str [45])) (eIf (tCmp vEq (eOp2 vIdx (eLoc 4) (eCon (.int 0))) (eCon (.str [43]))) (eCon (.str [43])) (eCon (.str [32])))))) (sNil)) (sNil)) (sSeq (sRet (eBM 0 fJoin (eCon (.str [])) (lCons (eLoc 14) (lNil)))) (sNil))
noncomputable def B_le4b : SX := sSeq (sExpr (eBM 1 fAppend (eLoc 14) (lCons (eIf (tVal (eLoc 17)) (eLoc 11) (eOp2 vIdx (eLoc 16) (eCon (.int 1)))) (lNil)))) (sNil)
noncomputable def B_le4 : SX := sSeq (sSet 14 (eLst (lNil))) (sSeq (sFor (iEnum (eLoc 5)) (bTup [15, 16]) (sSeq (sSet 17 (eAnd (eBool (tCmp2 vLe vLt (eLoc 12) (eLoc 15) (eLoc 13))) (eBool (tCmp vIn (eOp2 vIdx (eLoc 16) (eCon (.int 0))) (eTup (lCons (eCon (.str [108, 101, 97, 100])) (lCons (eCon (.str [108, 111, 111, 115, 101])) (lCons (eCon (.str [112, 117, 116, 32, 105, 110])) (lNil))))))))) B_le4b)) B_le5)
noncomputable def B_le3 : SX := sSeq (sSet 12 (eFun fMin (lCons (eOp2 vAdd (eComp 2 (iEnum (eLoc 5)) (bTup [0, 1]) (tCmp vIn (eOp2 vIdx (eLoc 1) (eCon (.int 0))) (eTup (lCons (eCon (.str [108, 101, 97, 100])) (lCons (eCon (.str [108, 111, 111, 115, 101])) (lNil))))) (eLoc 0)) (eLst (lCons (eFun fLen (lCons (eLoc 5) (lNil))) (lNil)))) (lNil)))) (sSeq (sSet 13 (eFun fMin (lCons (eComp 2 (iEnum (eLoc 5)) (bTup [0, 1]) (tOr (tCmp vIn (eOp2 vIdx (eLoc 1) (eCon (.int 0))) (eTup (lCons (eCon (.str [110, 105, 110, 101])) (lCons (eCon (.str [112, 111, 105, 110, 116])) (lNil))))) (tOr (tAnd (tCmp vEq (eOp2 vIdx (eLoc 1) (eCon (.int 0))) (eCon (.str [108, 111, 111, 115, 101]))) (tAnd (tCmp vNe (eOp2 vIdx (eLoc 1) (eCon (.int 1))) (eCon (.str [48]))) (tTrue))) (tFalse))) (eLoc 0)) (lNil)))) B_le4)
noncomputable def B_le2 : SX := sSeq (sSet 11 (eIf (tCmp vIn (eCon (.str [42])) (eLoc 0)) (eCon (.str [42])) (eCon (.str [32])))) (sSeq (sIf (tAnd (tCmp vEq (eLoc 1) (eCon (.int 0))) (tAnd (tCmp vNotIn (eCon (.str [110, 105, 110, 101])) (eComp 2 (iVal false (eLoc 5)) (bTup [0, 1]) (tTrue) (eLoc 0))) (tTrue))) (sSeq (sRet (eBM 0 fJoin (eCon (.str [])) (lCons (eComp 2 (iVal false (eLoc 5)) (bTup [0, 1]) (tTrue) (eIf (tAnd (tCmp vEq (eLoc 0) (eCon (.str [112, 111, 105, 110, 116]))) (tAnd (tCmp vEq (eLoc 13) (eCon (.str [42]))) (tAnd (tCmp vNe (eLoc 1) (eCon (.str []))) (tTrue)))) (eCon (.str [46])) (eOp2 vMul (eLoc 13) (eFun fLen (lCons (eIf (tCmp vNe (eLoc 0) (eCon (.str [108, 101, 97, 100]))) (eLoc 1) (eCon (.str [32]))) (lNil)))))) (lNil)))) (sNil)) (sNil)) B_le3)
theorem star_eq {fl : List Nat} : ∀ (T : List Tk) (b : Bool), Good fl b T → (T.map (sg fl)).any (· == [42]) = hasS fl T
  | [], _, _ => rfl
  | t :: r, b, h => by
    have hh := good_head h
    have ih := star_eq r _ hh.2
    have : (sg fl t == [42]) = (roleS fl t == rStar) := by
      cases t with
      | lead => have hf : isF fl := hh.1.1
                rcases hf with rfl | rfl | rfl <;> rfl
      | loose => rcases hh.1 with hz | ⟨hf, _⟩
                 · rcases hz with rfl | rfl <;> rfl
                 · rcases hf with rfl | rfl | rfl <;> rfl
      | ins c => rcases hh.1 with rfl | rfl | rfl | rfl <;> rfl
      | fix s => rcases hh.1.1 with rfl | rfl | rfl | rfl | rfl <;> rfl
      | _ => rfl
    rw [List.map_cons, List.any_cons, this, ih]
    unfold hasS
    rw [List.map_cons, List.any_cons]
theorem nine_eq (fl : List Nat) : ∀ T : List Tk, (T.map kindS).any (· == kNine) = hasN fl T
  | [] => rfl
  | t :: r => by
    have : (kindS t == kNine) = (roleS fl t == rFigure) := by
      cases t with
      | loose => rw [loose_role.1]; rfl
      | _ => rfl
    unfold hasN
    rw [List.map_cons, List.any_cons, List.map_cons, List.any_cons, this]
    congr 1
    exact nine_eq fl r
noncomputable def vlS (fill k x : List Nat) : List Nat := if k = kPoint ∧ fill = [42] ∧ x ≠ [] then [46] else repL ((if k = kLead then 1 else x.length : Nat) : Int) fill
noncomputable def cB : V → Bool
  | .tup [_, .tup [.str k, _]] => [kLead, kLoose].any (· == k)
  | _ => false
noncomputable def cC : V → Bool
  | .tup [_, .tup [.str k, .str x]] => [kNine, kPoint].any (· == k) || ((k == kLoose) && !(x == [48]))
  | _ => false
theorem idx_eq (p : Ce → Bool) (c : V → Bool) (h : ∀ (i : Int) (e : Ce), c (.tup [.int i, ceV e]) = p e) : ∀ (l : List Ce) (k : Nat), (((l.map ceV).mapIdx fun j v => V.tup [.int ((k + j : Nat) : Int), v]).filter c).map fst2 = (idxs p k l).map V.int
  | [], _ => rfl
  | e :: r, k => by
    have ih := idx_eq p c h r (k + 1)
    have ef : (fun (j : Nat) v => V.tup [.int ((k + (j + 1) : Nat) : Int), v]) = fun j v => V.tup [.int ((k + 1 + j : Nat) : Int), v] := by
      funext j v; rw [show k + (j + 1) = k + 1 + j by exact ax61e71b]
    rw [List.map_cons, List.mapIdx_cons, List.filter_cons, idxs, ef, h]
    cases p e with
    | true => rw [if_pos rfl, if_pos rfl, List.map_cons, ih]; rfl
    | false => rw [if_neg (by decide), if_neg (by decide), ih]; rfl
theorem mapIdx_ce (e : Ce) (b : List Ce) (k : Nat) : (((e :: b).map ceV).mapIdx fun j v => V.tup [.int ((k + j : Nat) : Int), v]) = V.tup [.int (k : Nat), ceV e] :: ((b.map ceV).mapIdx fun j v => V.tup [.int ((k + 1 + j : Nat) : Int), v]) := by
  rw [List.map_cons, List.mapIdx_cons]
  congr 1
  congr 1
  funext j v; rw [show k + (j + 1) = k + 1 + j by exact ax61e71b]
noncomputable def lawW (F : List Nat) (neg : Bool) (fill : List Nat) (pre : List (List Nat)) (B D : List Tk) : List (List Nat) := cellsT F neg 0 (pre.map Tk.fix) ++ (List.replicate B.length fill ++ cellsT F neg (nD B) D)
theorem cellsT_len (F : List Nat) (neg : Bool) : ∀ (a : List Tk) (k : Nat), (cellsT F neg k a).length = a.length
  | [], _ => rfl
  | t :: a, k => by rw [cellsT, List.length_cons, cellsT_len F neg a, List.length_cons]
noncomputable def fst2S : V → V
  | .tup [.str k, _] => .str k
  | v => v
noncomputable def vlU (fill : List Nat) : V → V
  | .tup [.str k, .str x] => .str (vlS fill k x)
  | v => v
noncomputable def lawV (F fill : List Nat) (neg : Bool) (T : List Tk) : List (List Nat) := (ces F neg 0 T).map fun e => vlS fill (kindS e.1) e.2
theorem vl_len {fill k x : List Nat} (hf : fill.length = 1) (hx : x.length ≤ 2) : (vlS fill k x).length ≤ 2 := by
  unfold vlS
  split
  · decide
  · obtain ⟨c, rfl⟩ : ∃ c, fill = [c] := by
      cases fill with
      | nil => cases hf
      | cons c r => cases r with
        | nil => exact ⟨c, rfl⟩
        | cons => cases hf
    rw [repL_str, List.length_replicate]
    split <;> omega
theorem words_len (bg ct : Int) (fill : List Nat) : ∀ (l : List Ce) (k : Nat), (words bg ct fill k l).length = l.length
  | [], _ => rfl
  | c :: r, k => by rw [words, List.length_cons, words_len bg ct fill r, List.length_cons]
theorem idxs_len (p : Ce → Bool) : ∀ (l : List Ce) (k : Nat), (idxs p k l).length ≤ l.length
  | [], _ => Nat.le_refl _
  | x :: r, k => by
    rw [idxs, List.length_append, List.length_cons]
    have := idxs_len p r (k + 1)
    split
    · show 1 + _ ≤ _; exact ax280e7d this
    · show 0 + _ ≤ _; exact axf77272 this
section
variable {H : Hp} {K : KV} {cs : List Ce} {F fill fl : List Nat} {fs : List (List Nat)} {bg held : Int} {ct : Nat} {neg : Bool} {C ft W t : Nat} {T : List Tk} {pre : List (List Nat)} {B D : List Tk} {w0 w2 w3 w5 w6 w7 w8 w9 w10 w11 w12 w13 w14 w15 w16 w17 : Option V}
theorem le5_ok {L : List (List Nat)} (gW : H[W]? = some (.list (L.map V.str))) (hft : H[ft]? = some (.list (fs.map V.str))) (hfs : FloL fl fs) (hn : neg = decide (held < 0)) (hct : isF fl → 1 ≤ ct ∧ ct ≤ L.length) (hL : L.length ≤ 30) (hW : ∀ x ∈ L, x.length ≤ 2)
    (kk : ∀ s H', (isF fl → s = (L.set (ct - 1) (signT fl neg)).flatten) → (¬ isF fl → s = L.flatten) → Lx [W] H H' → K (.str s) H') : B_le5 [w0, some (.int held), w2, w3, some (.ref ft), w5, w6, w7, w8, w9, w10, w11, w12, some (.int (ct : Nat)), some (.ref W), w15, w16, w17] H (fun _ H => K .none H) K := by
  refine new_at' fun E H2 gE XE l2 => at_list (XE.at0 hft) (at_list gE ⟨rfl, ?_⟩)
  have gf := XE.at0 hft
  have join : ∀ (M : List (List Nat)) (H3 : Hp), M.length ≤ 30 → (∀ x ∈ M, x.length ≤ 2) → H3[W]? = some (.list (M.map V.str)) → (isF fl → M.flatten = (L.set (ct - 1) (signT fl neg)).flatten) → (¬ isF fl → M.flatten = L.flatten) → Lx [W] H H3 →
      onList (.ref W) H3 fun x => ([] : List Nat) = [] ∧ ∃ ss, strsOf x = some ss ∧ (ss.map List.length).sum + ss.length ≤ 1048576 ∧ K (.str ss.flatten) H3 := fun M H3 m1 m2 g e1 e2 X => by
    have q := len2 m2
    exact at_list g ⟨rfl, M, strs_map _, by exact ax793492 m1 q, kk _ _ e1 e2 X⟩
  by_cases hf : isF fl
  · rw [hfs.1 hf] at gf ⊢
    obtain ⟨c1, c2⟩ := hct hf
    have put : ∀ s : List Nat, s = signT fl neg → s.length ≤ 2 → vPut (.ref W) (.int ((ct : Nat) - 1)) (.str s) H2 fun H => sSeq (sRet (eBM 0 fJoin (eCon (.str [])) (lCons (eLoc 14) lNil))) sNil [w0, some (.int held), w2, w3, some (.ref ft), w5, w6, w7, w8, w9, w10, w11, w12, some (.int (ct : Nat)), some (.ref W), w15, w16, w17] H (fun _ H => K .none H) K := fun s hs hs2 => by
      refine at_list (XE.at0 gW) (on_some (pyIdx_nat (j := ct - 1) (by omega) (by omega)) (if_t (by rw [List.length_map, Nat.blt_eq]; omega) (put_at (XE.at0 gW) fun H3 g3 X3 => ?_)))
      rw [← List.map_set] at g3
      refine join _ H3 (by rw [List.length_set]; exact hL) (fun y m => ?_) g3 (fun _ => by rw [hs]) (fun q => absurd hf q) (XE.nil.trans X3)
      rcases List.mem_or_eq_of_mem_set m with m | m
      · exact hW y m
      · subst m; exact hs2
    rcases hf with rfl | rfl | rfl
    · exact at_list gf (at_list gf (put [36] rfl (by decide)))
    · exact at_list gf (if_d (fun h0 => put [45] (by rw [hn, decide_eq_true h0]; rfl) (by decide)) fun h0 => at_list gf (put [43] (by rw [hn, decide_eq_false h0]; rfl) (by decide)))
    · exact at_list gf (if_d (fun h0 => put [45] (by rw [hn, decide_eq_true h0]; rfl) (by decide)) fun h0 => at_list gf (put [32] (by rw [hn, decide_eq_false h0]; rfl) (by decide)))
  · rw [hfs.2 hf]
    exact join L H2 hL hW (XE.at0 gW) (fun q => absurd q hf) (fun _ => rfl) XE.nil
inductive WdI (H : Hp) (cs : List Ce) (fill : List Nat) (bg ct : Int) (C W ft : Nat) (held : Int) (w0 w2 w3 w6 w7 w8 w9 w10 : Option V) : List V → Rho → Hp → Prop
  | mk (a b : List Ce) (x y z : Option V) (H' : Hp) (r : List V) (e : cs = a ++ b) (er : r = (b.map ceV).mapIdx (fun j v => V.tup [.int ((a.length + j : Nat) : Int), v])) (g : H'[W]? = some (.list ((words bg ct fill 0 a).map V.str))) (X : Lx [] H H') :
    WdI H cs fill bg ct C W ft held w0 w2 w3 w6 w7 w8 w9 w10 r [w0, some (.int held), w2, w3, some (.ref ft), some (.ref C), w6, w7, w8, w9, w10, some (.str fill), some (.int bg), some (.int ct), some (.ref W), x, y, z] H'
theorem le4_ok (hC : H[C]? = some (.list (cs.map ceV))) (hft : H[ft]? = some (.list (fs.map V.str))) (hfs : FloL fl fs) (hl : cs.length ≤ 30) (hn : neg = decide (held < 0))
    (hct : isF fl → 1 ≤ ct ∧ ct ≤ cs.length) {L : List (List Nat)} (eL : words bg ct fill 0 cs = L) (hW : ∀ x ∈ L, x.length ≤ 2)
    (kk : ∀ s H', (isF fl → s = (L.set (ct - 1) (signT fl neg)).flatten) → (¬ isF fl → s = L.flatten) → Lx [] H H' → K (.str s) H') : B_le4 [w0, some (.int held), w2, w3, some (.ref ft), some (.ref C), w6, w7, w8, w9, w10, some (.str fill), some (.int bg), some (.int (ct : Nat)), w14, w15, w16, w17] H (fun _ H => K .none H) K := by
  refine new_at' fun W H1 gW X1 l1 => ⟨at_list (X1.at0 hC) (for_go ((cs.map ceV).mapIdx fun j v => V.tup [.int (j : Nat), v]) (WdI H cs fill bg ct C W ft held w0 w2 w3 w6 w7 w8 w9 w10) ⟨[], cs, w15, w16, w17, H1, _, rfl, by congr 1; funext j v; rw [List.length_nil, Nat.zero_add], gW, X1⟩
    (fun r ρ H' h => by cases h with | mk _ _ _ _ _ _ _ _ _ _ X => exact has_enum (X.at0 hC)) ?_ ?_)⟩
  · intro v r ρ H' G go h
    generalize hv : v :: r = vr at h
    obtain ⟨a, b, x, y, z, _, _, e, er, gK, X⟩ := h
    subst hv
    cases b with
    | nil => cases er
    | cons c b =>
    rw [mapIdx_ce] at er
    cases er
    have cl : cs.length = a.length + (b.length + 1) := by rw [e]; simp
    have lw : ((words bg ct fill 0 a).map V.str).length ≤ lenMax := by rw [List.length_map, words_len]; exact len30 (by exact axba9f05 hl cl)
    have step : ∀ d : Bool, d = (decide (bg ≤ ((a.length : Nat) : Int)) && decide (((a.length : Nat) : Int) < ct) && pH c) → B_le4b [w0, some (.int held), w2, w3, some (.ref ft), some (.ref C), w6, w7, w8, w9, w10, some (.str fill), some (.int bg), some (.int (ct : Nat)), some (.ref W), some (.int (a.length : Nat)), some (ceV c), some (.bool d)] H' G K := fun d hd => by
      have fin : ∀ (K' : Hp) (w : List Nat), (if d = true then fill else c.2) = w → K'[W]? = some (.list ((words bg ct fill 0 a).map V.str ++ [V.str w])) → Lx [W] H' K' →
          G [w0, some (.int held), w2, w3, some (.ref ft), some (.ref C), w6, w7, w8, w9, w10, some (.str fill), some (.int bg), some (.int (ct : Nat)), some (.ref W), some (.int (a.length : Nat)), some (ceV c), some (.bool d)] K' := fun K' w hw g1 X2 => by
        refine go _ _ ⟨a ++ [c], b, _, _, _, K', _, by rw [e]; simp, by rw [List.length_append]; rfl, ?_, Lx.fresh X X2 (by simp; exact axcb450d l1)⟩
        rw [g1, words_app, words, Nat.zero_add, ← hd, hw, words, List.map_append]; rfl
      cases d with
      | true => exact at_list gK (at_list gK ⟨lw, put_at gK fun K2 g2 X2 => fin K2 fill rfl g2 X2⟩)
      | false => exact at_list gK (at_list gK ⟨lw, put_at gK fun K2 g2 X2 => fin K2 c.2 rfl g2 X2⟩)
    exact if_b (fun h1 => if_b (fun h2 => step _ (by rw [h1, h2]; rfl)) fun h2 => step false (by rw [h2, Bool.and_false]; rfl)) fun h1 => step false (by rw [h1]; rfl)
  · intro ρ H' h
    generalize hv : ([] : List V) = vr at h
    obtain ⟨a, b, x, y, z, _, _, e, er, gK, X⟩ := h
    subst hv
    cases b with
    | cons => rw [mapIdx_ce] at er; cases er
    | nil =>
    rw [List.append_nil] at e
    subst e
    rw [eL] at gK
    have lL : L.length = cs.length := by rw [← eL, words_len]
    exact le5_ok (w0 := w0) (w2 := w2) (w3 := w3) (w5 := some (.ref C)) gK (X.at0 hft) hfs hn (by rw [lL]; exact hct) (by rw [lL]; exact hl) hW fun s H3 e1 e2 X3 => kk s H3 e1 e2 (Lx.fresh X X3 (by simp; exact axcb450d l1))
theorem look_r {o : Option (Option V)} {v : V} {P : V → Prop} (e : o = some (some v)) (k : P v) : lookR o P := e.symm ▸ k
theorem comp_idx {ρ : Rho} {P : KL} (p : Ce → Bool) (c : V → Bool) (cond : TX) (h : ∀ (i : Int) (e : Ce), c (.tup [.int i, ceV e]) = p e) (hC : H[C]? = some (.list (cs.map ceV))) (hl : cs.length ≤ 30) (r5 : ρ[5]? = some (some (.ref C)))
    (step : ∀ (H' : Hp) (i : Int) (e : Ce) (G : KB), G (p e) H' → cond (some (.int i) :: some (ceV e) :: ρ) H' G) (k : ∀ H', Lx [] H H' → P ((idxs p 0 cs).map V.int) H') : runComp 2 (iEnum (eLoc 5)) (bTup [0, 1]) cond (eLoc 0) ρ H P := by
  have e0 : (fun (j : Nat) v => V.tup [.int (j : Nat), v]) = fun j v => V.tup [.int ((0 + j : Nat) : Int), v] := by funext j v; rw [Nat.zero_add]
  refine ⟨look_r r5 (at_list hC (comp_go ((cs.map ceV).mapIdx fun j v => V.tup [.int (j : Nat), v]) c fst2 (by rw [List.length_mapIdx, List.length_map]; exact len30 hl) (fun H' X => has_enum (X.at0 hC)) (fun v hv H' G₁ G₀ X h1 h0 => ?_) fun H' X => ?_))⟩
  · obtain ⟨j, hj, rfl⟩ := List.mem_mapIdx.1 hv
    obtain ⟨e, he⟩ : ∃ e, (cs.map ceV)[j] = ceV e := ⟨_, List.getElem_map _⟩
    rw [he] at h1 h0 ⊢
    rw [h] at h1 h0
    exact step H' _ e _ (if_b (fun q => h1 q _ X) fun q => h0 q _ X)
  · rw [e0, idx_eq p c h]; exact k H' X
theorem le3_ok {t : Tk} {r : List Tk} (hT : T = pre.map Tk.fix ++ (B ++ D)) (hb : ∀ c, B.head? ≠ some (.ins c)) (hh : Hid F 0 B) (hD : D = t :: r) (hc : counts F (nD B) t) (hBL : isF fl → B ≠ [])
    (hC : H[C]? = some (.list ((ces F neg 0 T).map ceV))) (hft : H[ft]? = some (.list (fs.map V.str))) (hfs : FloL fl fs) (hl : T.length ≤ 30) (hn : neg = decide (held < 0)) (hW : ∀ x ∈ lawW F neg fill pre B D, x.length ≤ 2)
    (kk : ∀ s H', (isF fl → s = ((lawW F neg fill pre B D).set (pre.length + B.length - 1) (signT fl neg)).flatten) → (¬ isF fl → s = (lawW F neg fill pre B D).flatten) → Lx [] H H' → K (.str s) H') :
    B_le3 [w0, some (.int held), w2, w3, some (.ref ft), some (.ref C), w6, w7, w8, w9, w10, some (.str fill), w12, w13, w14, w15, w16, w17] H (fun _ H => K .none H) K := by
  have hlT : (ces F neg 0 T).length = T.length := ces_len _ _ _ _
  have hlc : (ces F neg 0 T).length ≤ 30 := by rw [hlT]; exact hl
  obtain ⟨y, ys, hy⟩ : ∃ y ys, idxs pB 0 (ces F neg 0 T) ++ [((T.length : Nat) : Int)] = y :: ys := by
    cases h : idxs pB 0 (ces F neg 0 T) with
    | nil => exact ⟨_, _, rfl⟩
    | cons a b => exact ⟨_, _, rfl⟩
  have hy' := hy
  rw [hT] at hy'
  obtain ⟨z, zs, hz, hm, hw⟩ := words_all (F := F) (fill := fill) (neg := neg) hb hh hD hc hy' rfl
  rw [← hT] at hz hw
  rw [hm] at hw
  have lc1 : ((ces F neg 0 T).map ceV).length ≤ lenMax := by rw [List.length_map]; exact len30 hlc
  refine comp_idx pB cB _ (fun i e => rfl) hC hlc rfl (fun H' i e G g => g) fun H1 X1 => new_at' fun a H2 g2 X2 l2 => at_list (X2.at0 (X1.at0 hC)) ⟨lc1, new_at' fun E H3 g3 X3 l3 => at_list (X3.at0 g2) (at_list g3 ⟨?_, new_at' fun M H4 g4 X4 l4 => ?_⟩)⟩
  · have := idxs_len pB (ces F neg 0 T) 0
    rw [List.length_map]; unfold lenMax; simp; exact ax99467f hl hlT this
  rw [show (idxs pB 0 (ces F neg 0 T)).map V.int ++ [V.int (((ces F neg 0 T).map ceV).length : Nat)] = (y :: ys).map V.int by rw [← hy, List.map_append, List.length_map, hlT]; rfl] at g4
  have X04 := ((X1.trans X2).trans X3).trans X4
  refine at_list g4 ⟨y, ys, ints_map _, comp_idx pC cC _ (fun i e => rfl) (X04.at0 hC) hlc rfl (fun H' i e G g => ?_) fun H5 X5 => new_at' fun a5 H6 g6 X6 l6 => ?_⟩
  · have pe : pC e = ([[110, 105, 110, 101], [112, 111, 105, 110, 116]].any (· == kindS e.1) || ((kindS e.1 == [108, 111, 111, 115, 101]) && !(e.2 == [48]))) := rfl
    rw [pe] at g
    exact if_b (fun h1 => by rw [h1] at g; exact g) fun h1 => by
      rw [h1] at g
      exact if_b (fun h2 => by
        rw [h2] at g
        exact if_b (fun h3 => by rw [h3] at g; exact g) fun h3 => by rw [h3] at g; exact g) fun h2 => by rw [h2] at g; exact g
  rw [hz] at g6
  refine at_list g6 ⟨z, zs, ints_map _, ?_⟩
  rw [hm]
  have X06 := (X04.trans X5).trans X6
  have lt := congrArg List.length hT
  rw [List.length_append, List.length_append, List.length_map] at lt
  refine le4_ok (X06.at0 hC) (X06.at0 hft) hfs hlc hn (fun hf => ?_) hw hW fun s H7 e1 e2 X7 => kk s H7 e1 e2 (X06.trans X7)
  have hB := hBL hf
  have : 1 ≤ B.length := by cases B with | nil => exact absurd rfl hB | cons => simp
  rw [hlT]; exact ⟨(axe5768d this), (ax9b6d79 lt)⟩
theorem vl2_ok {k x : List Nat} {a2 a3 a4 a5 a6 a7 a8 a9 a10 a11 a12 : Option V} {r : Rho} (hf : fill.length = 1) (hx : x.length ≤ 2) (kk : K (.str (repL ((if k = kLead then 1 else x.length : Nat) : Int) fill)) H) :
    eOp2 vMul (eLoc 13) (eFun fLen (lCons (eIf (tCmp vNe (eLoc 0) (eCon (V.str [108, 101, 97, 100]))) (eLoc 1) (eCon (V.str [32]))) lNil)) (some (.str k) :: some (.str x) :: a2 :: a3 :: a4 :: a5 :: a6 :: a7 :: a8 :: a9 :: a10 :: a11 :: a12 :: some (.str fill) :: r) H K := by
  by_cases hk : k = kLead
  · rw [if_pos hk] at kk
    exact ne_f hk ⟨by decide, by rw [hf]; decide, ⟨by decide, by decide⟩, kk⟩
  · rw [if_neg hk] at kk
    exact ne_t hk ⟨len30 (Nat.le_trans hx (by decide)), by rw [hf]; decide, ⟨ax6fa31b, ax7d36be hx⟩, kk⟩
theorem le2_ok (ht : H[t]? = some (.list (T.map (sgV fl)))) (hg : Good fl false T) (hT : T = pre.map Tk.fix ++ (B ++ D)) (hb : ∀ c, B.head? ≠ some (.ins c)) (hh : Hid F 0 B) (hD : ¬ (held = 0 ∧ hasN fl T = false) → ∃ t r, D = t :: r ∧ counts F (nD B) t) (hBL : isF fl → B ≠ [])
    (hC : H[C]? = some (.list ((ces F neg 0 T).map ceV))) (hft : H[ft]? = some (.list (fs.map V.str))) (hfs : FloL fl fs) (hl : T.length ≤ 30) (hn : neg = decide (held < 0)) (hW : ∀ x ∈ lawW F neg (fillT fl T) pre B D, x.length ≤ 2) (hce : ∀ e ∈ ces F neg 0 T, e.2.length ≤ 2)
    (kk : ∀ s H', ((held = 0 ∧ hasN fl T = false) → s = (lawV F (fillT fl T) neg T).flatten) → (¬ (held = 0 ∧ hasN fl T = false) → (isF fl → s = ((lawW F neg (fillT fl T) pre B D).set (pre.length + B.length - 1) (signT fl neg)).flatten) ∧ (¬ isF fl → s = (lawW F neg (fillT fl T) pre B D).flatten)) → Lx [] H H' → K (.str s) H') :
    B_le2 [some (.ref t), some (.int held), w2, w3, some (.ref ft), some (.ref C), w6, w7, w8, w9, w10, w11, w12, w13, w14, w15, w16, w17] H (fun _ H => K .none H) K := by
  have ht' := ht
  rw [sgV_map] at ht'
  have hlc : ((ces F neg 0 T).map ceV).length ≤ lenMax := by rw [List.length_map, ces_len]; exact len30 hl
  have hst := star_eq T false hg
  have hf1 : (fillT fl T).length = 1 := by unfold fillT; split <;> rfl
  have main : ∀ fill, fill = fillT fl T → sSeq (sIf (tAnd (tCmp vEq (eLoc 1) (eCon (.int 0))) (tAnd (tCmp vNotIn (eCon (.str [110, 105, 110, 101])) (eComp 2 (iVal false (eLoc 5)) (bTup [0, 1]) (tTrue) (eLoc 0))) (tTrue))) (sSeq (sRet (eBM 0 fJoin (eCon (.str [])) (lCons (eComp 2 (iVal false (eLoc 5)) (bTup [0, 1]) (tTrue) (eIf (tAnd (tCmp vEq (eLoc 0) (eCon (.str [112, 111, 105, 110, 116]))) (tAnd (tCmp vEq (eLoc 13) (eCon (.str [42]))) (tAnd (tCmp vNe (eLoc 1) (eCon (.str []))) (tTrue)))) (eCon (.str [46])) (eOp2 vMul (eLoc 13) (eFun fLen (lCons (eIf (tCmp vNe (eLoc 0) (eCon (.str [108, 101, 97, 100]))) (eLoc 1) (eCon (.str [32]))) (lNil)))))) (lNil)))) (sNil)) sNil) B_le3 [some (.ref t), some (.int held), w2, w3, some (.ref ft), some (.ref C), w6, w7, w8, w9, w10, some (.str fill), w12, w13, w14, w15, w16, w17] H (fun _ H => K .none H) K := fun fill hfl => by
    subst hfl
    have go : ∀ H1, ¬ (held = 0 ∧ hasN fl T = false) → Lx [] H H1 → B_le3 [some (.ref t), some (.int held), w2, w3, some (.ref ft), some (.ref C), w6, w7, w8, w9, w10, some (.str (fillT fl T)), w12, w13, w14, w15, w16, w17] H1 (fun _ H => K .none H) K := fun H1 hno X => by
      obtain ⟨t, r, e1, e2⟩ := hD hno
      exact le3_ok hT hb hh e1 e2 hBL (X.at0 hC) (X.at0 hft) hfs hl hn hW fun s H2 c1 c2 X2 => kk s H2 (fun q => absurd q hno) (fun _ => ⟨c1, c2⟩) (X.trans X2)
    by_cases h0 : held = 0
    · refine ie_t h0 ⟨at_list hC (comp_go ((ces F neg 0 T).map ceV) (fun _ => true) fst2S hlc (fun H' X => has_list (X.at0 hC)) (fun v hv H' G₁ G₀ X h1 h0 => ?_) fun H1 X1 => new_at' fun a H2 g2 X2 l2 => ?_)⟩
      · obtain ⟨e, he, rfl⟩ := List.mem_map.1 hv
        exact h1 rfl _ X
      have em : (((ces F neg 0 T).map ceV).filter fun _ => true).map fst2S = (T.map kindS).map V.str := by
        rw [List.filter_eq_self.2 (fun _ _ => rfl), List.map_map]
        have : ∀ (T : List Tk) (k : Nat), (ces F neg k T).map (fst2S ∘ ceV) = (T.map kindS).map V.str := fun T => by
          induction T with
          | nil => intro k; rfl
          | cons t r ih => intro k; rw [ces, List.map_cons, ih]; rfl
        exact this T 0
      rw [em] at g2
      have X02 := X1.trans X2
      refine at_list g2 (on_some (strs_map _) ?_)
      have hk : (T.map kindS).any (· == [110, 105, 110, 101]) = hasN fl T := nine_eq fl T
      cases hN : hasN fl T with
      | true => exact not_f (hk.trans hN) (go _ (fun q => by rw [hN] at q; cases q.2) X02)
      | false =>
        rw [hN] at hk
        refine not_t hk ⟨at_list (X02.at0 hC) (comp_go ((ces F neg 0 T).map ceV) (fun _ => true) (vlU (fillT fl T)) hlc (fun H' X => has_list (X.at0 (X02.at0 hC))) (fun v hv H' G₁ G₀ X h1 h0 => ?_) fun H3 X3 => new_at' fun a4 H4 g4 X4 l4 => ?_)⟩
        · obtain ⟨e, he, rfl⟩ := List.mem_map.1 hv
          have hl2 := hce e he
          have h1' : ∀ z, z = vlS (fillT fl T) (kindS e.1) e.2 → G₁ (.str z) H' := fun z q => q ▸ h1 rfl _ X
          have no : ¬ (kindS e.1 = kPoint ∧ fillT fl T = [42] ∧ e.2 ≠ []) → G₁ (.str (repL ((if kindS e.1 = kLead then 1 else e.2.length : Nat) : Int) (fillT fl T))) H' := fun q => h1' _ (if_neg q).symm
          refine if_b (fun q1 => if_b (fun q2 => if_b (fun q3 => h1' _ ?_) fun q3 => vl2_ok hf1 hl2 (no fun q => q.2.2 ?_)) fun q2 => vl2_ok hf1 hl2 (no fun q => ne_of_beq_false q2 q.2.1)) fun q1 => vl2_ok hf1 hl2 (no fun q => ne_of_beq_false q1 q.1)
          · exact (if_pos ⟨eq_of_beq q1, eq_of_beq q2, fun z => by rw [z] at q3; cases q3⟩).symm
          · cases hz : e.2 with
            | nil => rfl
            | cons a b => rw [hz] at q3; cases q3
        have em2 : (((ces F neg 0 T).map ceV).filter fun _ => true).map (vlU (fillT fl T)) = (lawV F (fillT fl T) neg T).map V.str := by
          rw [List.filter_eq_self.2 (fun _ _ => rfl), List.map_map]
          unfold lawV
          rw [List.map_map]
          exact List.map_congr_left fun e _ => rfl
        rw [em2] at g4
        refine at_list g4 ⟨rfl, _, strs_map _, ?_, kk _ _ (fun _ => rfl) (fun q => absurd ⟨h0, hN⟩ q) ((X02.trans X3).trans X4)⟩
        have := len2 (ss := lawV F (fillT fl T) neg T) fun y m => by
          obtain ⟨e, he, rfl⟩ := List.mem_map.1 m
          exact vl_len hf1 (hce e he)
        have hll : (lawV F (fillT fl T) neg T).length = T.length := by unfold lawV; rw [List.length_map, ces_len]
        omega
    · exact ie_f h0 (go H (fun q => h0 q.1) (.refl ..))
  exact at_list ht' (on_some (strs_map _) (if_b (fun q => main _ (if_pos (hst.symm.trans q)).symm) fun q => main _ (if_neg fun z => by rw [← hst, show (T.map (sg fl)).any (· == [42]) = false from q] at z; cases z).symm))
end
theorem cell_ok {fl F : List Nat} {neg : Bool} {k : Nat} {t : Tk} (h : (sg fl t).length ≤ 2) : (cell F neg k t).length ≤ 2 := by
  cases t with
  | fix s =>
    show (signT s neg).length ≤ 2
    have h : s.length ≤ 2 := h
    unfold signT
    cases neg <;> (repeat' split) <;> first | exact h | decide
  | ins c => show (insT c).length ≤ 2; unfold insT; split <;> exact Nat.le_succ 1
  | lead => exact Nat.zero_le _
  | loose => exact Nat.le_succ 1
  | nine => exact Nat.le_succ 1
  | dot => exact Nat.le_succ 1
  | vee => exact Nat.zero_le _
  | pee => exact Nat.zero_le _
theorem ces_ok {fl F : List Nat} {neg : Bool} : ∀ (T : List Tk) (k : Nat), (∀ t ∈ T, (sg fl t).length ≤ 2) → ∀ e ∈ ces F neg k T, e.2.length ≤ 2
  | [], _, _, e, m => by cases m
  | t :: r, k, h, e, m => by
    rcases List.mem_cons.1 m with q | m
    · subst q; exact cell_ok (h t (.head _))
    · exact ces_ok r _ (fun x q => h x (.tail _ q)) e m
theorem cellsT_ok {fl F : List Nat} {neg : Bool} (T : List Tk) (k : Nat) (h : ∀ t ∈ T, (sg fl t).length ≤ 2) : ∀ x ∈ cellsT F neg k T, x.length ≤ 2 := by
  rw [← ces_txt]
  intro x m
  obtain ⟨e, he, rfl⟩ := List.mem_map.1 m
  exact ces_ok T k h e he
theorem hid_zero {F : List Nat} : ∀ (B : List Tk) (k : Nat), Hid F k B → ∀ j, k ≤ j → j < k + nD B → fig F j = 48
  | [], k, _, j, h1, h2 => by rw [nD] at h2; exact axd90ece h1 h2
  | t :: B, k, h, j, h1, h2 => by
    rw [nD] at h2
    by_cases e : j < k + dg t
    · cases t with
      | loose =>
        have : j = k := by have e : j < k + 1 := e
                           exact ax04743a h1 e
        rw [this]; exact h.1
      | nine => exact h.1.elim
      | _ => have e : j < k + 0 := e
             exact axd90ece h1 e
    · exact hid_zero B _ h.2 j (by exact ax0b0009 (Nat.le_of_not_lt e)) (by exact axb57ed3 h2)
theorem hid_noN {fl F : List Nat} : ∀ (B : List Tk) (k : Nat), Hid F k B → hasN fl B = false
  | [], _, _ => rfl
  | t :: B, k, h => by
    unfold hasN
    rw [List.map_cons, List.any_cons]
    have ih := hid_noN (fl := fl) B _ h.2
    unfold hasN at ih
    rw [ih]
    cases t with
    | loose => rw [loose_role.1]; rfl
    | nine => exact h.1.elim
    | _ => rfl
theorem tail_noN {fl : List Nat} : ∀ D : List Tk, tailOnly D → hasN fl D = false ∧ nD D = 0
  | [], _ => ⟨rfl, rfl⟩
  | t :: D, h => by
    obtain ⟨ih, id⟩ := tail_noN (fl := fl) D fun x m => h x (.tail _ m)
    unfold hasN at ih ⊢
    rw [List.map_cons, List.any_cons, ih, nD, id]
    rcases h t (.head _) with e | ⟨s, e⟩ <;> (subst e; exact ⟨rfl, rfl⟩)
theorem hasN_app (fl : List Nat) (a b : List Tk) : hasN fl (a ++ b) = (hasN fl a || hasN fl b) := by unfold hasN; rw [List.map_append, List.any_append]
theorem all_zero {d U : Nat} (hU : U < 10 ^ d) (h : ∀ j, j < d → fig (figR d U) j = 48) : U = 0 := by
  refine (figR_nought d U hU).1 ?_
  refine List.ext_getElem? fun i => ?_
  by_cases hi : i < d
  · have := h i hi
    unfold fig at this
    rw [List.getD_eq_getElem?_getD, figR_get d U i hi] at this
    rw [figR_get d U i hi, List.getElem?_replicate, if_pos hi]
    exact congrArg some this
  · rw [List.getElem?_eq_none (by rw [figR_len]; exact axcb450d (Nat.le_of_not_lt hi)), List.getElem?_eq_none (by rw [List.length_replicate]; exact axcb450d (Nat.le_of_not_lt hi))]
theorem run_noLead {fl : List Nat} {p q : Ph} {c : List Tk} (h : Run fl p c q) (hp : p ≠ .p0) : ∀ t ∈ c, t ≠ .lead := by
  induction h with
  | nil => intro t m; cases m
  | cons n _ ih =>
    intro t m
    rcases List.mem_cons.1 m with e | m
    · subst e
      intro e
      subst e
      cases n
      exact hp rfl
    · exact ih (nx_ne0 n) t m
theorem run_p5 {fl : List Nat} {q : Ph} {c : List Tk} {p : Ph} (h : Run fl p c q) : p = .p5 → tailOnly c := by
  induction h with
  | nil => intro _ t m; cases m
  | cons n _ ih =>
    intro e
    subst e
    cases n
    intro t m
    rcases List.mem_cons.1 m with e | m
    · subst e; exact .inl rfl
    · exact ih rfl t m
theorem tailOnly_app {a b : List Tk} (h : tailOnly a) (h' : tailOnly b) : tailOnly (a ++ b) := fun t m => (List.mem_append.1 m).elim (h t) (h' t)
theorem shape_tail : ∀ {b : List Tk}, tailOnly b → Shape b
  | [], _ => trivial
  | t :: r, h => .inl ⟨h t (.head _), fun x m => h x (.tail _ m)⟩
theorem run_shape {fl : List Nat} {p q : Ph} {c b : List Tk} (h : Run fl p c q) (hb : tailOnly b) : Shape (c ++ b) := by
  induction h with
  | nil => exact shape_tail hb
  | cons n rest ih =>
    rename_i p' q' r' t ts
    cases n with
    | pee1 => exact .inl ⟨.inl rfl, tailOnly_app (run_p5 rest rfl) hb⟩
    | pee2 => exact .inl ⟨.inl rfl, tailOnly_app (run_p5 rest rfl) hb⟩
    | pee5 => exact .inl ⟨.inl rfl, tailOnly_app (run_p5 rest rfl) hb⟩
    | _ => exact .inr ⟨fun q => (by rcases q with q | ⟨s, q⟩ <;> cases q), ih⟩
structure Cut (fl F : List Nat) (pre : List (List Nat)) (core : List Tk) (post : List (List Nat)) (B D : List Tk) : Prop where
  eq : core ++ post.map Tk.fix = B ++ D
  hid : Hid F 0 B
  hd : ∀ c, B.head? ≠ some (.ins c)
  hC : D = [] ∨ tailOnly D ∨ ∃ t r, D = t :: r ∧ counts F (0 + nD B) t
  nl : ∀ t ∈ D, t ≠ .lead
  ne : isF fl → B ≠ []
theorem cut_of {fl sgn mon : List Nat} {pre post : List (List Nat)} {core : List Tk} {q : Ph} (h : Pic fl pre core post sgn mon q) (F : List Nat) : ∃ B D, Cut fl F pre core post B D := by
  obtain ⟨B, D, e, hh, hC⟩ := split_ok F (core ++ post.map Tk.fix) 0 (run_shape h.run (fix_tail post))
  have hr := h.run
  cases hr with
  | nil => obtain ⟨t, e, _⟩ := h.last; cases e
  | cons n rest =>
    rename_i q' t ts
    have nlt : ∀ x ∈ ts ++ post.map Tk.fix, x ≠ .lead := fun x m => by
      rcases List.mem_append.1 m with m | m
      · exact run_noLead rest (nx_ne0 n) x m
      · intro q
        rcases fix_tail post x m with q' | ⟨s, q'⟩ <;> (rw [q'] at q; cases q)
    have ni : ∀ c, t ≠ .ins c := fun c e => by subst e; cases n
    rw [List.cons_append] at e
    cases B with
    | nil =>
      have hD : D = t :: (ts ++ post.map Tk.fix) := e.symm
      subst hD
      have tl : t ≠ .lead := by
        rcases hC with hC | hC | ⟨t', r', e', hc⟩
        · cases hC
        · intro q
          rcases hC t (.head _) with q' | ⟨s, q'⟩ <;> (rw [q'] at q; cases q)
        · cases e'
          intro q; subst q; exact hc
      refine ⟨[], _, rfl, hh, (fun c q => by cases q), hC, fun x m => (List.mem_cons.1 m).elim (fun e => e ▸ tl) (nlt x), fun hf => ?_⟩
      cases n with
      | lead => exact absurd rfl tl
      | loose0 hz => exact (not_ZF hz hf).elim
      | nine0 e0 => subst e0; rcases hf with f | f | f <;> cases f
    | cons b B =>
      injection e with e1 e2
      subst e1
      exact ⟨t :: B, D, by rw [List.cons_append, e2]; rfl, hh, (fun c q => ni c (by injection q)), hC, fun x m => nlt x (by rw [e2]; exact List.mem_append_right _ m), fun _ => List.cons_ne_nil _ _⟩
theorem hasL_iff {fl sgn mon : List Nat} {pre post : List (List Nat)} {core : List Tk} {q : Ph} (h : Pic fl pre core post sgn mon q) : hasL fl (toks pre core post) = true ↔ isF fl := by
  have hg := pic_good h
  have key : ∀ (T : List Tk) (b : Bool), Good fl b T → (hasL fl T = true → isF fl) := fun T => by
    induction T with
    | nil => intro b _ e; cases e
    | cons t r ih =>
      intro b hg e
      have hh := good_head hg
      unfold hasL at e
      rw [List.map_cons, List.any_cons, hasLead] at e
      cases t with
      | lead => exact hh.1.1
      | _ => exact ih _ hh.2 e
  refine ⟨key _ _ hg, fun hf => ?_⟩
  have hr := h.run
  cases hr with
  | nil => obtain ⟨t, e, _⟩ := h.last; cases e
  | cons n rest =>
    cases n with
    | lead => unfold hasL toks; rw [List.map_append, List.any_append]; simp [roleS]
    | loose0 hz => exact (not_ZF hz hf).elim
    | nine0 e => subst e; rcases hf with f | f | f <;> cases f
theorem signT_len {s : List Nat} {neg : Bool} (h : okfix s) : (signT s neg).length = s.length := by
  rcases h with rfl | rfl | rfl | rfl | rfl <;> cases neg <;> rfl
theorem flen {fl : List Nat} (h : isZ fl ∨ isF fl) : fl.length = 1 := by rcases h with (rfl | rfl) | (rfl | rfl | rfl) <;> rfl
theorem van_cell {fl F : List Nat} {neg b : Bool} {k : Nat} {t : Tk} (h : headOk fl b t) : vlS [42] (kindS t) (cell F neg k t) = vanT fl t ∧ vlS [32] (kindS t) (cell F neg k t) = List.replicate (szOf [sg fl t]) 32 := by
  have one : ∀ (c : Nat) (k x : List Nat), k ≠ kPoint → (if k = kLead then 1 else x.length) = (sg fl t).length → vlS [c] k x = List.replicate (sg fl t).length c := fun c k x hk e => by
    unfold vlS
    rw [if_neg (fun q => hk q.1), repL_str, e]; rfl
  have sz : sg fl t ≠ [80] → sg fl t ≠ [83] → sg fl t ≠ [86] → szOf [sg fl t] = (sg fl t).length := fun a b c => by
    unfold szOf
    rw [List.filter_cons, if_pos (by simp [Ne.symm a, Ne.symm b, Ne.symm c])]
    simp
  have go : kindS t ≠ kPoint → (if kindS t = kLead then 1 else (cell F neg k t).length) = (sg fl t).length → vanT fl t = List.replicate (sg fl t).length 42 → sg fl t ≠ [80] → sg fl t ≠ [83] → sg fl t ≠ [86] → vlS [42] (kindS t) (cell F neg k t) = vanT fl t ∧ vlS [32] (kindS t) (cell F neg k t) = List.replicate (szOf [sg fl t]) 32 := fun h1 h2 h3 a b c => by
    rw [one 42 _ _ h1 h2, one 32 _ _ h1 h2, h3, sz a b c]; exact ⟨rfl, rfl⟩
  cases t with
  | lead => exact go (by decide) (by rw [if_pos (show kindS .lead = kLead from rfl)]; exact (flen (.inr h.1)).symm) rfl (by rcases h.1 with h | h | h <;> (rw [show sg fl .lead = fl from rfl, h]; decide)) (by rcases h.1 with h | h | h <;> (rw [show sg fl .lead = fl from rfl, h]; decide)) (by rcases h.1 with h | h | h <;> (rw [show sg fl .lead = fl from rfl, h]; decide))
  | loose =>
    have hzf : isZ fl ∨ isF fl := h.imp id (·.1)
    have nl : ∀ c, c = [80] ∨ c = [83] ∨ c = [86] → fl ≠ c := fun c hc e => by
      subst e
      rcases hc with e | e | e <;> (rw [e] at hzf; rcases hzf with (f | f) | (f | f | f) <;> cases f)
    exact go (by decide) (by rw [if_neg (by decide)]; exact (flen hzf).symm) rfl (nl _ (.inl rfl)) (nl _ (.inr (.inl rfl))) (nl _ (.inr (.inr rfl)))
  | nine => exact go (by decide) rfl rfl (by show [57] ≠ _; decide) (by show [57] ≠ _; decide) (by show [57] ≠ _; decide)
  | ins c => rcases h with rfl | rfl | rfl | rfl <;> exact go (by decide) rfl rfl (by show [_] ≠ _; decide) (by show [_] ≠ _; decide) (by show [_] ≠ _; decide)
  | fix s =>
    have e : (if kindS (.fix s) = kLead then 1 else (cell F neg k (.fix s)).length) = (sg fl (.fix s)).length := by rw [if_neg (show ¬ kindS (.fix s) = kLead from show ¬ kPlain = kLead by decide)]; exact signT_len h.1
    have hn : s ≠ [80] ∧ s ≠ [83] ∧ s ≠ [86] := by rcases h.1 with rfl | rfl | rfl | rfl | rfl <;> decide
    exact go (show kPlain ≠ kPoint by decide) e rfl hn.1 hn.2.1 hn.2.2
  | dot => exact ⟨rfl, rfl⟩
  | vee => exact ⟨rfl, rfl⟩
  | pee => exact ⟨rfl, rfl⟩
theorem van_eq {fl F : List Nat} {neg : Bool} (T : List Tk) (hg : Good fl false T) : (lawV F (fillT fl T) neg T).flatten = vanR fl T (szOf (T.map (sg fl))) := by
  have k42 : ∀ (T : List Tk) (b : Bool) (k : Nat), Good fl b T → ((ces F neg k T).map fun e => vlS [42] (kindS e.1) e.2) = T.map (vanT fl) := fun T => by
    induction T with
    | nil => intro b k _; rfl
    | cons t r ih =>
      intro b k hg
      have hh := good_head hg
      rw [ces, List.map_cons, List.map_cons, ih _ _ hh.2, (van_cell (F := F) (neg := neg) (k := k) hh.1).1]
  have k32 : ∀ (T : List Tk) (b : Bool) (k : Nat), Good fl b T → ((ces F neg k T).map fun e => vlS [32] (kindS e.1) e.2).flatten = List.replicate (szOf (T.map (sg fl))) 32 := fun T => by
    induction T with
    | nil => intro b k _; rfl
    | cons t r ih =>
      intro b k hg
      have hh := good_head hg
      rw [ces, List.map_cons, List.flatten_cons, ih _ _ hh.2, (van_cell (F := F) (neg := neg) (k := k) hh.1).2, List.map_cons, show szOf (sg fl t :: r.map (sg fl)) = szOf [sg fl t] + szOf (r.map (sg fl)) from szOf_app [_] _, List.replicate_append_replicate]
  unfold lawV vanR fillT
  by_cases h : hasS fl T = true
  · rw [if_pos h, if_pos h, k42 T false 0 hg]
  · rw [if_neg h, if_neg h, k32 T false 0 hg]
theorem set_mid {A A' X Y R : List (List Nat)} {w : List Nat} {n : Nat} (hA : A.length = n) (hA' : A'.length = n) (hR : R ≠ []) (eA : A.flatten = A'.flatten) (eX : X.flatten = Y.flatten) : ((A ++ (R ++ X)).set (n + R.length - 1) w).flatten = ((A' ++ (R ++ Y)).set (n + R.length - 1) w).flatten := by
  have hl : 0 < R.length := List.length_pos_iff.2 hR
  have e : ∀ (A X : List (List Nat)), A.length = n → (A ++ (R ++ X)).set (n + R.length - 1) w = A ++ (R.set (R.length - 1) w ++ X) := fun A X h => by
    rw [List.set_append_right _ _ (by omega), List.set_append_left _ _ (by omega), show n + R.length - 1 - A.length = R.length - 1 by omega]
  rw [e A X hA, e A' Y hA']
  simp only [List.flatten_append]
  rw [eA, eX]
theorem ed_law {fl sgn mon : List Nat} {pre post : List (List Nat)} {core : List Tk} {q : Ph} (h : Pic fl pre core post sgn mon q) {d U : Nat} {neg : Bool} {B D : List Tk} (hU : U < 10 ^ d) (hc : Cut fl (figR d U) pre core post B D) {s : List Nat}
    (h1 : (U = 0 ∧ hasN fl (toks pre core post) = false) → s = (lawV (figR d U) (fillT fl (toks pre core post)) neg (toks pre core post)).flatten)
    (h2 : ¬ (U = 0 ∧ hasN fl (toks pre core post) = false) → (isF fl → s = ((lawW (figR d U) neg (fillT fl (toks pre core post)) pre B D).set (pre.length + B.length - 1) (signT fl neg)).flatten) ∧ (¬ isF fl → s = (lawW (figR d U) neg (fillT fl (toks pre core post)) pre B D).flatten)) :
    s = edT fl (toks pre core post) d U neg (szOf ((toks pre core post).map (sg fl))) false := by
  unfold edT
  rw [if_neg (fun q => by cases q.2)]
  by_cases h0 : U = 0 ∧ hasN fl (toks pre core post) = false
  · rw [if_pos h0, h1 h0, van_eq _ (pic_good h)]
  · rw [if_neg h0]
    obtain ⟨h3, h4⟩ := h2 h0
    have eT : toks pre core post = pre.map Tk.fix ++ (B ++ D) := by unfold toks; rw [hc.eq]
    obtain ⟨n, a⟩ := lay_all (F := figR d U) (fill := fillT fl (toks pre core post)) (neg := neg) (pre := pre) hc.hd hc.hid hc.hC hc.nl
    rw [← eT] at a
    unfold layF fixS
    rw [a.fd, a.sp]
    have lA : (cellsL (figR d U) neg 0 (pre.map Tk.fix)).length = pre.length := cellsL_fix _ _ _ _
    have lA' : (cellsT (figR d U) neg 0 (pre.map Tk.fix)).length = pre.length := by rw [cellsT_len, List.length_map]
    by_cases hf : isF fl
    · rw [if_pos ((hasL_iff h).2 hf), h3 hf]
      have hB := hc.ne hf
      have hBl : 0 < B.length := List.length_pos_iff.2 hB
      rw [if_neg hB, show (((pre.length + B.length - 1 : Nat) : Int)).toNat = pre.length + B.length - 1 from rfl]
      unfold lawW
      have := set_mid (w := signT fl neg) (R := List.replicate B.length (fillT fl (toks pre core post))) lA' lA (by intro e; have q1 := congrArg List.length e; rw [List.length_replicate] at q1; exact absurd q1 (Nat.ne_of_gt hBl)) (cellsL_flat (figR d U) neg (pre.map Tk.fix) 0).symm (cellsL_flat (figR d U) neg D (nD B)).symm
      rw [List.length_replicate] at this
      exact this
    · rw [if_neg (fun e => hf ((hasL_iff h).1 e)), h4 hf]
      unfold lawW
      simp only [List.flatten_append]
      rw [cellsL_flat, cellsL_flat]
theorem cut_counts {fl sgn mon : List Nat} {pre post : List (List Nat)} {core : List Tk} {q : Ph} (h : Pic fl pre core post sgn mon q) {d U : Nat} {B D : List Tk} (hU : U < 10 ^ d) (hd : nD (toks pre core post) = d) (hc : Cut fl (figR d U) pre core post B D) (h0 : ¬ (U = 0 ∧ hasN fl (toks pre core post) = false)) :
    ∃ t r, D = t :: r ∧ counts (figR d U) (nD B) t := by
  have eT : toks pre core post = pre.map Tk.fix ++ (B ++ D) := by unfold toks; rw [hc.eq]
  have no : hasN fl D = false ∧ nD D = 0 → False := fun q => by
    refine h0 ⟨all_zero hU fun j hj => hid_zero B 0 hc.hid j (Nat.zero_le _) ?_, ?_⟩
    · rw [eT, nD_app, nD_app, nD_fix, q.2] at hd; exact ax8dbbb9 hd hj
    · rw [eT, hasN_app, hasN_app, (tail_noN (pre.map Tk.fix) (fix_tail pre)).1, hid_noN B 0 hc.hid, q.1]; rfl
  rcases hc.hC with e | e | ⟨t, r, e, hcn⟩
  · subst e; exact (no ⟨rfl, rfl⟩).elim
  · exact (no (tail_noN D e)).elim
  · exact ⟨t, r, e, by rw [Nat.zero_add] at hcn; exact hcn⟩
theorem cut_spot {fl sgn mon : List Nat} {pre post : List (List Nat)} {core : List Tk} {q : Ph} (h : Pic fl pre core post sgn mon q) (hl : hasL fl (toks pre core post) = true) (F fill : List Nat) (neg : Bool) :
    0 ≤ ((toks pre core post).foldl (layStep F fill neg) st0).spot ∧ ((toks pre core post).foldl (layStep F fill neg) st0).spot.toNat < ((toks pre core post).foldl (layStep F fill neg) st0).found.length := by
  obtain ⟨B, D, hc⟩ := cut_of h F
  have eT : toks pre core post = pre.map Tk.fix ++ (B ++ D) := by unfold toks; rw [hc.eq]
  obtain ⟨n, a⟩ := lay_all (F := F) (fill := fill) (neg := neg) (pre := pre) hc.hd hc.hid hc.hC hc.nl
  rw [← eT] at a
  have hB := hc.ne ((hasL_iff h).1 hl)
  have hBl : 0 < B.length := List.length_pos_iff.2 hB
  rw [a.fd, a.sp, if_neg hB, List.length_append, List.length_append, List.length_replicate, cellsL_fix]
  omega
theorem pic_okS {fl sgn mon : List Nat} {pre post : List (List Nat)} {core : List Tk} {q : Ph} (h : Pic fl pre core post sgn mon q) : ∀ t ∈ toks pre core post, okS (sg fl t) := fun t m =>
  (by decide : ∀ s ∈ allSigns, s.length ≤ 2 ∧ ∀ c ∈ s, c < 256) _ (signs_all h _ (by rw [signs_toks]; exact List.mem_map_of_mem m))
theorem pic_ge {fl sgn mon : List Nat} {pre post : List (List Nat)} {core : List Tk} {q : Ph} (h : Pic fl pre core post sgn mon q) (hf : isF fl) : 2 ≤ cnt fl ((toks pre core post).map (sg fl)) := by rw [← signs_toks]; exact cnt_ge h hf
theorem pic_le {fl sgn mon : List Nat} {pre post : List (List Nat)} {core : List Tk} {q : Ph} (h : Pic fl pre core post sgn mon q) (c : List Nat) (hc : isF c) (hn : fl ≠ c) : cnt c ((toks pre core post).map (sg fl)) ≤ 1 := by rw [← signs_toks]; exact cnt_le h hc hn
noncomputable def figI (d U k : Nat) : Int := ((U / 10 ^ (d - 1 - k) % 10 : Nat) : Int)
theorem figI_get {d U k : Nat} (h : k < d) : ((List.range d).map fun k => V.int (figI d U k))[k]? = some (.int (figI d U k)) ∧ decF 31 (figI d U k).toNat = [fig (figR d U) k] ∧ 0 ≤ figI d U k ∧ figI d U k < 10 := by
  have hm : U / 10 ^ (d - 1 - k) % 10 < 10 := Nat.mod_lt _ (by decide)
  refine ⟨by simp [h], ?_, by unfold figI; exact axb956d2, by unfold figI; exact ax688fae hm⟩
  have : fig (figR d U) k = 48 + U / 10 ^ (d - 1 - k) % 10 := by
    unfold fig
    rw [List.getD_eq_getElem?_getD, figR_get d U k h]; rfl
  rw [this]
  show (if (figI d U k).toNat < 10 then [48 + (figI d U k).toNat] else _) = _
  rw [if_pos (by unfold figI; omega)]; rfl
theorem flo_no {fl : List Nat} {fs : List (List Nat)} (hf : FloL fl fs) {s : List Nat} (h : isF fl → s ≠ fl) : fs.any (· == s) = false := by
  by_cases f : isF fl
  · rw [hf.1 f]; simp [(h f).symm]
  · rw [hf.2 f]; rfl
theorem flo_lit {fl : List Nat} {fs : List (List Nat)} (hf : FloL fl fs) {s : List Nat} (h : ¬ isF s) : fs.any (· == s) = false := flo_no hf fun f e => h (e ▸ f)
theorem flo_yes {fl : List Nat} {fs : List (List Nat)} (hf : FloL fl fs) (f : isF fl) : fs.any (· == fl) = true := by rw [hf.1 f]; simp
theorem ces_snoc (F : List Nat) (neg : Bool) (a : List Tk) (t : Tk) : ces F neg 0 (a ++ [t]) = ces F neg 0 a ++ [(t, cell F neg (nD a) t)] := by rw [ces_app, Nat.zero_add]; rfl
noncomputable def figU (d U : Nat) : V → V
  | .int k => .int (figI d U k.toNat)
  | v => v
noncomputable def B_ce2 : SX := sSeq (sExpr (eBM 1 fAppend (eLoc 5) (lCons (eTup (lCons (eLoc 9) (lCons (eLoc 10) (lNil)))) (lNil)))) (sNil)
inductive CeI (H : Hp) (fl : List Nat) (T : List Tk) (fs : List (List Nat)) (d U : Nat) (neg : Bool) (t gf ft C : Nat) (held : Int) : List V → Rho → Hp → Prop
  | mk (a b : List Tk) (l : Bool) (fi q : Int) (x y z : Option V) (H' : Hp) (e : T = a ++ b) (gd : Good fl l b) (f1 : l = false → fi < 0) (f2 : l = true → 0 ≤ fi) (hq : q = (nD a : Nat)) (gK : H'[C]? = some (.list ((ces (figR d U) neg 0 a).map ceV))) (ggK : H'[gf]? = some (.list ((List.range d).map fun k => V.int (figI d U k)))) (gfK : H'[ft]? = some (.list (fs.map V.str))) (X : Lx [] H H') :
    CeI H fl T fs d U neg t gf ft C held (b.map (sgV fl)) [some (.ref t), some (.int held), some (.int (d : Nat)), some (.ref gf), some (.ref ft), some (.ref C), some (.int fi), some (.int q), x, y, z, none, none, none, none, none, none, none] H'
theorem law_edited_ok {H : Hp} {K : KV} {t d U : Nat} {fl sgn mon : List Nat} {pre post : List (List Nat)} {core : List Tk} {qp : Ph} {T : List Tk} {neg : Bool} {held : Int} (hp : Pic fl pre core post sgn mon qp) (hT : T = toks pre core post) (ht : H[t]? = some (.list (T.map (sgV fl)))) (hl : T.length ≤ 30)
    (hd : d ≤ 18) (hD : nD T = d) (hU : U < 10 ^ d) (hh1 : neg = decide (held < 0)) (hh2 : held.natAbs = U) (kk : ∀ z H', z = edT fl T d U neg (szOf (T.map (sg fl))) false → Lx [] H H' → K (.str z) H') : callAt F_law_edited [.ref t, .int held, .int (d : Nat)] H K := by
  have hg : Good fl false T := hT ▸ pic_good hp
  have hge : isF fl → 2 ≤ cnt fl (T.map (sg fl)) := hT ▸ pic_ge hp
  have hle : ∀ c, isF c → fl ≠ c → cnt c (T.map (sg fl)) ≤ 1 := hT ▸ pic_le hp
  refine ⟨⟨⟨by exact axc53936 hd, by exact ax6fa31b⟩, comp_go ((List.range d).map fun (j : Nat) => V.int (j : Nat)) (fun _ => true) (figU d U) (by rw [List.length_map, List.length_range]; exact len30 (by exact axc81f52 hd)) (fun _ _ => has_items) (fun v hv H' G₁ G₀ X h1 h0 => ?_) fun H1 X1 => new_at' fun gf H2 ggf X2 l2 =>
    ⟨comp_go [.str [36], .str [43], .str [45]] (flC (T.map (sg fl))) id (show 3 ≤ lenMax by decide) (fun H' X => has_items) (fun v hv H' G₁ G₀ X h1 h0 => ?_) fun H3 X3 => new_at' fun ft H4 gft X4 l4 => new_at' fun C H5 gC X5 l5 => ?_⟩⟩⟩
  · obtain ⟨k, hk, rfl⟩ := List.mem_map.1 hv
    have hk := List.mem_range.1 hk
    refine ⟨by decide, by exact ax45e39c hk, by exact axca42dc hd, by rw [Int.natAbs_pow]; exact pow_lt (by omega), Int.ne_of_gt (Int.pow_pos (by decide)), by decide, ?_⟩
    have e : ((if held < 0 then -held else held).fdiv (10 ^ (((d : Nat) : Int) - 1 - (k : Nat)).toNat)).fmod 10 = figI d U k := by
      rw [abs_nat, hh2, show (((d : Nat) : Int) - 1 - (k : Nat)).toNat = d - 1 - k by omega]
      unfold figI
      rw [← nat_fmod, ← nat_fdiv]; simp
    rw [e]
    exact h1 rfl _ X
  · have ht' := X.at0 (X2.at0 (X1.at0 ht))
    rw [sgV_map] at ht'
    obtain ⟨c, rfl⟩ : ∃ c, v = .str c := by simp at hv; rcases hv with rfl | rfl | rfl <;> exact ⟨_, rfl⟩
    exact at_list ht' (at_list ht' ⟨_, strs_map _, if_d (fun h => h1 (decide_eq_true (Int.ofNat_lt.1 h)) _ X) fun h => h0 (decide_eq_false fun q => h (Int.ofNat_lt.2 q)) _ X⟩)
  have e1 : (((List.range d).map fun (j : Nat) => V.int (j : Nat)).filter fun _ => true).map (figU d U) = (List.range d).map fun k => V.int (figI d U k) := by
    rw [List.filter_eq_self.2 (fun _ _ => rfl), List.map_map]; rfl
  rw [e1] at ggf
  obtain ⟨fs, efs, hfs⟩ := flo_list hge hle
  rw [efs] at gft
  have X03 := (X1.trans X2).trans X3
  have X05 := (X03.trans X4).trans X5
  have ggf5 := X5.at0 (X4.at0 (X3.at0 ggf))
  have gft5 := X5.at0 gft
  have lC : H.length ≤ C := Nat.le_trans (X03.trans X4).len l5
  have hgC : gf ≠ C := fun q => by have := get_lt (X4.at0 (X3.at0 ggf)); exact ax89a702 l5 q this
  have hfC : ft ≠ C := fun q => by have := get_lt gft; exact ax89a702 l5 q this
  refine ⟨at_list (X05.at0 ht) (for_go (T.map (sgV fl)) (CeI H fl T fs d U neg t gf ft C held) ⟨[], T, false, -1, 0, none, none, none, H5, rfl, hg, (fun _ => by decide), (fun q => nomatch q), rfl, gC, ggf5, gft5, X05⟩
    (fun r ρ H' h => by cases h with | mk _ _ _ _ _ _ _ _ _ _ _ _ _ _ _ _ _ X => exact has_list (X.at0 ht)) ?_ ?_)⟩
  · intro v r ρ H' G go h
    generalize hv : v :: r = vr at h
    obtain ⟨a, b, l, fi, q, x, y, z, _, e, gd, f1, f2, hq, gK, ggK, gfK, X⟩ := h
    cases b with
    | nil => cases hv
    | cons tk b =>
    cases hv
    have hh := good_head gd
    have cl : T.length = a.length + (b.length + 1) := by rw [e]; simp
    have lc : ((ces (figR d U) neg 0 a).map ceV).length ≤ lenMax := by rw [List.length_map, ces_len]; exact len30 (by exact axba9f05 hl cl)
    have nDe := nD_snoc a tk
    have fin : ∀ (k w : List Nat) (fi' q' : Int), k = kindS tk → w = cell (figR d U) neg (nD a) tk → (ldB l tk = false → fi' < 0) → (ldB l tk = true → 0 ≤ fi') → q' = (nD (a ++ [tk]) : Nat) →
        B_ce2 [some (.ref t), some (.int held), some (.int (d : Nat)), some (.ref gf), some (.ref ft), some (.ref C), some (.int fi'), some (.int q'), some (sgV fl tk), some (.str k), some (.str w), none, none, none, none, none, none, none] H' G K := fun k w fi' q' hk hw g1 g2 hq' =>
      at_list gK (at_list gK ⟨lc, put_at gK fun K2 g3 X3 => go _ _ ⟨a ++ [tk], b, _, fi', q', _, _, _, K2, by rw [e]; simp, hh.2, g1, g2, hq', by rw [g3, ces_snoc, List.map_append, hk, hw]; rfl, X3.at1 hgC ggK, X3.at1 hfC gfK, Lx.fresh X X3 (by simp; exact axcb450d lC)⟩⟩)
    have fin0 : ∀ (k w : List Nat), k = kindS tk → w = cell (figR d U) neg (nD a) tk → ldB l tk = l → dg tk = 0 →
        B_ce2 [some (.ref t), some (.int held), some (.int (d : Nat)), some (.ref gf), some (.ref ft), some (.ref C), some (.int fi), some (.int q), some (sgV fl tk), some (.str k), some (.str w), none, none, none, none, none, none, none] H' G K := fun k w hk hw hl0 hd0 =>
      fin k w fi q hk hw (fun z => f1 (hl0 ▸ z)) (fun z => f2 (hl0 ▸ z)) (by rw [hq, nDe, hd0]; rfl)
    have dig : ∀ k : List Nat, k = kindS tk → dg tk = 1 → ldB l tk = l → cell (figR d U) neg (nD a) tk = [fig (figR d U) (nD a)] →
        lCons (eFun fStr (lCons (eOp2 vIdx (eLoc 3) (eLoc 7)) (lNil))) (lCons (eOp2 vAdd (eLoc 7) (eCon (.int 1))) (lNil)) [some (.ref t), some (.int held), some (.int (d : Nat)), some (.ref gf), some (.ref ft), some (.ref C), some (.int fi), some (.int q), some (sgV fl tk), some (.str kPlain), some (sgV fl tk), none, none, none, none, none, none, none] H' fun vs H₁ =>
          cnd (bRev [7, 10, 9] (.tup (.str k :: vs)) [some (.ref t), some (.int held), some (.int (d : Nat)), some (.ref gf), some (.ref ft), some (.ref C), some (.int fi), some (.int q), some (sgV fl tk), some (.str kPlain), some (sgV fl tk), none, none, none, none, none, none, none] fun ρ => B_ce2 ρ H₁ G K) False (Nat.ble (V.str k :: vs).length lenMax) := fun k hk hd1 hl0 hc => by
      have lt : nD a < d := by rw [← hD, e, nD_app, nD, hd1]; exact ax94c015
      obtain ⟨g1, g2, g3, g4⟩ := figI_get (U := U) lt
      refine at_list ggK (on_some (pyIdx_nat hq (by exact ax8afdcb hd lt)) (on_some g1 ⟨⟨g3, by exact ax4df5f9 g4⟩, ?_⟩))
      exact fin k _ fi (q + 1) hk (g2.trans hc.symm) (fun z => f1 (hl0 ▸ z)) (fun z => f2 (hl0 ▸ z)) (by rw [hq, nDe, hd1]; rfl)
    cases tk with
    | lead => exact at_list gfK (on_some (strs_map _) (if_t (flo_yes hfs hh.1.1) (lt_t (f1 hh.1.2) (at_list gK ⟨lc, fin kLead [] _ q rfl rfl (fun z => nomatch z) (fun _ => Int.natCast_nonneg _) (by rw [hq, nDe]; rfl)⟩))))
    | loose =>
      rcases hh.1 with hz | ⟨hf, hb⟩
      · have h3 : [[57], [90], [42]].any (· == fl) = true := by rcases hz with rfl | rfl <;> rfl
        have h4 : fl ≠ [57] := by rcases hz with rfl | rfl <;> decide
        exact at_list gfK (on_some (strs_map _) (if_f (flo_no hfs fun f => (not_ZF hz f).elim) (if_f rfl (if_t h3 (if_t rfl (ne_t h4 (dig kLoose rfl rfl rfl rfl)))))))
      · have h3 : [[57], [90], [42]].any (· == fl) = false := by rcases hf with rfl | rfl | rfl <;> rfl
        have h4 : fl ≠ [57] := by rcases hf with rfl | rfl | rfl <;> decide
        exact at_list gfK (on_some (strs_map _) (if_t (flo_yes hfs hf) (lt_f (f2 hb) (if_f rfl (if_f h3 (at_list gfK (on_some (strs_map _) (if_t (flo_yes hfs hf) (if_t rfl (ne_t h4 (dig kLoose rfl rfl rfl rfl)))))))))))
    | nine => exact at_list gfK (on_some (strs_map _) (if_f (flo_lit hfs (s := [57]) (by unfold isF; decide)) (dig kNine rfl rfl rfl rfl)))
    | dot => exact at_list gfK (on_some (strs_map _) (if_f (flo_lit hfs (s := [46]) (by unfold isF; decide)) (at_list gfK (on_some (strs_map _) (if_f (flo_lit hfs (s := [46]) (by unfold isF; decide)) (fin0 kPoint [46] rfl rfl rfl rfl))))))
    | vee => exact at_list gfK (on_some (strs_map _) (if_f (flo_lit hfs (s := [86]) (by unfold isF; decide)) (at_list gfK (on_some (strs_map _) (if_f (flo_lit hfs (s := [86]) (by unfold isF; decide)) (fin0 kPoint [] rfl rfl rfl rfl))))))
    | pee => exact at_list gfK (on_some (strs_map _) (if_f (flo_lit hfs (s := [80]) (by unfold isF; decide)) (at_list gfK (on_some (strs_map _) (if_f (flo_lit hfs (s := [80]) (by unfold isF; decide)) (fin0 kPlain [] rfl rfl rfl rfl))))))
    | ins c =>
      have hfn : fs.any (· == [c]) = false := flo_lit hfs (by rcases hh.1 with rfl | rfl | rfl | rfl <;> (unfold isF; decide))
      have h3 : [[57], [90], [42]].any (· == [c]) = false := by rcases hh.1 with rfl | rfl | rfl | rfl <;> rfl
      have h4 : [[44], [47], [66], [48]].any (· == [c]) = true := by rcases hh.1 with rfl | rfl | rfl | rfl <;> rfl
      refine at_list gfK (on_some (strs_map _) (if_f hfn (if_f rfl (if_f h3 (at_list gfK (on_some (strs_map _) (if_f hfn (if_t h4 (if_b (fun h5 => fin0 kPut_ [32] rfl ?_ rfl rfl) fun h5 => fin0 kPut_ [c] rfl ?_ rfl rfl)))))))))
      · exact (if_pos (by have q : [c] = [66] := eq_of_beq h5; simpa using q)).symm
      · exact (if_neg fun z => ne_of_beq_false (show ([c] == [66]) = false from h5) (by rw [z])).symm
    | fix s =>
      have hfn : fs.any (· == s) = false := flo_no hfs hh.1.2
      have sgl : ∀ w, w = signT s (decide (held < 0)) → w = cell (figR d U) neg (nD a) (.fix s) := fun w hw => by rw [hw, hh1]; rfl
      have st : ∀ c, decide (held < 0) = c → ∀ w, w = signT s c → w = cell (figR d U) neg (nD a) (.fix s) := fun c hc w hw => sgl w (hc.symm ▸ hw)
      rcases hh.1.1 with rfl | rfl | rfl | rfl | rfl
      · exact at_list gfK (on_some (strs_map _) (if_f hfn (at_list gfK (on_some (strs_map _) (if_f hfn (fin0 kPlain [36] rfl rfl rfl rfl))))))
      · exact at_list gfK (on_some (strs_map _) (if_f hfn (at_list gfK (on_some (strs_map _) (if_f hfn (if_b (fun h0 => fin0 kPlain [45] rfl (st _ h0 _ rfl) rfl rfl) fun h0 => fin0 kPlain [43] rfl (st _ h0 _ rfl) rfl rfl))))))
      · exact at_list gfK (on_some (strs_map _) (if_f hfn (at_list gfK (on_some (strs_map _) (if_f hfn (if_b (fun h0 => fin0 kPlain [45] rfl (st _ h0 _ rfl) rfl rfl) fun h0 => fin0 kPlain [32] rfl (st _ h0 _ rfl) rfl rfl))))))
      · exact at_list gfK (on_some (strs_map _) (if_f hfn (at_list gfK (on_some (strs_map _) (if_f hfn (if_b (fun h0 => fin0 kPlain [67, 82] rfl (st _ h0 _ rfl) rfl rfl) fun h0 => fin0 kPlain [32, 32] rfl (st _ h0 _ rfl) rfl rfl))))))
      · exact at_list gfK (on_some (strs_map _) (if_f hfn (at_list gfK (on_some (strs_map _) (if_f hfn (if_b (fun h0 => fin0 kPlain [68, 66] rfl (st _ h0 _ rfl) rfl rfl) fun h0 => fin0 kPlain [32, 32] rfl (st _ h0 _ rfl) rfl rfl))))))
  · intro ρ H' h
    generalize hv : ([] : List V) = vr at h
    obtain ⟨a, b, l, fi, q, x, y, z, _, e, gd, f1, f2, hq, gK, ggK, gfK, X⟩ := h
    cases b with
    | cons => cases hv
    | nil =>
    rw [List.append_nil] at e
    subst e
    obtain ⟨B, D, hc⟩ := cut_of hp (figR d U)
    have ok2 : ∀ x ∈ T, (sg fl x).length ≤ 2 := fun x m => (pic_okS hp x (hT ▸ m)).1
    have eT : T = pre.map Tk.fix ++ (B ++ D) := by rw [hT]; unfold toks; rw [hc.eq]
    have h0U : ∀ P : Prop, (held = 0 ∧ P) ↔ (U = 0 ∧ P) := fun P => by
      constructor
      · rintro ⟨a, b⟩; exact ⟨by rw [← hh2, a]; rfl, b⟩
      · rintro ⟨a, b⟩; exact ⟨by omega, b⟩
    have hW : ∀ x ∈ lawW (figR d U) neg (fillT fl T) pre B D, x.length ≤ 2 := fun x m => by
      have hf2 : (fillT fl T).length ≤ 2 := by unfold fillT; split <;> decide
      rcases List.mem_append.1 (show x ∈ cellsT (figR d U) neg 0 (pre.map Tk.fix) ++ (List.replicate B.length (fillT fl T) ++ cellsT (figR d U) neg (nD B) D) from m) with m | m
      · exact cellsT_ok (fl := fl) _ _ (fun y q => ok2 y (by rw [eT]; exact List.mem_append_left _ q)) x m
      · rcases List.mem_append.1 m with m | m
        · rw [(List.mem_replicate.1 m).2]; exact hf2
        · exact cellsT_ok (fl := fl) _ _ (fun y q => ok2 y (by rw [eT]; exact List.mem_append_right _ (List.mem_append_right _ q))) x m
    refine le2_ok (F := figR d U) (fl := fl) (T := T) (neg := neg) (pre := pre) (B := B) (D := D) (X.at0 ht) hg eT hc.hd hc.hid (fun q => cut_counts hp hU (hT ▸ hD) hc (fun q' => q ((h0U _).2 (by rw [hT]; exact q')))) hc.ne gK gfK hfs hl hh1 hW (ces_ok T 0 ok2) fun s H2 s1 s2 X2 => kk s H2 ?_ (X.trans X2)
    rw [hT] at s1 s2 ⊢
    exact ed_law hp hU hc (fun q => s1 ((h0U _).2 q)) fun q => s2 fun q' => q ((h0U _).1 q')
theorem Pen.lx {S : List Nat} {H H' : Hp} {p k n : Nat} (h : Pen H p k n) (X : Lx S H H') (hS : ∀ i ∈ S, n ≤ i) : Pen H' p k n := by
  obtain ⟨L, xs, a, b, c, hp, hL, ne, ha, hk, hc, hc', hx, h1, h2⟩ := h
  exact ⟨L, xs, a, b, c, X.get _ _ (fun m => Nat.not_lt.2 (hS _ m) h1) hp, X.get _ _ (fun m => Nat.not_lt.2 (hS _ m) h2) hL, ne, ha, hk, hc, hc', hx, h1, h2⟩
theorem Pen.le {H : Hp} {p k k' n : Nat} (h : Pen H p k n) (q : k ≤ k') : Pen H p k' n := by
  obtain ⟨L, xs, a, b, c, hp, hL, ne, ha, hk, hc, hc', hx, h1, h2⟩ := h
  exact ⟨L, xs, a, b, c, hp, hL, ne, ha, Int.le_trans hk (Int.ofNat_le.2 q), hc, hc', hx, h1, h2⟩
theorem Pen.lt {H : Hp} {p k n : Nat} (h : Pen H p k n) : p < n := match h with | ⟨_, _, _, _, _, _, _, _, _, _, _, _, _, h, _⟩ => h
theorem lt4 {d : Int} (h0 : 0 ≤ d) (h1 : d < 4) : d = 0 ∨ d = 1 ∨ d = 2 ∨ d = 3 := by
  obtain ⟨k, rfl⟩ := Int.eq_ofNat_of_zero_le h0
  exact (by decide : ∀ k : Nat, k < 4 → (k : Int) = 0 ∨ (k : Int) = 1 ∨ (k : Int) = 2 ∨ (k : Int) = 3) k (Int.ofNat_lt.1 h1)
theorem lt6 {d : Int} (h0 : 0 ≤ d) (h1 : d < 6) : d = 0 ∨ d = 1 ∨ d = 2 ∨ d = 3 ∨ d = 4 ∨ d = 5 := by
  obtain ⟨k, rfl⟩ := Int.eq_ofNat_of_zero_le h0
  exact (by decide : ∀ k : Nat, k < 6 → (k : Int) = 0 ∨ (k : Int) = 1 ∨ (k : Int) = 2 ∨ (k : Int) = 3 ∨ (k : Int) = 4 ∨ (k : Int) = 5) k (Int.ofNat_lt.1 h1)
theorem pick_int (l : List Int) {d : Int} (h0 : 0 ≤ d) (h1 : d < (l.length : Nat)) : ∃ m ∈ l, (l.map V.int)[d.toNat]? = some (.int m) := by
  obtain ⟨k, rfl⟩ := Int.eq_ofNat_of_zero_le h0
  have h : k < l.length := Int.ofNat_lt.1 h1
  exact ⟨l[k], List.getElem_mem h, by show (l.map V.int)[k]? = _; rw [List.getElem?_map, List.getElem?_eq_getElem h]; rfl⟩
theorem number_ok' {H : Hp} {p k n : Nat} {K : KV} (h : Pen H p k n) (hk : k ≤ 900) (kk : ∀ (u : Int) (s : Nat) H', u.natAbs < 1152921504606846976 → s < 5 → Pen H' p (k + 5) n → Lx [p] H H' → K (.tup [.int u, .int s]) H') : callAt F_law_number [.ref p] H K := by
  refine ⟨draw_ok h (by exact axd518ee hk) (by decide) (by decide) fun d H1 d0 d1 h1 X1 => ?_⟩
  obtain ⟨m, hm', hm⟩ := pick_int [0, 1, 5, 10, 99, 100, 1050, 987654321] d0 d1
  have m01 := (by decide : ∀ m ∈ ([0, 1, 5, 10, 99, 100, 1050, 987654321] : List Int), 0 ≤ m ∧ m ≤ 987654321) m hm'
  refine on_some (pyIdx_nat (Int.toNat_of_nonneg d0).symm (by omega)) (on_some hm (draw_ok h1 (by exact axa9975a hk) (by decide) (by decide) fun e H2 e0 e1 h2 X2 => ?_))
  obtain ⟨q, hq', hq⟩ := pick_int [1, 1, 10, 100, 1000] e0 e1
  have mq := mul_bd m01 ((by decide : ∀ q ∈ ([1, 1, 10, 100, 1000] : List Int), 0 ≤ q ∧ q ≤ 1000) q hq')
  refine on_some (pyIdx_nat (Int.toNat_of_nonneg e0).symm (by omega)) (on_some hq ⟨by omega, draw_ok h2 (by exact ax015e36 hk) (by decide) (by decide) fun f H3 f0 f1 h3 X3 => draw_ok h3 (by exact ax805753 hk) (by decide) (by decide) fun g H4 g0 g1 h4 X4 => ?_⟩)
  have X04 := ((X1.trans X2).trans X3).trans X4
  have go : ∀ u : Int, u.natAbs < 1152921504606846976 → callAt F_law_draw [.ref p, .int 5] H4 fun v H => K (.tup [.int u, v]) H := fun u hu =>
    draw_ok h4 (by exact ax3dd3a5 hk) (by decide) (by decide) fun s H5 s0 s1 h5 X5 => by
      obtain ⟨s', rfl⟩ := Int.eq_ofNat_of_zero_le s0
      exact kk u s' H5 hu (by exact ax2d4115 s1) h5 (X04.trans X5)
  exact if_b (fun _ => go _ (by omega)) fun _ => go _ (by omega)
noncomputable def okp : Ph → Prop
  | .pL => True | .p1 => True | .p2 => True | _ => False
noncomputable def bas : Tk → Prop
  | .lead => True | .loose => True | .nine => True | _ => False
theorem nx_okp {fl : List Nat} {p q : Ph} {t : Tk} (h : Nxt fl p t q) (hp : p = .p0 ∨ okp p) (ht : bas t) : okp q := by
  cases h <;> first | trivial | exact ht.elim | (rcases hp with e | e; cases e; exact e.elim)
theorem nx_ins {fl : List Nat} {p : Ph} {c : Nat} (h : okp p) (hc : okc c) : Nxt fl p (.ins c) p := by
  cases p <;> first | exact .insL c hc | exact .ins1 c hc | exact .ins2 c hc | exact h.elim
theorem Run.snoc {fl : List Nat} {p q r : Ph} {a : List Tk} {t : Tk} (h : Run fl p a q) (n : Nxt fl q t r) : Run fl p (a ++ [t]) r := h.app (.cons n (.nil _))
theorem nP_app : ∀ a b : List Tk, nP (a ++ b) = nP a + nP b
  | [], b => (Nat.zero_add _).symm
  | t :: a, b => by rw [List.cons_append, nP, nP, nP_app a b, Nat.add_assoc]
noncomputable def B_ins2 : SX := sSeq (sExpr (eBM 1 fAppend (eLoc 2) (lCons (eLoc 4) (lNil)))) (sNil)
inductive InsI (H : Hp) (fl : List Nat) (base : List Tk) (q : Ph) (p k n S F : Nat) : List V → Rho → Hp → Prop
  | mk (a b m : List Tk) (ph : Ph) (x y : Option V) (H' : Hp) (r : List V) (e : base = a ++ b) (er : r = (b.map (sgV fl)).mapIdx (fun j v => V.tup [.int ((a.length + j : Nat) : Int), v])) (g : H'[F]? = some (.list (m.map (sgV fl)))) (X : Lx [p] H H') (pen : Pen H' p (k + 2 * a.length) n)
    (r1 : Run fl .p0 m ph) (r2 : Run fl ph b q) (a0 : a = [] → ph = .p0) (a1 : a ≠ [] → okp ph) (ml : m.length ≤ 2 * a.length) (md : nD m = nD a) (mp : nP m = 0) (mg : m.getLast? = a.getLast?) : InsI H fl base q p k n S F r [some (.ref p), some (.ref S), some (.ref F), x, y] H'
theorem inserted_ok {H : Hp} {fl : List Nat} {base : List Tk} {q : Ph} {p k n S : Nat} {K : KV} (hS : H[S]? = some (.list (base.map (sgV fl)))) (hr : Run fl .p0 base q) (hb : ∀ t ∈ base, bas t) (hl : base.length ≤ 10) (h : Pen H p k n) (hk : k ≤ 900) (hn : n ≤ H.length) (hSp : S ≠ p)
    (kk : ∀ F m H', H'[F]? = some (.list (m.map (sgV fl))) → Run fl .p0 m q → m.length ≤ 20 → nD m = nD base → nP m = 0 → m.getLast? = base.getLast? → Pen H' p (k + 20) n → Lx [p] H H' → H.length ≤ F → K (.ref F) H') : callAt F_law_inserted [.ref p, .ref S] H K := by
  have hpn := h.lt
  refine ⟨new_at' fun F H1 gF X1 l1 => ⟨at_list (X1.at0 hS) (for_go ((base.map (sgV fl)).mapIdx fun j v => V.tup [.int (j : Nat), v]) (InsI H fl base q p k n S F) ⟨[], base, [], .p0, none, none, H1, _, rfl, by congr 1; funext j v; rw [List.length_nil, Nat.zero_add], gF, X1.nil, h.lx X1 (fun _ q => nomatch q), .nil _, hr, fun _ => rfl, fun q => absurd rfl q, Nat.le_refl _, rfl, rfl, rfl⟩
    (fun r ρ H' h => by cases h with | mk _ _ _ _ _ _ _ _ _ _ _ X => exact has_enum (X.at1 hSp hS)) ?_ ?_)⟩⟩
  · intro v r ρ H' G go h
    have hF : F ≠ p := fun q => by exact ax04a511 hn hpn l1 q
    generalize hv : v :: r = vr at h
    obtain ⟨a, b, m, ph, x, y, _, _, e, er, gK, X, pen, r1, r2, a0, a1, ml, md, mp, mg⟩ := h
    subst hv
    cases b with
    | nil => cases er
    | cons t b =>
    rw [mapIdx_shift] at er
    cases er
    cases r2 with
    | cons nx r2 =>
    rename_i ph'
    have ht := hb t (by rw [e]; simp)
    have cl : base.length = a.length + (b.length + 1) := by rw [e]; simp
    have okq : okp ph' := nx_okp nx (by by_cases q : a = []; exact .inl (a0 q); exact .inr (a1 q)) ht
    have npt : pp t = 0 := by cases t <;> first | rfl | exact ht.elim
    have fin : ∀ (K' : Hp) (m' : List Tk), Run fl .p0 m' ph → m'.length ≤ 2 * a.length + 1 → nD m' = nD a → nP m' = 0 → K'[F]? = some (.list (m'.map (sgV fl))) → Lx [p] H K' → Pen K' p (k + 2 * (a.length + 1)) n → B_ins2 [some (.ref p), some (.ref S), some (.ref F), some (.int (a.length : Nat)), some (sgV fl t)] K' G K := fun K' m' q1 q2 q3 q4 q5 q6 q7 => by
      refine at_list q5 (at_list q5 ⟨by rw [List.length_map]; exact len30 (by exact ax311112 hl cl q2), put_at q5 fun K2 g2 X2 => go _ _ ⟨a ++ [t], b, m' ++ [t], ph', _, _, K2, _, by rw [e]; simp, by rw [List.length_append]; rfl, by rw [g2, List.map_append]; rfl, Lx.fresh q6 X2 fun i m => .inr (List.mem_singleton.1 m ▸ l1), ?_, q1.snoc nx, r2, fun q => by simp at q, fun _ => okq, by simp; exact ax4bc3a3 q2, by rw [nD_snoc, nD_snoc, q3], ?_, by rw [List.getLast?_concat, List.getLast?_concat]⟩⟩)
      · rw [List.length_append]
        exact q7.lx X2 fun i m => List.mem_singleton.1 m ▸ Nat.le_trans hn l1
      · rw [nP_app, q4, nP, npt]; rfl
    by_cases ha : a = []
    · exact lt_f (by rw [ha]; decide) (fin H' m r1 (by exact ax1fd68f ml) md mp gK X (pen.le (by exact ax1d18c5)))
    refine lt_t (by have := List.length_pos_iff.2 ha; exact axcc7fd4 this) (draw_ok pen (by exact ax6855f6 hl hk cl) (by decide) (by decide) fun d K1 d0 d1 pen1 Xd => ?_)
    have gK1 := Xd.at1 hF gK
    by_cases h3 : d = 3
    · refine ie_t h3 (at_list gK1 (draw_ok pen1 (by exact ax1766e2 hl hk cl) (by decide) (by decide) fun e2 K2 e0 e1 pen2 Xe => ?_))
      have gK2 := Xe.at1 hF gK1
      obtain ⟨c, hcm, hc⟩ : ∃ c, [V.str [44], .str [47], .str [66], .str [48]][e2.toNat]? = some (.str [c]) ∧ okc c := by
        rcases lt4 e0 e1 with rfl | rfl | rfl | rfl
        · exact ⟨44, rfl, .inl rfl⟩
        · exact ⟨47, rfl, .inr (.inl rfl)⟩
        · exact ⟨66, rfl, .inr (.inr (.inl rfl))⟩
        · exact ⟨48, rfl, .inr (.inr (.inr rfl))⟩
      refine on_some (pyIdx_nat (Int.toNat_of_nonneg e0).symm (by omega)) (on_some hcm (at_list gK2 ⟨by rw [List.length_map]; exact len30 (by exact ax00d0af hl ml cl), put_at gK2 fun K3 g3 X3 => ?_⟩))
      rw [show m.map (sgV fl) ++ [V.str [c]] = (m ++ [Tk.ins c]).map (sgV fl) by rw [List.map_append]; rfl] at g3
      exact fin K3 (m ++ [Tk.ins c]) (r1.snoc (nx_ins (a1 ha) hc)) (by simp; exact axe49597 ml) (by rw [nD_snoc, md]; rfl) (by rw [nP_app, mp]; rfl) g3 (Lx.fresh ((X.trans Xd).trans Xe) X3 fun i m => .inr (List.mem_singleton.1 m ▸ l1)) ((pen2.lx X3 fun i m => List.mem_singleton.1 m ▸ Nat.le_trans hn l1).le (by exact ax7c1299))
    · exact ie_f h3 (fin K1 m r1 (by exact ax1fd68f ml) md mp gK1 (X.trans Xd) (pen1.le (by exact ax15a44a)))
  · intro ρ H' h
    generalize hv : ([] : List V) = vr at h
    obtain ⟨a, b, m, ph, x, y, _, _, e, er, gK, X, pen, r1, r2, a0, a1, ml, md, mp, mg⟩ := h
    subst hv
    cases b with
    | cons => rw [mapIdx_shift] at er; cases er
    | nil =>
    rw [List.append_nil] at e
    subst e
    cases r2
    exact kk F m _ gK r1 (by exact axc6c77b hl ml) md mp mg (pen.le (by exact ax4441a5 hl)) X l1
noncomputable def kindW (w : Int) (fl : List Nat) : Prop := (w < 2 ∧ isZ fl) ∨ (2 ≤ w ∧ w < 5 ∧ isF fl) ∨ (w = 5 ∧ fl = [])
theorem run_rep {fl : List Nat} {p : Ph} {t : Tk} (h : Nxt fl p t p) : ∀ n : Nat, Run fl p (List.replicate n t) p
  | 0 => .nil _
  | n + 1 => .cons h (run_rep h n)
theorem nD_rep (t : Tk) : ∀ n : Nat, nD (List.replicate n t) = n * dg t
  | 0 => by simp [nD]
  | n + 1 => by rw [List.replicate_succ, nD, nD_rep t n, Nat.succ_mul]; exact ax09d0df
theorem nP_rep (t : Tk) : ∀ n : Nat, nP (List.replicate n t) = n * pp t
  | 0 => by simp [nP]
  | n + 1 => by rw [List.replicate_succ, nP, nP_rep t n, Nat.succ_mul]; exact ax09d0df
structure Base (fl : List Nat) (w : Int) (lo : Nat) (b : List Tk) (q : Ph) : Prop where
  run : Run fl .p0 b q
  bas : ∀ t ∈ b, bas t
  len : b.length ≤ 5
  dig : nD b = lo
  q12 : (w < 5 ∧ q = .p1) ∨ (w = 5 ∧ q = .p2)
  ne : b ≠ []
theorem base_of {fl : List Nat} {w : Int} {lo : Nat} (h : kindW w fl) (h1 : 1 ≤ lo) (h2 : lo ≤ 4) : ∃ b q, Base fl w lo b q ∧ b.map (sg fl) = (if w < 5 then List.replicate (lo + if 2 ≤ w then 1 else 0) fl else List.replicate lo [57]) := by
  obtain ⟨n, rfl⟩ : ∃ n, lo = n + 1 := ⟨lo - 1, by omega⟩
  have rb : ∀ (t : Tk) (k : Nat), bas t → ∀ x ∈ List.replicate k t, bas x := fun t k ht x m => by rw [(List.mem_replicate.1 m).2]; exact ht
  rcases h with ⟨hw, hz⟩ | ⟨hw1, hw2, hf⟩ | ⟨hw, e⟩
  · refine ⟨List.replicate (n + 1) .loose, .p1, ⟨.cons (.loose0 hz) (run_rep (.loose1 (.inl hz)) n), rb _ _ trivial, by simp; exact ax797c49 h2, by rw [nD_rep]; simp [dg], .inl ⟨by exact ax9756af hw, rfl⟩, by simp⟩, ?_⟩
    rw [if_pos (by exact ax9756af hw), if_neg (by exact (fun q => (ax95dd38 hw q))), List.map_replicate]; rfl
  · refine ⟨.lead :: List.replicate (n + 1) .loose, .p1, ⟨.cons (.lead hf) (.cons (.looseL hf) (run_rep (.loose1 (.inr hf)) n)), fun x m => (List.mem_cons.1 m).elim (fun e => e ▸ trivial) (rb .loose _ trivial x), by simp; exact axbe9eae h2, by rw [nD, nD_rep]; simp [dg], .inl ⟨by exact ax1c347f hw2, rfl⟩, by simp⟩, ?_⟩
    rw [if_pos (by exact ax1c347f hw2), if_pos hw1, List.map_cons, List.map_replicate]
    show fl :: List.replicate (n + 1) fl = List.replicate (n + 1 + 1) fl
    rw [List.replicate_succ (n := n + 1)]
  · refine ⟨List.replicate (n + 1) .nine, .p2, ⟨.cons (.nine0 e) (run_rep .nine2 n), rb _ _ trivial, by simp; exact ax797c49 h2, by rw [nD_rep]; simp [dg], .inr ⟨hw, rfl⟩, by simp⟩, ?_⟩
    rw [if_neg (by exact (fun q => (axcdbb91 hw q))), List.map_replicate]; rfl
theorem base_nines {fl : List Nat} {w : Int} {lo : Nat} {b : List Tk} {q : Ph} (h : Base fl w lo b q) {k : Nat} (hk : k ≤ 3) : ∃ q', Run fl .p0 (b ++ List.replicate k Tk.nine) q' ∧ (∀ t ∈ b ++ List.replicate k Tk.nine, bas t) ∧ (b ++ List.replicate k Tk.nine).length ≤ 10 ∧ nD (b ++ List.replicate k Tk.nine) = lo + k ∧ (q' = .p1 ∨ q' = .p2) ∧ (k = 0 → w < 5 → q' = .p1) ∧ b ++ List.replicate k Tk.nine ≠ [] := by
  have hb : ∀ t ∈ b ++ List.replicate k Tk.nine, bas t := fun t m => (List.mem_append.1 m).elim (h.bas t) fun m => by rw [(List.mem_replicate.1 m).2]; trivial
  have hl := h.len
  have hd : nD (b ++ List.replicate k Tk.nine) = lo + k := by rw [nD_app, h.dig, nD_rep]; simp [dg]
  have hne : b ++ List.replicate k Tk.nine ≠ [] := fun e => h.ne (List.append_eq_nil_iff.1 e).1
  have hln : (b ++ List.replicate k Tk.nine).length ≤ 10 := by simp; exact axd339f8 hk hl
  cases k with
  | zero => exact ⟨q, by simpa using h.run, hb, hln, hd, h.q12.imp (·.2) (·.2), (fun _ hw => by rcases h.q12 with e | e; exact e.2; omega), hne⟩
  | succ k =>
    have nx : Nxt fl q .nine .p2 := by rcases h.q12 with e | e <;> (rw [e.2]; constructor)
    exact ⟨.p2, h.run.app (.cons nx (run_rep .nine2 k)), hb, hln, hd, .inr rfl, (fun e => by cases e), hne⟩
structure Beh (fl : List Nat) (q : Ph) (b : List Tk) (q' : Ph) : Prop where
  run : Run fl q b q'
  len : b.length ≤ 4
  dig : nD b ≤ 3
  pee : nP b ≤ 2
  last : ∀ t, b.getLast? = some t → t = .nine ∨ t = .loose ∧ (isZ fl ∨ isF fl) ∨ t = .pee
  qL : q' ≠ .pL
theorem beh_nil {fl : List Nat} {q : Ph} (h : q = .p1 ∨ q = .p2) : Beh fl q [] q := ⟨.nil _, by decide, by decide, by decide, (fun t e => by cases e), by rcases h with rfl | rfl <;> (intro e; cases e)⟩
theorem getLast_rep (t : Tk) (x : Tk) : ∀ n : Nat, (t :: List.replicate (n + 1) x).getLast? = some x := fun n => by
  rw [List.replicate_succ', ← List.cons_append, List.getLast?_concat]
theorem beh_pee {fl : List Nat} {q : Ph} {n : Nat} (h : q = .p1 ∨ q = .p2) (h1 : 1 ≤ n) (h2 : n ≤ 2) : Beh fl q (List.replicate n .pee) .p5 := by
  obtain ⟨n, rfl⟩ : ∃ k, n = k + 1 := ⟨n - 1, by omega⟩
  have nx : Nxt fl q .pee .p5 := by rcases h with rfl | rfl <;> constructor
  refine ⟨.cons nx (run_rep .pee5 n), by simp; exact ax426607 h2, by rw [nD_rep]; simp [dg], by rw [nP_rep]; simp [pp]; exact axdef159 h2, fun t e => ?_, by intro e; cases e⟩
  rw [List.replicate_succ', List.getLast?_concat] at e
  cases e; exact .inr (.inr rfl)
theorem beh_pt {fl : List Nat} {q : Ph} {n : Nat} {t : Tk} {il : Bool} (h : q = .p1 ∨ q = .p2) (ht : t = .dot ∨ t = .vee) (h1 : 1 ≤ n) (h2 : n ≤ 3) (hi : il = true → q = .p1 ∧ (isZ fl ∨ isF fl)) : ∃ q', Beh fl q (t :: List.replicate n (if il = true then .loose else .nine)) q' := by
  obtain ⟨n, rfl⟩ : ∃ k, n = k + 1 := ⟨n - 1, by omega⟩
  have dt : dg t = 0 ∧ pp t = 0 := by rcases ht with rfl | rfl <;> exact ⟨rfl, rfl⟩
  have mk : ∀ (x : Tk) (a b : Ph), Nxt fl q t a → Nxt fl a x b → Nxt fl b x b → dg x = 1 → pp x = 0 → (x = .nine ∨ x = .loose ∧ (isZ fl ∨ isF fl) ∨ x = .pee) → b ≠ .pL → Beh fl q (t :: List.replicate (n + 1) x) b := fun x a b n1 n2 n3 d1 p1 hl hb =>
    ⟨.cons n1 (.cons n2 (run_rep n3 n)), by simp; exact ax028535 h2, by rw [nD, nD_rep, dt.1, d1]; omega, by rw [nP, nP_rep, dt.2, p1]; omega, fun y e => by rw [getLast_rep] at e; cases e; exact hl, hb⟩
  cases il with
  | true =>
    obtain ⟨rfl, hzf⟩ := hi rfl
    refine ⟨.p3, mk .loose .p7 .p3 ?_ (.loose7 hzf) (.loose3 hzf) rfl rfl (.inr (.inl ⟨rfl, hzf⟩)) (by intro e; cases e)⟩
    rcases ht with rfl | rfl <;> constructor
  | false =>
    rcases h with rfl | rfl
    · refine ⟨.p4, mk .nine .p7 .p4 ?_ .nine7 .nine4 rfl rfl (.inl rfl) (by intro e; cases e)⟩
      rcases ht with rfl | rfl <;> constructor
    · refine ⟨.p4, mk .nine .p8 .p4 ?_ .nine8 .nine4 rfl rfl (.inl rfl) (by intro e; cases e)⟩
      rcases ht with rfl | rfl <;> constructor
theorem pic_of {fl sgn mon : List Nat} {pre post : List (List Nat)} {m b base : List Tk} {q q' : Ph} (hfl : fl = [] ∨ isZ fl ∨ isF fl) (hpre : PreOk fl pre sgn mon) (hm : Run fl .p0 m q) (hb : Beh fl q b q') (hpost : PostOk fl sgn post) (hml : m.getLast? = base.getLast?) (hbne : base ≠ []) (hbas : ∀ t ∈ base, bas t) (hd : nD m ≤ 7) (hp : nP m = 0) :
    Pic fl pre (m ++ b) post sgn mon q' := by
  refine ⟨hfl, hpre, hm.app hb.run, hb.qL, ?_, hpost, ?_⟩
  · have okt : ∀ t, (t = .nine ∨ t = .loose ∧ (isZ fl ∨ isF fl) ∨ t = .pee) → sg fl t ≠ [44] ∧ sg fl t ≠ [46] := fun t h => by
      rcases h with rfl | ⟨rfl, hz⟩ | rfl
      · exact ⟨by show [57] ≠ _; decide, by show [57] ≠ _; decide⟩
      · show fl ≠ _ ∧ fl ≠ _
        rcases hz with (rfl | rfl) | (rfl | rfl | rfl) <;> decide
      · exact ⟨by show [80] ≠ _; decide, by show [80] ≠ _; decide⟩
    cases hbl : b.getLast? with
    | some t => exact ⟨t, by rw [List.getLast?_append, hbl]; rfl, okt t (hb.last t hbl)⟩
    | none =>
      have eb : b = [] := List.getLast?_eq_none_iff.1 hbl
      obtain ⟨t, ht⟩ : ∃ t, base.getLast? = some t := by
        cases h : base.getLast? with
        | none => exact absurd (List.getLast?_eq_none_iff.1 h) hbne
        | some t => exact ⟨t, rfl⟩
      refine ⟨t, by rw [eb, List.append_nil, hml, ht], ?_⟩
      have hbt := hbas t (List.mem_of_getLast? ht)
      rcases hfl with e | hz | hf
      · subst e
        cases t with
        | nine => exact okt _ (.inl rfl)
        | loose => exact ⟨by show [] ≠ _; decide, by show [] ≠ _; decide⟩
        | lead => exact ⟨by show [] ≠ _; decide, by show [] ≠ _; decide⟩
        | _ => exact hbt.elim
      · cases t with
        | nine => exact okt _ (.inl rfl)
        | loose => exact okt _ (.inr (.inl ⟨rfl, .inl hz⟩))
        | lead => exact okt .loose (.inr (.inl ⟨rfl, .inl hz⟩))
        | _ => exact hbt.elim
      · cases t with
        | nine => exact okt _ (.inl rfl)
        | loose => exact okt _ (.inr (.inl ⟨rfl, .inr hf⟩))
        | lead => exact okt .loose (.inr (.inl ⟨rfl, .inr hf⟩))
        | _ => exact hbt.elim
  · have := hb.dig
    have := hb.pee
    rw [nD_app, nP_app]; exact ax5d1c20 hd hp (by assumption) this
theorem menu_ok {d : Int} (h0 : 0 ≤ d) (h1 : d < 6) : ∃ fl, [V.str [90], .str [42], .str [36], .str [43], .str [45], .str []][d.toNat]? = some (.str fl) ∧ kindW d fl ∧ (2 ≤ d → d < 5 → d ≠ 2 → fl = [43] ∨ fl = [45]) ∧ (d = 2 → fl = [36]) := by
  rcases lt6 h0 h1 with rfl | rfl | rfl | rfl | rfl | rfl
  · exact ⟨_, rfl, .inl ⟨by decide, .inl rfl⟩, fun h => absurd h (by decide), fun h => absurd h (by decide)⟩
  · exact ⟨_, rfl, .inl ⟨by decide, .inr rfl⟩, fun h => absurd h (by decide), fun h => absurd h (by decide)⟩
  · exact ⟨_, rfl, .inr (.inl ⟨by decide, by decide, .inl rfl⟩), fun _ _ h => absurd rfl h, fun _ => rfl⟩
  · exact ⟨_, rfl, .inr (.inl ⟨by decide, by decide, .inr (.inl rfl)⟩), fun _ _ _ => .inl rfl, fun h => absurd h (by decide)⟩
  · exact ⟨_, rfl, .inr (.inl ⟨by decide, by decide, .inr (.inr rfl)⟩), fun _ _ _ => .inr rfl, fun h => absurd h (by decide)⟩
  · exact ⟨_, rfl, .inr (.inr ⟨rfl, rfl⟩), fun _ h => absurd h (by decide), fun h => absurd h (by decide)⟩
theorem w234 {w : Int} (h0 : 0 ≤ w) (h1 : w < 6) : [(2 : Int), 3, 4].any (· == w) = decide (2 ≤ w ∧ w < 5) := by
  rcases lt6 h0 h1 with rfl | rfl | rfl | rfl | rfl | rfl <;> rfl
theorem rep_map (n : Nat) (s : List Nat) : List.replicate n (V.str s) = (List.replicate n s).map V.str := by rw [List.map_replicate]
theorem w34 {w : Int} (h : [(3 : Int), 4].any (· == w) = false) : w ≠ 3 ∧ w ≠ 4 := ⟨fun e => by subst e; exact absurd h (by decide), fun e => by subst e; exact absurd h (by decide)⟩
noncomputable def sgnG (g : Int) : List Nat := if g = 1 then [43] else if g = 2 then [45] else []
noncomputable def frG (g : Int) : List (List Nat) := if g = 1 then [[43]] else if g = 2 then [[45]] else []
noncomputable def laG (g : Int) : List (List Nat) := if g = 3 then [[67, 82]] else if g = 4 then [[68, 66]] else if g = 5 then [[45]] else []
theorem fl_pm {w : Int} {fl : List Nat} (hk : kindW w fl) (h36 : w = 2 → fl = [36]) (h3 : w ≠ 3) (h4 : w ≠ 4) : fl ≠ [43] ∧ fl ≠ [45] := by
  rcases hk with ⟨_, hz⟩ | ⟨a, b, _⟩ | ⟨_, e⟩
  · rcases hz with rfl | rfl <;> decide
  · rw [h36 (by omega)]; decide
  · rw [e]; decide
theorem fl_nF {w : Int} {fl : List Nat} (hk : kindW w fl) (h2 : w ≠ 2) (h3 : w ≠ 3) (h4 : w ≠ 4) : ¬ isF fl := by
  rcases hk with ⟨_, hz⟩ | ⟨a, b, _⟩ | ⟨_, e⟩
  · exact fun f => not_ZF hz f
  · omega
  · rw [e]; unfold isF; decide
theorem pre_plain {w g : Int} {fl : List Nat} (hk : kindW w fl) (h36 : w = 2 → fl = [36]) (hg : w = 3 ∨ w = 4 → g = 0) : PreOk fl (frG g) (sgnG g) [] := by
  unfold frG sgnG
  by_cases h1 : g = 1
  · rw [if_pos h1, if_pos h1]
    obtain ⟨a, b⟩ := fl_pm hk h36 (fun q => by have := hg (.inl q); exact ax4573e7 h1 this) (fun q => by have := hg (.inr q); exact ax4573e7 h1 this)
    exact .sgn [43] (.inl rfl) a b
  · rw [if_neg h1, if_neg h1]
    by_cases h2 : g = 2
    · rw [if_pos h2, if_pos h2]
      obtain ⟨a, b⟩ := fl_pm hk h36 (fun q => by have := hg (.inl q); exact axf9e3b2 h2 this) (fun q => by have := hg (.inr q); exact axf9e3b2 h2 this)
      exact .sgn [45] (.inr rfl) a b
    · rw [if_neg h2, if_neg h2]; exact .nil
theorem pre_money {w g : Int} {fl : List Nat} (hk : kindW w fl) (h2 : w ≠ 2) (h3 : w ≠ 3) (h4 : w ≠ 4) : PreOk fl (frG g ++ [[36]]) (sgnG g) [36] := by
  have nF := fl_nF hk h2 h3 h4
  unfold frG sgnG
  by_cases h1 : g = 1
  · rw [if_pos h1, if_pos h1]; exact .both [43] (.inl rfl) nF
  · rw [if_neg h1, if_neg h1]
    by_cases h2 : g = 2
    · rw [if_pos h2, if_pos h2]; exact .both [45] (.inr rfl) nF
    · rw [if_neg h2, if_neg h2]; exact .mon nF
theorem post_plain {w g : Int} {fl : List Nat} (hk : kindW w fl) (h36 : w = 2 → fl = [36]) (hg : w = 3 ∨ w = 4 → g = 0) : PostOk fl (sgnG g) (laG g) := by
  unfold laG
  have go : ∀ s : List Nat, g ≠ 0 → g ≠ 1 → g ≠ 2 → (s = [67, 82] ∨ s = [68, 66] ∨ s = [43] ∨ s = [45]) → PostOk fl (sgnG g) [s] := fun s h0 h1 h2 hs => by
    obtain ⟨a, b⟩ := fl_pm hk h36 (fun q => h0 (hg (.inl q))) (fun q => h0 (hg (.inr q)))
    exact .inr ⟨s, rfl, hs, by unfold sgnG; rw [if_neg h1, if_neg h2], a, b⟩
  by_cases h3 : g = 3
  · rw [if_pos h3]; exact go _ (by exact (fun q => (ax61ae2c h3 q))) (by exact (fun q => (ax627c2c h3 q))) (by exact (fun q => (ax9a3e72 h3 q))) (.inl rfl)
  rw [if_neg h3]
  by_cases h4 : g = 4
  · rw [if_pos h4]; exact go _ (by exact (fun q => (ax320172 h4 q))) (by exact (fun q => (axb51461 h4 q))) (by exact (fun q => (axfc1ec1 h4 q))) (.inr (.inl rfl))
  rw [if_neg h4]
  by_cases h5 : g = 5
  · rw [if_pos h5]; exact go _ (by exact (fun q => (axdeaa43 h5 q))) (by exact (fun q => (axf1d1ee h5 q))) (by exact (fun q => (axef9601 h5 q))) (.inr (.inr (.inr rfl)))
  rw [if_neg h5]; exact .inl rfl
theorem pre_len {fl sgn mon : List Nat} {pre : List (List Nat)} (h : PreOk fl pre sgn mon) : pre.length ≤ 2 ∧ (pre = [] → sgn = []) := by
  cases h with
  | nil => exact ⟨by decide, fun _ => rfl⟩
  | sgn => exact ⟨Nat.le_succ 1, fun e => by cases e⟩
  | mon => exact ⟨Nat.le_succ 1, fun e => by cases e⟩
  | both => exact ⟨Nat.le_refl 2, fun e => by cases e⟩
theorem la_len (g : Int) : (laG g).length ≤ 1 := by unfold laG; split; decide; split; decide; split; decide; decide
theorem post_len {fl sgn : List Nat} {post : List (List Nat)} (h : PostOk fl sgn post) : post.length ≤ 1 := by
  rcases h with rfl | ⟨s, rfl, _⟩
  · exact Nat.zero_le _
  · exact Nat.le_refl 1
noncomputable def B_pc7 : SX := sSeq (sRet (eOp2 vAdd (eOp2 vAdd (eOp2 vAdd (eLoc 13) (eLoc 10)) (eLoc 11)) (eLoc 14))) (sNil)
noncomputable def B_pc6 : SX := sSeq (sIf (tAnd (tCmp vEq (eOp2 vAdd (eLoc 13) (eLoc 14)) (eLst (lNil))) (tAnd (tCmp vEq (eLoc 2) (eCon (.int 5))) (tAnd (tCmp vNotIn (eCon (.str [44])) (eLoc 10)) (tAnd (tCmp vNotIn (eCon (.str [46])) (eLoc 11)) (tTrue))))) (sSeq (sSet 14 (eLst (lCons (eCon (.str [43])) (lNil)))) (sNil)) (sNil)) B_pc7
noncomputable def B_pc5 : SX := sSeq (sSet 14 (eIf (tCmp vGt (eLoc 12) (eCon (.int 2))) (eLst (lCons (eOp2 vIdx (eTup (lCons (eCon (.str [67, 82])) (lCons (eCon (.str [68, 66])) (lCons (eCon (.str [45])) (lNil))))) (eOp2 vSub (eLoc 12) (eCon (.int 3)))) (lNil))) (eLst (lNil)))) B_pc6
noncomputable def B_pc4 : SX := sSeq (sIf (tAnd (tCmp vNe (eLoc 2) (eCon (.int 2))) (tAnd (tCmp vNotIn (eLoc 2) (eTup (lCons (eCon (.int 3)) (lCons (eCon (.int 4)) (lNil))))) (tAnd (tCmp vEq (eCal F_law_draw (lCons (eLoc 0) (lCons (eCon (.int 3)) (lNil)))) (eCon (.int 2))) (tTrue)))) (sSeq (sExpr (eBM 1 fAppend (eLoc 13) (lCons (eCon (.str [36])) (lNil)))) (sNil)) (sNil)) B_pc5
noncomputable def B_pc3b : SX := sSeq (sSet 13 (eIf (tCmp vIn (eLoc 12) (eTup (lCons (eCon (.int 1)) (lCons (eCon (.int 2)) (lNil))))) (eLst (lCons (eOp2 vIdx (eTup (lCons (eCon (.str [43])) (lCons (eCon (.str [45])) (lNil)))) (eOp2 vSub (eLoc 12) (eCon (.int 1)))) (lNil))) (eLst (lNil)))) B_pc4
noncomputable def B_pc3 : SX := sSeq (sSet 12 (eIf (tCmp vNotIn (eLoc 2) (eTup (lCons (eCon (.int 3)) (lCons (eCon (.int 4)) (lNil))))) (eCal F_law_draw (lCons (eLoc 0) (lCons (eCon (.int 6)) (lNil)))) (eCon (.int 0)))) B_pc3b
noncomputable def B_pees : SX := sIf (tCmp vEq (eCal F_law_draw (lCons (eLoc 0) (lCons (eCon (.int 4)) (lNil)))) (eCon (.int 3))) (sSeq (sSet 11 (eOp2 vMul (eLst (lCons (eCon (.str [80])) (lNil))) (eOp2 vAdd (eCon (.int 1)) (eCal F_law_draw (lCons (eLoc 0) (lCons (eCon (.int 2)) (lNil))))))) (sNil)) (sNil)
noncomputable def B_pc2 : SX := sSeq (sSet 11 (eLst (lNil))) (sSeq (sIf (tAnd (tCmp vGt (eLoc 7) (eCon (.int 0))) (tAnd (tCmp vGt (eLoc 8) (eCon (.int 0))) (tTrue))) (sSeq (sSet 11 (eOp2 vAdd (eLst (lCons (eOp2 vIdx (eTup (lCons (eCon (.str [46])) (lCons (eCon (.str [86])) (lNil)))) (eOp2 vSub (eLoc 7) (eCon (.int 1)))) (lNil))) (eOp2 vMul (eLst (lCons (eIf (tVal (eLoc 9)) (eLoc 5) (eCon (.str [57]))) (lNil))) (eLoc 8)))) (sNil)) (sSeq B_pees (sNil))) B_pc3)
noncomputable def B_pc1 : SX := sSeq (sSet 10 (eCal F_law_inserted (lCons (eLoc 0) (lCons (eOp2 vAdd (eLoc 6) (eOp2 vMul (eLst (lCons (eCon (.str [57])) (lNil))) (eLoc 4))) (lNil))))) B_pc2
noncomputable def B_pc0 : SX := sSeq (sUnp (bRev [8, 7]) (eTup (lCons (eCal F_law_draw (lCons (eLoc 0) (lCons (eCon (.int 3)) (lNil)))) (lCons (eCal F_law_draw (lCons (eLoc 0) (lCons (eLoc 1) (lNil)))) (lNil))))) (sSeq (sSet 9 (eAnd (eBool (tCmp vEq (eLoc 4) (eCon (.int 0)))) (eAnd (eBool (tCmp vLt (eLoc 2) (eCon (.int 5)))) (eBool (tCmp vEq (eCal F_law_draw (lCons (eLoc 0) (lCons (eCon (.int 2)) (lNil)))) (eCon (.int 1))))))) B_pc1)
section
variable {H : Hp} {K : KV} {p k n Fr W Bh La : Nat} {w g : Int} {fl sgn mon : List Nat} {pre post : List (List Nat)} {m beh : List Tk} {x0 x1 x2 x3 x4 x5 x6 x7 x8 x9 x11 x12 x13 x14 : Option V}
theorem pc7_ok (gP : H[Fr]? = some (.list (pre.map V.str))) (gW : H[W]? = some (.list (m.map (sgV fl)))) (gB : H[Bh]? = some (.list (beh.map (sgV fl)))) (gL : H[La]? = some (.list (post.map V.str))) (l1 : pre.length ≤ 2) (l2 : m.length ≤ 20) (l3 : beh.length ≤ 4) (l4 : post.length ≤ 1)
    (kk : ∀ S H', H'[S]? = some (.list ((toks pre (m ++ beh) post).map (sgV fl))) → Lx [] H H' → H.length ≤ S → K (.ref S) H') : B_pc7 [x0, x1, x2, x3, x4, x5, x6, x7, x8, x9, some (.ref W), some (.ref Bh), x12, some (.ref Fr), some (.ref La)] H (fun _ H => K .none H) K := by
  have et : pre.map V.str ++ m.map (sgV fl) ++ beh.map (sgV fl) ++ post.map V.str = (toks pre (m ++ beh) post).map (sgV fl) := by
    have ef : ∀ l : List (List Nat), (l.map Tk.fix).map (sgV fl) = l.map V.str := fun l => by rw [List.map_map]; rfl
    unfold toks
    rw [List.map_append, List.map_append, List.map_append, ef, ef, List.append_assoc, List.append_assoc, List.append_assoc]
  refine at_list gP (at_list gW ⟨?_, new_at' fun S1 H1 g1 X1 b1 => at_list g1 (at_list (X1.at0 gB) ⟨?_, new_at' fun S2 H2 g2 X2 b2 => at_list g2 (at_list ((X1.trans X2).at0 gL) ⟨?_, new_at' fun S3 H3 g3 X3 b3 => kk S3 H3 (et ▸ g3) ((X1.trans X2).trans X3) (Nat.le_trans (X1.trans X2).len b3)⟩)⟩)⟩)
  · rw [List.length_map, List.length_map]; exact len30 (by exact ax0fc2f9 l1 l2)
  · rw [List.length_append, List.length_map, List.length_map, List.length_map]; exact len30 (by exact ax9b8fea l1 l2 l3)
  · rw [List.length_append, List.length_append, List.length_map, List.length_map, List.length_map, List.length_map]; exact len30 (by exact axeffede l1 l2 l3 l4)
theorem pc6_ok (hkw : kindW w fl) (h36 : w = 2 → fl = [36]) (hg : w = 3 ∨ w = 4 → g = 0) (hpre : PreOk fl pre (sgnG g) mon) (gP : H[Fr]? = some (.list (pre.map V.str))) (gW : H[W]? = some (.list (m.map (sgV fl)))) (gB : H[Bh]? = some (.list (beh.map (sgV fl)))) (gL : H[La]? = some (.list ((laG g).map V.str))) (l2 : m.length ≤ 20) (l3 : beh.length ≤ 4)
    (kk : ∀ post S H', PostOk fl (sgnG g) post → H'[S]? = some (.list ((toks pre (m ++ beh) post).map (sgV fl))) → Lx [] H H' → H.length ≤ S → K (.ref S) H') : B_pc6 [x0, x1, some (.int w), x3, x4, x5, x6, x7, x8, x9, some (.ref W), some (.ref Bh), x12, some (.ref Fr), some (.ref La)] H (fun _ H => K .none H) K := by
  have l1 := pre_len hpre
  have plain : ∀ H', Lx [] H H' → B_pc7 [x0, x1, some (.int w), x3, x4, x5, x6, x7, x8, x9, some (.ref W), some (.ref Bh), x12, some (.ref Fr), some (.ref La)] H' (fun _ H => K .none H) K := fun H' X =>
    pc7_ok (X.at0 gP) (X.at0 gW) (X.at0 gB) (X.at0 gL) l1.1 l2 l3 (la_len g) fun S H2 gS X2 lS => kk _ S H2 (post_plain hkw h36 hg) gS (X.trans X2) (Nat.le_trans X.len lS)
  have l4 := la_len g
  refine at_list gP (at_list gL ⟨by rw [List.length_map, List.length_map]; exact len30 (by omega), new_at' fun S1 H1 g1 X1 b1 => new_at' fun E H2 gE XE bE => at_list (XE.at0 g1) (at_list gE ⟨rfl, ?_⟩)⟩)
  have X2 := X1.trans XE
  refine if_b (fun q1 => ?_) fun _ => plain _ X2
  have pe : pre = [] := by cases pre with | nil => rfl | cons a b => cases q1
  by_cases h5 : w = 5
  · have fl0 : fl = [] := by rcases hkw with c | c | c; omega; omega; exact c.2
    have gW6 := X2.at0 gW
    have gB6 := X2.at0 gB
    rw [sgV_map] at gW6 gB6
    exact ie_t h5 (at_list gW6 (on_some (strs_map _) (if_b (fun _ => at_list gB6 (on_some (strs_map _) (if_b (fun _ => new_at' fun S3 H7 gS3 XS3 lS3 =>
      pc7_ok (post := [[43]]) ((X2.trans XS3).at0 gP) ((X2.trans XS3).at0 gW) ((X2.trans XS3).at0 gB) gS3 l1.1 l2 l3 (Nat.le_refl 1) fun S H8 gS X8 lS => kk _ S H8 (.inr ⟨_, rfl, .inr (.inr (.inl rfl)), l1.2 pe, by rw [fl0]; decide, by rw [fl0]; decide⟩) gS ((X2.trans XS3).trans X8) (Nat.le_trans (X2.trans XS3).len lS))
      fun _ => plain _ X2))) fun _ => plain _ X2)))
  · exact ie_f h5 (plain _ X2)
theorem pc5_ok (hkw : kindW w fl) (h36 : w = 2 → fl = [36]) (hg : w = 3 ∨ w = 4 → g = 0) (g0 : 0 ≤ g) (g1 : g < 6) (hpre : PreOk fl pre (sgnG g) mon) (gP : H[Fr]? = some (.list (pre.map V.str))) (gW : H[W]? = some (.list (m.map (sgV fl)))) (gB : H[Bh]? = some (.list (beh.map (sgV fl)))) (l2 : m.length ≤ 20) (l3 : beh.length ≤ 4)
    (kk : ∀ post S H', PostOk fl (sgnG g) post → H'[S]? = some (.list ((toks pre (m ++ beh) post).map (sgV fl))) → Lx [] H H' → H.length ≤ S → K (.ref S) H') : B_pc5 [x0, x1, some (.int w), x3, x4, x5, x6, x7, x8, x9, some (.ref W), some (.ref Bh), some (.int g), some (.ref Fr), x14] H (fun _ H => K .none H) K := by
  have go : ∀ La H4, H4[La]? = some (.list ((laG g).map V.str)) → Lx [] H H4 → B_pc6 [x0, x1, some (.int w), x3, x4, x5, x6, x7, x8, x9, some (.ref W), some (.ref Bh), some (.int g), some (.ref Fr), some (.ref La)] H4 (fun _ H => K .none H) K := fun La H4 gL X =>
    pc6_ok hkw h36 hg hpre (X.at0 gP) (X.at0 gW) (X.at0 gB) gL l2 l3 fun post S H5 hp gS X5 lS => kk post S H5 hp gS (X.trans X5) (Nat.le_trans X.len lS)
  by_cases hg2 : 2 < g
  · have hcase : g = 3 ∨ g = 4 ∨ g = 5 := by rcases lt6 g0 g1 with h | h | h | h <;> first | exact h | (rw [h] at hg2; exact absurd hg2 (by decide))
    rcases hcase with rfl | rfl | rfl <;> exact new_at' fun La H4 gL XL lL => go La H4 gL XL
  · refine lt_f (Int.not_lt.1 hg2) (new_at' fun La H4 gL XL lL => go La H4 ?_ XL)
    rw [gL]; unfold laG; rw [if_neg (by exact (fun q => (axb99903 (Int.not_lt.1 hg2) q))), if_neg (by exact (fun q => (ax286a3f (Int.not_lt.1 hg2) q))), if_neg (by exact (fun q => (ax3b5dbd (Int.not_lt.1 hg2) q)))]; rfl
theorem pc4_ok (hkw : kindW w fl) (h36 : w = 2 → fl = [36]) (hg : w = 3 ∨ w = 4 → g = 0) (g0 : 0 ≤ g) (g1 : g < 6) (pen : Pen H p (k + 31) n) (hk : k ≤ 500) (gF : H[Fr]? = some (.list ((frG g).map V.str))) (gW : H[W]? = some (.list (m.map (sgV fl)))) (gB : H[Bh]? = some (.list (beh.map (sgV fl)))) (l2 : m.length ≤ 20) (l3 : beh.length ≤ 4)
    (nF : Fr ≠ p ∧ n ≤ Fr) (nW : W ≠ p ∧ W ≠ Fr) (nB : Bh ≠ p ∧ Bh ≠ Fr)
    (kk : ∀ mon pre post S H', PreOk fl pre (sgnG g) mon → PostOk fl (sgnG g) post → H'[S]? = some (.list ((toks pre (m ++ beh) post).map (sgV fl))) → Pen H' p (k + 40) n → Lx [p, Fr] H H' → H.length ≤ S → K (.ref S) H') : B_pc4 [some (.ref p), x1, some (.int w), x3, x4, x5, x6, x7, x8, x9, some (.ref W), some (.ref Bh), some (.int g), some (.ref Fr), x14] H (fun _ H => K .none H) K := by
  have go : ∀ mon pre H', PreOk fl pre (sgnG g) mon → H'[Fr]? = some (.list (pre.map V.str)) → Pen H' p (k + 40) n → Lx [p, Fr] H H' → B_pc5 [some (.ref p), x1, some (.int w), x3, x4, x5, x6, x7, x8, x9, some (.ref W), some (.ref Bh), some (.int g), some (.ref Fr), x14] H' (fun _ H => K .none H) K := fun mon pre H' hpre gP pen X =>
    pc5_ok hkw h36 hg g0 g1 hpre gP (X.at2 nW.1 nW.2 gW) (X.at2 nB.1 nB.2 gB) l2 l3 fun post S H5 hp gS X5 lS => kk mon pre post S H5 hpre hp gS (pen.lx X5 fun _ q => nomatch q) (X.trans X5.nil) (Nat.le_trans X.len lS)
  have plain : ∀ H', Pen H' p (k + 40) n → Lx [p] H H' → B_pc5 [some (.ref p), x1, some (.int w), x3, x4, x5, x6, x7, x8, x9, some (.ref W), some (.ref Bh), some (.int g), some (.ref Fr), x14] H' (fun _ H => K .none H) K := fun H' pk X =>
    go _ _ H' (pre_plain hkw h36 hg) (X.at1 nF.1 gF) pk (X.weak (by simp))
  by_cases hw2 : w = 2
  · exact in_f hw2 (plain H (pen.le (by exact ax26fa1f)) (.refl ..))
  refine in_t hw2 ?_
  cases h34 : [(3 : Int), 4].any (· == w) with
  | true => exact not_f h34 (plain H (pen.le (by exact ax26fa1f)) (.refl ..))
  | false =>
    have hw34 := w34 h34
    refine not_t h34 (draw_ok pen (by exact ax549e69 hk) (by decide) (by decide) fun d H3 d0 d1 pk3 X3 => ?_)
    by_cases hd2 : d = 2
    · have gF3 := X3.at1 nF.1 gF
      have lfr : ((frG g).map V.str).length ≤ lenMax := by rw [List.length_map]; unfold frG lenMax; split; decide; split; decide; decide
      exact ie_t hd2 (at_list gF3 (at_list gF3 ⟨lfr, put_at gF3 fun H4 g4 X4 => go _ _ H4 (pre_money hkw hw2 hw34.1 hw34.2) (by rw [g4, List.map_append]; rfl) ((pk3.lx X4 fun i q => List.mem_singleton.1 q ▸ nF.2).le (by exact ax15bf94)) ((X3.weak (by simp)).trans (X4.weak (by simp)))⟩))
    · exact ie_f hd2 (plain H3 (pk3.le (by exact ax15bf94)) X3)
theorem pc3_ok (hkw : kindW w fl) (h36 : w = 2 → fl = [36]) (pen : Pen H p (k + 30) n) (hk : k ≤ 500) (hn : n ≤ H.length) (gW : H[W]? = some (.list (m.map (sgV fl)))) (gB : H[Bh]? = some (.list (beh.map (sgV fl)))) (l2 : m.length ≤ 20) (l3 : beh.length ≤ 4) (nW : W ≠ p) (nB : Bh ≠ p)
    (kk : ∀ sgn mon pre post S H', PreOk fl pre sgn mon → PostOk fl sgn post → H'[S]? = some (.list ((toks pre (m ++ beh) post).map (sgV fl))) → Pen H' p (k + 40) n → Lx [p] H H' → H.length ≤ S → K (.ref S) H') : B_pc3 [some (.ref p), x1, some (.int w), x3, x4, x5, x6, x7, x8, x9, some (.ref W), some (.ref Bh), x12, x13, x14] H (fun _ H => K .none H) K := by
  have go : ∀ g H1, 0 ≤ g → g < 6 → (w = 3 ∨ w = 4 → g = 0) → Pen H1 p (k + 31) n → Lx [p] H H1 → B_pc3b [some (.ref p), x1, some (.int w), x3, x4, x5, x6, x7, x8, x9, some (.ref W), some (.ref Bh), some (.int g), x13, x14] H1 (fun _ H => K .none H) K := fun g H1 g0 g1 hg pk X1 => by
    have go2 : ∀ Fr H2, H2[Fr]? = some (.list ((frG g).map V.str)) → Lx [] H1 H2 → H1.length ≤ Fr → B_pc4 [some (.ref p), x1, some (.int w), x3, x4, x5, x6, x7, x8, x9, some (.ref W), some (.ref Bh), some (.int g), some (.ref Fr), x14] H2 (fun _ H => K .none H) K := fun Fr H2 gF X2 lF => by
      have gW1 := X1.at1 nW gW
      have gB1 := X1.at1 nB gB
      have a1 := get_lt gW1
      have a2 := get_lt gB1
      have a3 := X1.len
      have a4 := pen.lt
      exact pc4_ok hkw h36 hg g0 g1 (pk.lx X2 fun _ q => nomatch q) hk gF (X2.at0 gW1) (X2.at0 gB1) l2 l3 ⟨by exact (fun q => (ax48b627 hn lF a3 a4 q)), by exact ax9d990b hn lF a3⟩ ⟨nW, by exact (fun q => (ax6fa6a3 lF a1 q))⟩ ⟨nB, by exact (fun q => (ax6fa6a3 lF a2 q))⟩ fun mon pre post S H3 h1 h2 gS pk3 X3 lS => kk _ mon pre post S H3 h1 h2 gS pk3
        (Lx.fresh (X1.trans X2.nil) X3 fun i q => (List.mem_cons.1 q).elim (fun e => .inl (List.mem_singleton.2 e)) fun q => .inr (List.mem_singleton.1 q ▸ Nat.le_trans a3 lF)) (Nat.le_trans (X1.trans X2.nil).len lS)
    have hcase : g = 1 ∨ g = 2 ∨ (g ≠ 1 ∧ g ≠ 2) := (Decidable.em (g = 1)).imp id fun h => (Decidable.em (g = 2)).imp id fun h' => ⟨h, h'⟩
    rcases hcase with rfl | rfl | ⟨h1, h2⟩
    · exact new_at' go2
    · exact new_at' go2
    · refine if_f (show [(1 : Int), 2].any (· == g) = false by simp [Ne.symm h1, Ne.symm h2]) (new_at' fun Fr H2 gF XF lF => go2 Fr H2 ?_ XF lF)
      rw [gF]; unfold frG; rw [if_neg h1, if_neg h2]; rfl
  cases h34 : [(3 : Int), 4].any (· == w) with
  | true => exact not_f h34 (go 0 H (by decide) (by decide) (fun _ => rfl) (pen.le (by exact axc8fcc1)) (.refl ..))
  | false => exact not_t h34 (draw_ok pen (by exact axfb8542 hk) (by decide) (by decide) fun g H1 g0 g1 pk1 X1 => go g H1 g0 g1 (fun q => by have := w34 h34; omega) pk1 X1)
theorem pc2_ok {ni : Nat} {hp la : Int} {il : Bool} {q2 : Ph} (hkw : kindW w fl) (h36 : w = 2 → fl = [36]) (pen : Pen H p (k + 26) n) (hk : k ≤ 500) (hn : n ≤ H.length) (gW : H[W]? = some (.list (m.map (sgV fl)))) (l2 : m.length ≤ 20) (nW : W ≠ p) (hp1 : hp < 3) (la0 : 0 ≤ la) (la1 : la < 4) (hil : il = true → w < 5 ∧ q2 = .p1) (q2p : q2 = .p1 ∨ q2 = .p2)
    (kk : ∀ beh q3 sgn mon pre post S H', Beh fl q2 beh q3 → PreOk fl pre sgn mon → PostOk fl sgn post → H'[S]? = some (.list ((toks pre (m ++ beh) post).map (sgV fl))) → Pen H' p (k + 40) n → Lx [p] H H' → H.length ≤ S → K (.ref S) H') :
    B_pc2 [some (.ref p), x1, some (.int w), x3, x4, some (.str fl), x6, some (.int hp), some (.int la), some (.bool il), some (.ref W), x11, x12, x13, x14] H (fun _ H => K .none H) K := by
  have hpl := pen.lt
  refine new_at' fun Z H1 gZ X1 lZ => ?_
  have l01 := X1.len
  have fin : ∀ Bh beh q3 H2, H2[Bh]? = some (.list (beh.map (sgV fl))) → Beh fl q2 beh q3 → Bh ≠ p → Pen H2 p (k + 30) n → Lx [p] H1 H2 → B_pc3 [some (.ref p), x1, some (.int w), x3, x4, some (.str fl), x6, some (.int hp), some (.int la), some (.bool il), some (.ref W), some (.ref Bh), x12, x13, x14] H2 (fun _ H => K .none H) K := fun Bh beh q3 H2 gB hb nB pk X2 =>
    pc3_ok hkw h36 pk hk (by have := X2.len; exact ax976796 hn l01 this) (X2.at1 nW (X1.at0 gW)) gB l2 hb.len nW nB fun sgn mon pre post S H3 h1 h2 gS pk3 X3 lS => kk beh q3 sgn mon pre post S H3 hb h1 h2 gS pk3 ((X1.nil.trans X2).trans X3) (Nat.le_trans (X1.nil.trans X2).len lS)
  have p1 := pen.lx X1 fun _ q => nomatch q
  have pees : B_pees [some (.ref p), x1, some (.int w), x3, x4, some (.str fl), x6, some (.int hp), some (.int la), some (.bool il), some (.ref W), some (.ref Z), x12, x13, x14] H1 (fun ρ H => B_pc3 ρ H (fun _ H => K .none H) K) K := by
    refine draw_ok p1 (by exact ax755975 hk) (by decide) (by decide) fun d H2 d0 d1 pk2 X2 => ?_
    by_cases hd : d = 3
    · refine ie_t hd (new_at' fun E H3 gE XE lE => draw_ok (pk2.lx XE fun _ q => nomatch q) (by exact ax668e37 hk) (by decide) (by decide) fun e H4 e0 e1 pk4 X4 => ?_)
      obtain ⟨e, rfl⟩ := Int.eq_ofNat_of_zero_le e0
      have a2 := X2.len
      have a3 := XE.len
      have a4 := X4.len
      refine at_list (X4.at1 (by exact (fun q => (ax06a52e hn hpl l01 lE a2 q))) gE) ⟨⟨by exact axdf3d46, by exact axb36fbc e1⟩, by simp; exact ax38e25c e1, new_at' fun Q H5 gQ XQ lQ => fin Q (List.replicate (e + 1) .pee) _ H5 ?_ (beh_pee q2p (by exact axf5d222) (by exact ax8d22ce e1)) (by omega) ((pk4.lx XQ fun _ q => nomatch q).le (by exact ax091ff2)) ((X2.trans XE.nil).trans (X4.trans XQ.nil))⟩
      rw [gQ, show (1 : Int) + (e : Nat) = ((e + 1 : Nat) : Int) by exact ax0b15d0, repL_list, List.map_replicate]; rfl
    · exact ie_f hd (fin Z [] q2 H2 (X2.at1 (by exact (fun q => (ax04a511 hn hpl lZ q))) gZ) (beh_nil q2p) (by exact (fun q => (ax04a511 hn hpl lZ q))) (pk2.le (by exact axc2dbf5)) X2)
  by_cases hp0' : 0 < hp
  · refine lt_t hp0' ?_
    by_cases hla : 0 < la
    · obtain ⟨pt0, hpt, hidx⟩ : ∃ t : Tk, (t = .dot ∨ t = .vee) ∧ [V.str [46], .str [86]][(hp - 1).toNat]? = some (sgV fl t) := by
        have : hp = 1 ∨ hp = 2 := by omega
        rcases this with rfl | rfl
        · exact ⟨.dot, .inl rfl, rfl⟩
        · exact ⟨.vee, .inr rfl, rfl⟩
      obtain ⟨la, rfl⟩ := Int.eq_ofNat_of_zero_le la0
      obtain ⟨q3, hbeh⟩ := beh_pt (fl := fl) (n := la) (il := il) q2p hpt (by exact axbf4267 hla) (by exact ax32d17e la1) (fun e => ⟨(hil e).2, by rcases hkw with c | c | c; exact .inl c.2; exact .inr c.2.2; have := (hil e).1; omega⟩)
      refine lt_t hla (on_some (pyIdx_nat (Int.toNat_of_nonneg (by exact axe48c98 hp0')).symm (by omega)) (on_some hidx (new_at' fun D H2 gD XD lD => ?_)))
      have go : ∀ s : List Nat, s = sg fl (if il = true then .loose else .nine) → newAt H2 (.list [.str s]) fun v H => vMul v (.int (la : Nat)) H fun v H => vAdd (.ref D) v H fun v H => B_pc3 [some (.ref p), x1, some (.int w), x3, x4, some (.str fl), x6, some (.int hp), some (.int (la : Nat)), some (.bool il), some (.ref W), some v, x12, x13, x14] H (fun _ H => K .none H) K := fun s hs => by
        refine new_at' fun E H3 gE XE lE => at_list gE ⟨⟨by exact ax6fa31b, by exact ax025105 la1⟩, by simp; exact ax7c2041 la1, new_at' fun N H4 gN XN lN => at_list ((XE.trans XN).at0 gD) (at_list gN ⟨?_, new_at' fun B H5 gB XB lB => ?_⟩)⟩
        · rw [repL_list, List.length_replicate]; exact len30 (by simp; exact ax9178f0 la1)
        · have XA := ((XD.trans XE).trans XN).trans XB
          have a1 := XD.len
          have a2 := XE.len
          have a3 := XN.len
          refine fin B (pt0 :: List.replicate la (if il = true then .loose else .nine)) q3 H5 ?_ hbeh (by omega) ((p1.lx XA fun _ q => nomatch q).le (by exact ax76b68d)) XA.nil
          rw [gB, repL_list, List.map_cons, List.map_replicate, hs]; rfl
      cases il with
      | true => exact go _ rfl
      | false => exact go _ rfl
    · exact lt_f (Int.not_lt.1 hla) (if_f rfl pees)
  · exact lt_f (Int.not_lt.1 hp0') (if_f rfl pees)
theorem picture_ok (h : Pen H p k n) (hk : k ≤ 500) (hn : n ≤ H.length)
    (kk : ∀ S fl pre core post sgn mon q H', H'[S]? = some (.list ((toks pre core post).map (sgV fl))) → Pic fl pre core post sgn mon q → (toks pre core post).length ≤ 28 → Pen H' p (k + 40) n → Lx [p] H H' → H.length ≤ S → K (.ref S) H') : callAt F_law_picture [.ref p, .int 4] H K := by
  have hpl := h.lt
  refine ⟨draw_ok h (by exact axa093aa hk) (by decide) (by decide) fun w H1 w0 w1 p1 X1 => draw_ok p1 (by exact ax10672e hk) (by decide) (by decide) fun lo H2 lo0 lo1 p2 X2 => draw_ok p2 (by exact ax6b9670 hk) (by decide) (by decide) fun ni H3 ni0 ni1 p3 X3 => ?_⟩
  obtain ⟨fl, hfl, hkw, hpm, h36⟩ := menu_ok w0 w1
  refine on_some (pyIdx_nat (Int.toNat_of_nonneg w0).symm (by omega)) (on_some hfl ?_)
  obtain ⟨lo, rfl⟩ := Int.eq_ofNat_of_zero_le lo0
  obtain ⟨ni, rfl⟩ := Int.eq_ofNat_of_zero_le ni0
  obtain ⟨b1, q1, hB, eB⟩ := base_of (lo := lo + 1) hkw (by exact axf5d222) (by exact ax803ec6 lo1)
  have X03 := (X1.trans X2).trans X3
  have l03 := X03.len
  have main : ∀ A H4, H4[A]? = some (.list (b1.map (sgV fl))) → Lx [] H3 H4 → H3.length ≤ A → B_pc0 [some (.ref p), some (.int 4), some (.int w), some (.int (1 + (lo : Nat))), some (.int (ni : Nat)), some (.str fl), some (.ref A), none, none, none, none, none, none, none, none] H4 (fun _ H => K .none H) K := fun A H4 gA X4 lA => by
    have hAp : A ≠ p := by exact (fun q => (ax42710c hn hpl l03 lA q))
    have l4 := X4.len
    refine draw_ok (p3.lx X4 fun _ q => nomatch q) (by exact axb228e1 hk) (by decide) (by decide) fun hp H5 hp0 hp1 p5 X5 => draw_ok p5 (by exact ax709f9b hk) (by decide) (by decide) fun la H6 la0 la1 p6 X6 => ?_
    have gA6 := X6.at1 hAp (X5.at1 hAp gA)
    have X06 : Lx [p] H H6 := ((X03.trans X4.nil).trans X5).trans X6
    have whole : ∀ (il : Bool) H7, (il = true → ni = 0 ∧ w < 5) → Pen H7 p (k + 6) n → Lx [p] H6 H7 → B_pc1 [some (.ref p), some (.int 4), some (.int w), some (.int (1 + (lo : Nat))), some (.int (ni : Nat)), some (.str fl), some (.ref A), some (.int hp), some (.int la), some (.bool il), none, none, none, none, none] H7 (fun _ H => K .none H) K := fun il H7 hil p7 X7 => by
      have X07 := X06.trans X7
      have lb1 := hB.len
      obtain ⟨q2, r2, bas2, len2', dig2, q2p, q2l, ne2⟩ := base_nines hB (k := ni) (by exact ax32d17e ni1)
      refine new_at' fun E H8 gE X8 l8 => at_list gE ⟨⟨by exact ax6fa31b, by exact ax025105 ni1⟩, by simp; exact ax7c2041 ni1, new_at' fun N H9 gN X9 l9 => at_list ((X8.trans X9).at0 (X7.at1 hAp gA6)) (at_list gN ⟨?_, new_at' fun M H10 gM X10 l10 => ?_⟩)⟩
      · rw [repL_list, List.length_map, List.length_replicate]; exact len30 (by exact axec88df ni1 lb1)
      rw [repL_list, show b1.map (sgV fl) ++ List.replicate ni (V.str [57]) = (b1 ++ List.replicate ni Tk.nine).map (sgV fl) by rw [List.map_append, List.map_replicate]; rfl] at gM
      have X710 := (X8.trans X9).trans X10
      have X010 := X07.trans X710.nil
      have a0 := X010.len
      have a1 := X07.len
      have a2 := (X8.trans X9).len
      refine inserted_ok gM r2 bas2 len2' (p7.lx X710 fun _ q => nomatch q) (by exact ax30efd6 hk) (by exact axeada5b hn a0) (by exact (fun q => (axf426a0 hn hpl l10 a1 a2 q))) fun W m H11 gW rm ml md mp mg p11 X11 lW => pc2_ok (ni := ni) hkw h36 p11 hk (by have := X11.len; exact ax976796 hn a0 this) gW ml (by exact (fun q => (ax42710c hn hpl a0 lW q))) hp1 la0 la1 (fun e => ⟨(hil e).2, q2l (hil e).1 (hil e).2⟩) q2p
        fun beh q3 sgn mon pre post S H12 hbeh hpre hpost gS p12 X12 lS => kk S fl pre (m ++ beh) post sgn mon q3 H12 gS (pic_of ?_ hpre rm hbeh hpost mg ne2 bas2 (by rw [md, dig2]; exact ax069e11 lo1 ni1) mp) ?_ p12 ((X010.trans X11).trans X12) (Nat.le_trans (X010.trans X11).len lS)
      · rcases hkw with c | c | c; exact .inr (.inl c.2); exact .inr (.inr c.2.2); exact .inl c.2
      · have := (pre_len hpre).1; have := post_len hpost; have := hbeh.len
        unfold toks
        rw [List.length_append, List.length_append, List.length_append, List.length_map, List.length_map]; exact axedd97c ml (by assumption) (by assumption) this
    refine if_b (fun hni => if_d (fun h5 => draw_ok p6 (by exact axbd5390 hk) (by decide) (by decide) fun d H7 d0 d1 p7 X7 => whole _ H7 (fun _ => ⟨by have := eq_of_beq hni; exact axffbe9f this, h5⟩) p7 X7) fun h5 => whole false H6 (fun q => nomatch q) (p6.le (by exact axe94ab2)) (.refl ..)) fun hni => whole false H6 (fun q => nomatch q) (p6.le (by exact axe94ab2)) (.refl ..)
  have mk : ∀ (z : Nat) (s : List Nat) (E : Nat) (H4 : Hp) (zi : Int), zi = z → z ≤ 8 → b1.map (sg fl) = List.replicate z s → H4[E]? = some (.list [.str s]) → Lx [] H3 H4 → vMul (.ref E) (.int zi) H4 fun v H => B_pc0 [some (.ref p), some (.int 4), some (.int w), some (.int (1 + (lo : Nat))), some (.int (ni : Nat)), some (.str fl), some v, none, none, none, none, none, none, none, none] H (fun _ H => K .none H) K := fun z s E H4 zi hzi hz e gE X4 => by
    subst hzi
    refine at_list gE ⟨⟨by exact ax6fa31b, by exact ax21f379 hz⟩, by simp; exact ax5e3397 hz, new_at' fun A H5 gA XA lA => main A H5 ?_ (X4.trans XA) (Nat.le_trans X4.len lA)⟩
    rw [gA, repL_list, rep_map, ← e, ← sgV_map]
  have e2 := w234 w0 w1
  by_cases h5 : w < 5
  · rw [if_pos h5] at eB
    refine lt_t h5 (new_at' fun E H4 gE XE lE => if_b (fun q => ?_) fun q => ?_)
    · have h2 := (of_decide_eq_true (e2.symm.trans q)).1
      rw [if_pos h2] at eB
      exact mk _ fl E H4 _ (by exact ax125145) (by exact axa0fc75 lo1) eB gE XE
    · have h2 : ¬ 2 ≤ w := fun z => of_decide_eq_false (e2.symm.trans q) ⟨z, h5⟩
      rw [if_neg h2] at eB
      exact mk _ fl E H4 _ (by exact ax05b035) (by exact ax067cef lo1) eB gE XE
  · rw [if_neg h5] at eB
    exact lt_f (Int.not_lt.1 h5) (new_at' fun E H4 gE XE lE => mk _ [57] E H4 _ (by exact ax0b15d0) (by exact axafa6c2 lo1) eB gE XE)
end
theorem nB_fix (l : List (List Nat)) (r : List Tk) (b : Bool) : nB b (l.map Tk.fix ++ r) = nB b r := by
  induction l with
  | nil => rfl
  | cons s l ih => rw [List.map_cons, List.cons_append, nB, show dg (.fix s) = 0 from rfl, show (b || pt (.fix s)) = b from by cases b <;> rfl, ih]; split <;> exact ax5c464f
theorem nP_fix : ∀ l : List (List Nat), nP (l.map Tk.fix) = 0
  | [] => rfl
  | s :: r => by rw [List.map_cons, nP, nP_fix r]; rfl
theorem nB_post (l : List (List Nat)) : ∀ (c : List Tk) (b : Bool), nB b (c ++ l.map Tk.fix) = nB b c
  | [], b => by
    have := nB_fix l [] b
    rw [List.append_nil] at this
    rw [List.nil_append, this]
  | t :: c, b => by rw [List.cons_append, nB, nB_post l c, nB]
theorem toks_sums (pre post : List (List Nat)) (core : List Tk) : nD (toks pre core post) = nD core ∧ nP (toks pre core post) = nP core ∧ nB false (toks pre core post) = nB false core := by
  unfold toks
  refine ⟨?_, ?_, ?_⟩
  · rw [nD_app, nD_app, nD_fix, nD_fix]; exact axfa36e0
  · rw [nP_app, nP_app, nP_fix, nP_fix]; exact axfa36e0
  · rw [nB_fix, nB_post]
theorem nB_le (T : List Tk) : ∀ b, nB b T ≤ nD T := by
  induction T with
  | nil => intro b; exact Nat.le_refl _
  | cons t r ih => intro b; rw [nB, nD]; have := ih (b || pt t); split <;> (first | exact axcd4cd4 this | exact axa1f6a1 this | omega)
theorem sg_one {fl : List Nat} {p q : Ph} {t : Tk} (h : Nxt fl p t q) : (sg fl t).length ≤ 1 := by
  have hz : isZ fl ∨ isF fl → fl.length ≤ 1 := fun h => by rw [flen h]; exact Nat.le_refl 1
  cases h with
  | lead h => exact hz (.inr h)
  | loose0 h => exact hz (.inl h)
  | looseL h => exact hz (.inr h)
  | loose1 h => exact hz h
  | loose7 h => exact hz h
  | loose3 h => exact hz h
  | _ => exact Nat.le_refl 1
theorem flat_one : ∀ {l : List (List Nat)}, (∀ s ∈ l, s.length ≤ 1) → l.flatten.length ≤ l.length
  | [], _ => Nat.le_refl _
  | s :: r, h => by
    have h1 := h s (.head _)
    have h2 := flat_one fun x m => h x (.tail _ m)
    rw [List.flatten_cons, List.length_append, List.length_cons]; exact axf83720 h1 h2
theorem signs_flat {fl sgn mon : List Nat} {pre post : List (List Nat)} {core : List Tk} {q : Ph} (h : Pic fl pre core post sgn mon q) : (signs fl pre core post).flatten.length ≤ (toks pre core post).length + 1 := by
  have hp : ∀ s ∈ pre, s.length ≤ 1 := fun s m => by
    have hp := h.hpre
    cases hp with
    | nil => cases m
    | sgn _ hx => cases List.mem_singleton.1 m; rcases hx with rfl | rfl <;> decide
    | mon => cases List.mem_singleton.1 m; decide
    | both _ hx =>
      rcases List.mem_cons.1 m with rfl | m
      · rcases hx with rfl | rfl <;> decide
      · cases List.mem_singleton.1 m; decide
  have hc : ∀ {p q : Ph} {c : List Tk}, Run fl p c q → ∀ s ∈ c.map (sg fl), s.length ≤ 1 := fun r => by
    induction r with
    | nil => intro s m; cases m
    | cons n _ ih =>
      intro s m
      rcases List.mem_cons.1 m with rfl | m
      · exact sg_one n
      · exact ih s m
  have h1 := flat_one hp
  have h2 := flat_one (hc h.run)
  have h3 : post.flatten.length ≤ post.length + 1 := by
    rcases h.hpost with rfl | ⟨s, rfl, hs, _⟩
    · exact Nat.zero_le _
    · rcases hs with rfl | rfl | rfl | rfl <;> decide
  unfold signs toks
  simp only [List.flatten_append, List.length_append, List.length_map] at *
  exact axb40f80 h1 h3 h2
theorem signs_len (fl : List Nat) (pre post : List (List Nat)) (core : List Tk) : (signs fl pre core post).length = (toks pre core post).length := by rw [signs_toks, List.length_map]
theorem szOf_le {ss : List (List Nat)} (h : ∀ s ∈ ss, s ∈ allSigns) : szOf ss ≤ 2 * ss.length := by
  induction ss with
  | nil => exact Nat.le_refl _
  | cons s r ih =>
    have a1 := (by decide : ∀ s ∈ allSigns, szOf [s] ≤ 2) s (h s (.head _))
    have a2 := ih fun q m => h q (.tail _ m)
    have a3 : szOf (s :: r) = szOf [s] + szOf r := szOf_app [s] r
    rw [List.length_cons, a3]; exact ax0d676f a1 a2
structure Know (H : Hp) (p : Nat) (fl : List Nat) (T : List Tk) (pre post : List (List Nat)) (core : List Tk) (sgn mon : List Nat) (q : Ph) : Prop where
  pic : Pic fl pre core post sgn mon q
  eq : T = toks pre core post
  len : T.length ≤ 28
  at_ : PicAt H p (T.map (sg fl)) (nD T) ((nB false T : Nat) - (nP T : Nat))
theorem PicAt.lx {H H' : Hp} {p d : Nat} {ss : List (List Nat)} {sc : Int} (X : Lx [] H H') (h : PicAt H p ss d sc) : PicAt H' p ss d sc := by
  obtain ⟨tx, sy, ca, b, acc, g1, g2, r⟩ := h
  exact ⟨tx, sy, ca, b, acc, X.at0 g1, X.at0 g2, r⟩
theorem PicAt.draw {H H' : Hp} {p d pn k n : Nat} {ss : List (List Nat)} {sc : Int} (hp : Pen H pn k n) (X : Lx [pn] H H') (h : PicAt H p ss d sc) : PicAt H' p ss d sc := by
  obtain ⟨tx, sy, ca, b, acc, g1, g2, r⟩ := h
  obtain ⟨L, xs, a, b', c, e, -⟩ := hp
  refine ⟨tx, sy, ca, b, acc, X.at1 (fun q => ?_) g1, X.at1 (fun q => ?_) g2, r⟩
  · subst q; rw [g1] at e; cases e
  · subst q; rw [g2] at e
    cases acc with
    | nil => cases e
    | cons x r => cases e
theorem pic_read {fl sgn mon : List Nat} {pre post : List (List Nat)} {core : List Tk} {q : Ph} {H : Hp} {K : KV} {tx : List Nat} (h : Pic fl pre core post sgn mon q) (htx : (signs fl pre core post).flatten = tx) (hl : (toks pre core post).length ≤ 28)
    (kk : ∀ p H', Know H' p fl (toks pre core post) pre post core sgn mon q → Lx [] H H' → K (.ref p) H') : callAt F_read_picture [.str tx] H K := by
  obtain ⟨st, r, e1, e2, e3, e4, e5, e6⟩ := pic_runs h
  obtain ⟨s1, s2, s3⟩ := toks_sums pre post core
  have hsg := signs_all h
  rw [← htx, ← one_txt]
  refine read_ok (one_ok hsg) (by rw [one_txt]; have := signs_flat h; exact ax1e192a hl this) (one_expand _) (by rw [signs_len]; exact ax3a6be0 hl) hsg r e1 e6 e4 e5 (by have := h.dgs; rw [e3]; exact ax9f08d8 this) fun p H' hp X => kk p H' ⟨h, rfl, hl, ?_⟩ X
  rw [← signs_toks, s1, s2, s3]
  rw [e2, e3] at hp
  exact hp
section
variable {H : Hp} {p : Nat} {fl : List Nat} {T : List Tk} {pre post : List (List Nat)} {core : List Tk} {sgn mon : List Nat} {q : Ph}
theorem Know.d18 (h : Know H p fl T pre post core sgn mon q) : nD T + nP T ≤ 18 ∧ nB false T ≤ nD T := by
  obtain ⟨s1, s2, s3⟩ := toks_sums pre post core
  refine ⟨?_, nB_le T false⟩
  rw [h.eq, s1, s2]; exact h.pic.dgs
theorem Know.tok (h : Know H p fl T pre post core sgn mon q) : TOk fl T where
  good := h.eq ▸ pic_good h.pic
  hfl := h.pic.hf
  len := by have := h.len; exact ax3a6be0 this
  ge := h.eq ▸ pic_ge h.pic
  le := h.eq ▸ pic_le h.pic
  ok2 := h.eq ▸ pic_okS h.pic
  sz := by
    have := szOf_le (signs_all h.pic)
    rw [signs_len, ← h.eq] at this
    rw [h.eq, ← signs_toks]
    have hl := h.len
    exact ax17ffb7 this hl
  hD := by have := h.d18.1; exact ax9a0a2b this
  spot := h.eq ▸ fun hl F fill neg => cut_spot h.pic hl F fill neg
theorem know_edit {K : KV} (h : Know H p fl T pre post core sgn mon q) {w u : Int} {m s : Nat} {blank : Bool} (hms : m ≤ s) (hs : s < 30) (hw : u = w * 10 ^ (s - m)) (hu : u.natAbs < 1152921504606846976) {U : Nat} (hU : U = cutN u.natAbs s ((nB false T : Nat) - (nP T : Nat)) % 10 ^ nD T) {vs : List V} (hv : padEdited vs = some [.ref p, .tup [.int w, .int m], .bool blank])
    (kk : ∀ x H', x = byt (edT fl T (nD T) U (decide (u < 0) && decide (0 < U)) (szOf (T.map (sg fl))) blank) → Lx [] H H' → K (.bytes x) H') : callAt F_edited vs H K := by
  have p10 : (0 : Int) < 10 ^ (s - m) := Int.pow_pos (by decide)
  have hwu : w.natAbs ≤ u.natAbs := by
    rw [hw, Int.natAbs_mul]
    exact Nat.le_mul_of_pos_right _ (by omega)
  have sgnw : (decide (w < 0) && decide (0 < U)) = (decide (u < 0) && decide (0 < U)) := by
    congr 1
    refine decide_eq_decide.2 ?_
    rw [hw]
    constructor
    · intro h; exact Int.mul_neg_of_neg_of_pos h p10
    · intro h; exact Int.lt_of_not_ge fun q => absurd (Int.mul_nonneg q (Int.le_of_lt p10)) (by exact (fun q => (axdfbe0e h q)))
  have d1 := h.d18
  rw [← sgnw] at kk
  exact edited_ok h.at_ h.tok (by exact axbfd972 hu hwu) (by exact ax26336c hms hs) (by exact axaddb3a d1.1) (by exact ax30752b d1.1 d1.2) (by rw [hU, cutN_units hms hw]) hv kk
end
theorem sz_tok {fl F : List Nat} {neg b : Bool} {k : Nat} {t : Tk} (h : headOk fl b t) : szOf [sg fl t] = if kindS t = kLead then 1 else (cell F neg k t).length := by
  have e := congrArg List.length (van_cell (F := F) (neg := neg) (k := k) h).2
  rw [List.length_replicate] at e
  rw [← e]
  unfold vlS
  rw [if_neg (fun q => by have := q.2.1; cases this), repL_str, List.length_replicate]; rfl
theorem van_len {fl : List Nat} {b : Bool} {t : Tk} (h : headOk fl b t) : (vanT fl t).length = szOf [sg fl t] := by
  have e1 := (van_cell (F := []) (neg := false) (k := 0) h).1
  rw [sz_tok (F := []) (neg := false) (k := 0) h, ← e1]
  cases t with
  | dot => rfl
  | vee => rfl
  | ins c =>
    unfold vlS
    rw [if_neg (fun q => absurd q.1 (show kPut_ ≠ kPoint by decide)), repL_str, List.length_replicate]; rfl
  | fix s =>
    unfold vlS
    rw [if_neg (fun q => absurd q.1 (show kPlain ≠ kPoint by decide)), repL_str, List.length_replicate]; rfl
  | _ =>
    unfold vlS
    rw [if_neg (fun q => by have := q.1; revert this; decide), repL_str, List.length_replicate]; rfl
theorem cells_len {fl F : List Nat} {neg : Bool} : ∀ (T : List Tk) (b : Bool) (k : Nat), Good fl b T → (∀ t ∈ T, t ≠ .lead) → (cellsL F neg k T).flatten.length = szOf (T.map (sg fl))
  | [], _, _, _, _ => rfl
  | t :: r, b, k, hg, hn => by
    have hh := good_head hg
    have h1 : (cellP F neg k t).flatten.length = szOf [sg fl t] := by
      rw [sz_tok (F := F) (neg := neg) (k := k) hh.1]
      cases t with
      | lead => exact absurd rfl (hn _ (.head _))
      | pee => rfl
      | _ => simp [cellP, cell, kindS, kLead, kLoose, kNine, kPut_, kPoint, kPlain]
    rw [cellsL, List.flatten_append, List.length_append, cells_len r _ _ hh.2 (fun x m => hn x (.tail _ m)), h1, List.map_cons, show szOf (sg fl t :: r.map (sg fl)) = szOf [sg fl t] + szOf (r.map (sg fl)) from szOf_app [_] _]
theorem hid_len {fl F : List Nat} : ∀ (B : List Tk) (b : Bool) (k : Nat), Good fl b B → Hid F k B → szOf (B.map (sg fl)) = B.length
  | [], _, _, _, _ => rfl
  | t :: r, b, k, hg, hh => by
    have hd := good_head hg
    rw [List.map_cons, show szOf (sg fl t :: r.map (sg fl)) = szOf [sg fl t] + szOf (r.map (sg fl)) from szOf_app [_] _, hid_len r _ _ hd.2 hh.2, sz_tok (F := F) (neg := false) (k := 0) hd.1, List.length_cons]
    have : (if kindS t = kLead then 1 else (cell F false 0 t).length) = 1 := by
      cases t with
      | lead => exact if_pos rfl
      | loose => exact if_neg (by decide)
      | ins c => rw [if_neg (show ¬ kindS (.ins c) = kLead from show ¬ kPut_ = kLead by decide)]; show (insT c).length = 1; unfold insT; split <;> rfl
      | nine => exact hh.1.elim
      | dot => exact hh.1.elim
      | vee => exact hh.1.elim
      | pee => exact hh.1.elim
      | fix s => exact hh.1.elim
    rw [this]; exact ax58f869
theorem good_app {fl : List Nat} : ∀ {a b : List Tk} {l : Bool}, Good fl l (a ++ b) → Good fl l a ∧ ∃ l', Good fl l' b
  | [], b, l, h => ⟨trivial, l, h⟩
  | t :: a, b, l, h => by
    have h' : Good fl l (t :: (a ++ b)) := h
    have hh := good_head h'
    obtain ⟨h1, h2⟩ := good_app hh.2
    exact ⟨by cases t <;> exact ⟨hh.1, h1⟩, h2⟩
theorem flat_rep (n c : Nat) : (List.replicate n [c]).flatten.length = n := by
  induction n with
  | zero => rfl
  | succ n ih => rw [List.replicate_succ, List.flatten_cons, List.length_append, ih]; show 1 + n = n + 1; exact ax58f869
theorem flat_set {R : List (List Nat)} {j : Nat} {w : List Nat} (h : ∀ x ∈ R, x.length = 1) (hw : w.length = 1) : (R.set j w).flatten.length = R.flatten.length := by
  have all : ∀ {R : List (List Nat)}, (∀ x ∈ R, x.length = 1) → R.flatten.length = R.length := fun {R} h => by
    induction R with
    | nil => rfl
    | cons x r ih => rw [List.flatten_cons, List.length_append, ih fun y m => h y (.tail _ m), h x (.head _), List.length_cons]; exact ax58f869
  rw [all h, all (fun x m => ?_), List.length_set]
  rcases List.mem_or_eq_of_mem_set m with m | m
  · exact h x m
  · rw [m]; exact hw
theorem edT_len {fl sgn mon : List Nat} {pre post : List (List Nat)} {core : List Tk} {q : Ph} (h : Pic fl pre core post sgn mon q) {d U : Nat} {neg : Bool} : (edT fl (toks pre core post) d U neg (szOf ((toks pre core post).map (sg fl))) false).length = szOf ((toks pre core post).map (sg fl)) := by
  have hg := pic_good h
  unfold edT
  rw [if_neg (fun q => by cases q.2)]
  split
  · unfold vanR
    split
    · have : ∀ (T : List Tk) (b : Bool), Good fl b T → (T.map (vanT fl)).flatten.length = szOf (T.map (sg fl)) := fun T => by
        induction T with
        | nil => intro b _; rfl
        | cons t r ih =>
          intro b hg
          have hh := good_head hg
          rw [List.map_cons, List.flatten_cons, List.length_append, ih _ hh.2, van_len hh.1, List.map_cons, show szOf (sg fl t :: r.map (sg fl)) = szOf [sg fl t] + szOf (r.map (sg fl)) from szOf_app [_] _]
      exact this _ _ hg
    · exact List.length_replicate
  · obtain ⟨B, D, hc⟩ := cut_of h (figR d U)
    have eT : toks pre core post = pre.map Tk.fix ++ (B ++ D) := by unfold toks; rw [hc.eq]
    obtain ⟨n, a⟩ := lay_all (F := figR d U) (fill := fillT fl (toks pre core post)) (neg := neg) (pre := pre) hc.hd hc.hid hc.hC hc.nl
    rw [← eT] at a
    obtain ⟨c, hfc⟩ : ∃ c, fillT fl (toks pre core post) = [c] := by unfold fillT; split <;> exact ⟨_, rfl⟩
    obtain ⟨g1, l1, g2⟩ := good_app (eT ▸ hg)
    obtain ⟨g3, l2, g4⟩ := good_app g2
    have lA := cells_len (F := figR d U) (neg := neg) (pre.map Tk.fix) false 0 g1 (fun t m e => by obtain ⟨s, _, e'⟩ := List.mem_map.1 m; rw [e] at e'; cases e')
    have lD := cells_len (F := figR d U) (neg := neg) D l2 (nD B) g4 hc.nl
    have lB := hid_len B l1 0 g3 hc.hid
    have tot : szOf ((toks pre core post).map (sg fl)) = szOf ((pre.map Tk.fix).map (sg fl)) + (B.length + szOf (D.map (sg fl))) := by
      rw [eT, List.map_append, List.map_append, szOf_app, szOf_app, lB]
    unfold layF fixS
    rw [a.fd, a.sp, hfc]
    by_cases hL : hasL fl (toks pre core post) = true
    · rw [if_pos hL]
      have hf := (hasL_iff h).1 hL
      have hB := hc.ne hf
      have hBl : 0 < B.length := List.length_pos_iff.2 hB
      have lA' : (cellsL (figR d U) neg 0 (pre.map Tk.fix)).length = pre.length := cellsL_fix _ _ _ _
      rw [if_neg hB, show (((pre.length + B.length - 1 : Nat) : Int)).toNat = pre.length + B.length - 1 from rfl, List.set_append_right _ _ (by omega), List.set_append_left _ _ (by rw [List.length_replicate]; omega), List.flatten_append, List.flatten_append, List.length_append, List.length_append, lA, lD, flat_set (fun x m => by rw [(List.mem_replicate.1 m).2]; rfl) (by rw [signT_len (by rcases hf with e | e | e; exact .inl e; exact .inr (.inl e); exact .inr (.inr (.inl e)))]; exact flen (.inr hf)), flat_rep, tot]
    · rw [if_neg hL, List.flatten_append, List.flatten_append, List.length_append, List.length_append, lA, lD, flat_rep, tot]
noncomputable def rowB : SX := sSeq (sIf (tCmp vNe (eCal F_edited (lCons (eCal F_read_picture (lCons (eLoc 2) (lNil))) (lCons (eCal F_decimal (lCons (eLoc 3) (lCons (eLoc 4) (lNil)))) (lNil)))) (eFun fBytes (lCons (eComp 1 (iVal true (eLoc 5)) (bName 0) (tTrue) (eFun fOrd (lCons (eLoc 0) (lNil)))) (lNil)))) (sSeq (sRet (eCon (.bool false))) (sNil)) (sNil)) (sNil)
noncomputable def B_law1 : SX := sFor (iVal false (eCon vTable)) (bTup [2, 3, 4, 5]) rowB
noncomputable def B_lwb2 : SX := sSeq (sIf (tAnd (tCmp vNotIn (eCon (.str [42])) (eLoc 6)) (tAnd (tCmp vNe (eCal F_edited (lCons (eLoc 7) (lCons (eCal F_decimal (lCons (eLoc 3) (lCons (eLoc 4) (lNil)))) (lCons (eCon (.bool true)) (lNil))))) (eIf (tCmp vEq (eLoc 9) (eCon (.int 0))) (eOp2 vMul (eCon (.bytes [32])) (eFun fLen (lCons (eLoc 5) (lNil)))) (eLoc 5))) (tTrue))) (sSeq (sRet (eCon (.bool false))) (sNil)) (sNil)) (sNil)
noncomputable def B_lwb1 : SX := sSeq (sIf (tOr (tCmp vNe (eCal F_edited (lCons (eLoc 7) (lCons (eCal F_decimal (lCons (eLoc 3) (lCons (eLoc 4) (lNil)))) (lNil)))) (eLoc 5)) (tOr (tCmp vNe (eFun fLen (lCons (eLoc 5) (lNil))) (eOp1 (vAttr 113 6) (eLoc 7))) (tFalse))) (sSeq (sRet (eCon (.bool false))) (sNil)) (sNil)) B_lwb2
noncomputable def B_lwb : SX := sSeq (sUnp (bTup [3, 4]) (eCal F_law_number (lCons (eLoc 1) (lNil)))) (sSeq (sUnp (bTup [9, 10, 11]) (eCal F_law_cut (lCons (eLoc 6) (lCons (eLoc 3) (lCons (eLoc 4) (lNil)))))) (sSeq (sSet 2 (eCal F_law_edited (lCons (eLoc 6) (lCons (eLoc 9) (lCons (eLoc 11) (lNil)))))) (sSeq (sSet 5 (eFun fBytes (lCons (eComp 1 (iVal true (eLoc 2)) (bName 0) (tTrue) (eFun fOrd (lCons (eLoc 0) (lNil)))) (lNil)))) B_lwb1)))
noncomputable def B_law4 : SX := sSeq (sRet (eBool (tCmp vEq (eCal F_edited (lCons (eLoc 7) (lCons (eCal F_decimal (lCons (eCon (.int 0)) (lNil))) (lNil)))) (eFun fBytes (lCons (eComp 1 (iVal true (eCal F_law_edited (lCons (eLoc 6) (lCons (eCon (.int 0)) (lCons (eLoc 11) (lNil)))))) (bName 0) (tTrue) (eFun fOrd (lCons (eLoc 0) (lNil)))) (lNil)))))) (sNil)
noncomputable def B_law3 : SX := sSeq (sFor (iRange (eCon (.int 2))) (bName 8) B_lwb) B_law4
noncomputable def B_law2 : SX := sSeq (sSet 6 (eCal F_law_picture (lCons (eLoc 1) (lCons (eCon (.int 4)) (lNil))))) (sSeq (sSet 7 (eCal F_read_picture (lCons (eBM 0 fJoin (eCon (.str [])) (lCons (eLoc 6) (lNil))) (lNil)))) B_law3)
theorem Know.lx {H H' : Hp} {p : Nat} {fl : List Nat} {T : List Tk} {pre post : List (List Nat)} {core : List Tk} {sgn mon : List Nat} {q : Ph} (X : Lx [] H H') (h : Know H p fl T pre post core sgn mon q) : Know H' p fl T pre post core sgn mon q := ⟨h.pic, h.eq, h.len, h.at_.lx X⟩
theorem Know.draw {H H' : Hp} {p P k n : Nat} {fl : List Nat} {T : List Tk} {pre post : List (List Nat)} {core : List Tk} {sgn mon : List Nat} {q : Ph} (hp : Pen H P k n) (X : Lx [P] H H') (h : Know H p fl T pre post core sgn mon q) : Know H' p fl T pre post core sgn mon q := ⟨h.pic, h.eq, h.len, h.at_.draw hp X⟩
theorem held_eq {u : Int} {U : Nat} : (decide (u < 0) && decide (0 < U)) = decide ((if u < 0 then -(U : Int) else U) < 0) ∧ (if u < 0 then -(U : Int) else (U : Int)).natAbs = U ∧ ((if u < 0 then -(U : Int) else (U : Int)) = 0 ↔ U = 0) := by
  by_cases h : u < 0
  · rw [if_pos h, decide_eq_true h, Bool.true_and]
    exact ⟨decide_eq_decide.2 (by omega), by omega, by omega⟩
  · rw [if_neg h, decide_eq_false h, Bool.false_and]
    exact ⟨(decide_eq_false (by exact (fun q => (ax0729d4 q)))).symm, by omega, by omega⟩
theorem byt_len (s : List Nat) : (byt s).length = s.length := by unfold byt; rw [List.length_map, List.length_map]
theorem byt_rep (n : Nat) : byt (List.replicate n 32) = repL (n : Int) [32] := by
  unfold byt repL
  rw [List.map_replicate, List.map_replicate, show (n : Int).toNat = n from rfl]
  induction n with
  | zero => rfl
  | succ k ih => rw [List.replicate_succ, ih, List.replicate_succ, List.flatten_cons]; rfl
theorem edT_blank {fl : List Nat} {T : List Tk} {d U sz : Nat} {neg : Bool} : edT fl T d U neg sz true = if U = 0 then List.replicate sz 32 else edT fl T d U neg sz false := by
  unfold edT
  by_cases h : U = 0
  · rw [if_pos ⟨h, rfl⟩, if_pos h]
  · rw [if_neg (fun q => h q.1), if_neg h, if_neg (fun q => h q.1), if_neg (fun q => h q.1)]
theorem lay_okS {fl F fill : List Nat} {neg : Bool} (hf : okS fill) (hF : ∀ c ∈ F, c < 256) : ∀ (T : List Tk) (st : Ly), (∀ t ∈ T, okS (sg fl t)) → (∀ x ∈ st.found, okS x) → (∀ x ∈ (T.foldl (layStep F fill neg) st).found, okS x) ∧ (T.foldl (layStep F fill neg) st).found.length ≤ st.found.length + T.length
  | [], st, _, h => ⟨h, Nat.le_refl _⟩
  | t :: r, st, hT, h => by
    obtain ⟨a, b, _⟩ := lay_inv (neg := neg) (hT t (.head _)) hf hF h
    obtain ⟨c, d⟩ := lay_okS hf hF r (layStep F fill neg st t) (fun x m => hT x (.tail _ m)) a
    exact ⟨c, by rw [List.foldl_cons, List.length_cons]; exact axc65665 b d⟩
theorem edT_chr {fl : List Nat} {T : List Tk} (h : TOk fl T) {d U : Nat} {neg : Bool} : (∀ c ∈ edT fl T d U neg (szOf (T.map (sg fl))) false, c < 256) ∧ (edT fl T d U neg (szOf (T.map (sg fl))) false).length ≤ 1000 := by
  unfold edT
  rw [if_neg (fun q => by cases q.2)]
  have hl := h.len
  split
  · exact vanR_chr hl (fun t m => (h.ok2 t m).1) h.sz
  · have hfill : okS (fillT fl T) := by unfold fillT; split <;> exact ⟨by decide, by decide⟩
    obtain ⟨a, b⟩ := lay_okS (neg := neg) hfill (figR_chr d U) T st0 h.ok2 (fun x m => by cases m)
    have b' : (T.foldl (layStep (figR d U) (fillT fl T) neg) st0).found.length ≤ T.length := by have := b; simp [st0] at this; exact this
    have fin : ∀ l : List (List Nat), (∀ x ∈ l, okS x) → l.length ≤ 30 → (∀ c ∈ l.flatten, c < 256) ∧ l.flatten.length ≤ 1000 := fun l h1 h2 => ⟨(flat_chr h1).1, by have := (flat_chr h1).2; exact axaab2df h2 this⟩
    unfold layF fixS
    split
    · refine fin _ (fun x m => ?_) (by rw [List.length_set]; exact ax931256 hl b')
      rcases List.mem_or_eq_of_mem_set m with m | m
      · exact a x m
      · subst m; exact signT_ok h.okfl
    · exact fin _ a (by exact ax931256 hl b')
theorem decimal0_ok {H : Hp} {K : KV} (kk : K (.tup [.int 0, .int 0]) H) : callAt F_decimal [.int 0] H K := ⟨⟨1, kk⟩⟩
inductive LawI (P n : Nat) (S p : Nat) (fl : List Nat) (T : List Tk) (pre post : List (List Nat)) (core : List Tk) (sgn mon : List Nat) (q : Ph) : List V → Rho → Hp → Prop
  | mk {r : List V} (x0 x2 x3 x4 x5 x8 x9 x10 x11 : Option V) (H : Hp) (pen : Pen H P (100 + 10 * (2 - r.length)) n) (gS : H[S]? = some (.list (T.map (sgV fl)))) (hK : Know H p fl T pre post core sgn mon q) (hr : r.length ≤ 2) (h11 : r.length = 2 ∨ x11 = some (.int (nD T : Nat))) :
    LawI P n S p fl T pre post core sgn mon q r [x0, some (.ref P), x2, x3, x4, x5, some (.ref S), some (.ref p), x8, x9, x10, x11] H
section
variable {H : Hp} {N G : KN} {R : KV} {P k n S p : Nat} {fl : List Nat} {T : List Tk} {pre post : List (List Nat)} {core : List Tk} {sgn mon : List Nat} {q : Ph} {x0 x2 x3 x4 x5 x6 x7 x8 x9 x10 x11 : Option V}
theorem law4_ok (hK : Know H p fl T pre post core sgn mon q) (gS : H[S]? = some (.list (T.map (sgV fl)))) (kk : ∀ H', R (.bool true) H') : B_law4 [x0, some (.ref P), x2, x3, x4, x5, some (.ref S), some (.ref p), x8, x9, x10, some (.int (nD T : Nat))] H N R := by
  have hcz : 0 = cutN (0 : Int).natAbs 0 ((nB false T : Nat) - (nP T : Nat)) % 10 ^ nD T := by unfold cutN; simp
  have d := hK.d18
  have l := hK.len
  have hok := hK.tok
  refine decimal0_ok (know_edit hK (w := 0) (u := 0) (m := 0) (s := 0) (Nat.le_refl _) (by decide) (by decide) (by decide) hcz (blank := false) rfl fun x H2 hx X2 => ⟨law_edited_ok hK.pic hK.eq (X2.at0 gS) (by exact ax3a6be0 l) (by exact ax9a0a2b d.1) rfl (Nat.pow_pos (by decide)) (U := 0) (neg := decide ((0 : Int) < 0) && decide (0 < 0)) rfl rfl fun z H3 hz X3 => ?_⟩)
  have ch := edT_chr hok (d := nD T) (U := 0) (neg := decide ((0 : Int) < 0) && decide (0 < 0))
  rw [← hz] at ch hx
  refine bytes_ok (K := fun v H => vEq (.bytes x) v H fun c => R (.bool c) H) ch.1 ch.2 fun H4 X4 => ?_
  have e : (x == byt z) = true := by rw [hx]; exact beq_self_eq_true _
  show R (.bool (x == byt z)) H4
  rw [e]
  exact kk H4
theorem lwb2_ok {u held : Int} {s U : Nat} {neg : Bool} {E : List Nat} (hK : Know H p fl T pre post core sgn mon q) (gS : H[S]? = some (.list (T.map (sgV fl)))) (hu : u.natAbs < 1152921504606846976) (hs : s < 5) (hU : U = cutN u.natAbs s ((nB false T : Nat) - (nP T : Nat)) % 10 ^ nD T) (hn : (decide (u < 0) && decide (0 < U)) = neg) (h0 : held = 0 ↔ U = 0)
    (hE : E = edT fl T (nD T) U neg (szOf (T.map (sg fl))) false) (hEl : E.length = szOf (T.map (sg fl))) (hE1 : E.length ≤ 1000)
    (done : ∀ H', Lx [] H H' → G [x0, some (.ref P), x2, some (.int u), some (.int (s : Nat)), some (.bytes (byt E)), some (.ref S), some (.ref p), x8, some (.int held), x10, x11] H') : B_lwb2 [x0, some (.ref P), x2, some (.int u), some (.int (s : Nat)), some (.bytes (byt E)), some (.ref S), some (.ref p), x8, some (.int held), x10, x11] H G R := by
  have gS' := gS
  rw [sgV_map] at gS'
  have hst := star_eq T false hK.tok.good
  have lE : (byt E).length ≤ lenMax := by rw [byt_len]; exact Nat.le_trans hE1 (by decide)
  refine at_list gS' (on_some (strs_map _) ?_)
  cases hS : hasS fl T with
  | true => exact not_f (hst.trans hS) (done H (.refl ..))
  | false =>
    refine not_t (hst.trans hS) (decimal_ok fun w m hm hw => know_edit hK hm (by exact axf24cd6 hs) hw hu hU (blank := true) rfl fun x H2 hx X2 => ?_)
    rw [hn, edT_blank] at hx
    by_cases hU0 : U = 0
    · rw [if_pos hU0] at hx
      refine ie_t (h0.2 hU0) ⟨lE, by decide, by decide, by rw [byt_len]; exact ⟨by exact ax6fa31b, by exact ax274152 hE1⟩, not_f ?_ (done H2 X2)⟩
      rw [hx, byt_rep, byt_len, hEl]; exact beq_self_eq_true _
    · rw [if_neg hU0] at hx
      refine ie_f (fun z => hU0 (h0.1 z)) (not_f ?_ (done H2 X2))
      rw [hx, ← hE]; exact beq_self_eq_true _
theorem lwb1_ok {u held : Int} {s U : Nat} {neg : Bool} {E : List Nat} (hK : Know H p fl T pre post core sgn mon q) (gS : H[S]? = some (.list (T.map (sgV fl)))) (hu : u.natAbs < 1152921504606846976) (hs : s < 5) (hU : U = cutN u.natAbs s ((nB false T : Nat) - (nP T : Nat)) % 10 ^ nD T) (hn : (decide (u < 0) && decide (0 < U)) = neg) (h0 : held = 0 ↔ U = 0)
    (hE : E = edT fl T (nD T) U neg (szOf (T.map (sg fl))) false) (hEl : E.length = szOf (T.map (sg fl))) (hE1 : E.length ≤ 1000)
    (done : ∀ H', Lx [] H H' → G [x0, some (.ref P), x2, some (.int u), some (.int (s : Nat)), some (.bytes (byt E)), some (.ref S), some (.ref p), x8, some (.int held), x10, x11] H') : B_lwb1 [x0, some (.ref P), x2, some (.int u), some (.int (s : Nat)), some (.bytes (byt E)), some (.ref S), some (.ref p), x8, some (.int held), x10, x11] H G R := by
  have lE : (byt E).length ≤ lenMax := by rw [byt_len]; exact Nat.le_trans hE1 (by decide)
  refine decimal_ok fun w m hm hw => know_edit hK hm (by exact axf24cd6 hs) hw hu hU (blank := false) rfl fun x H2 hx X2 => ?_
  rw [hn, ← hE] at hx
  have hK2 := hK.lx X2
  obtain ⟨tx, sy, ca, bb, acc, gp, -⟩ := hK2.at_
  exact not_f (by rw [hx]; exact beq_self_eq_true _) ⟨lE, at_inst gp (in_f (by rw [byt_len, hEl]) (lwb2_ok hK2 (X2.at0 gS) hu hs hU hn h0 hE hEl hE1 fun H3 X3 => done H3 (X2.trans X3)))⟩
theorem law2_ok (hp : Pen H P k n) (hk : k ≤ 10) (hn : n ≤ H.length) (kk : ∀ H', R (.bool true) H') : B_law2 [x0, some (.ref P), x2, x3, x4, x5, x6, x7, x8, x9, x10, x11] H N R := by
  refine picture_ok hp (by exact axa7714c hk) hn fun S fl pre core post sgn mon q H1 gS hpic hlen p1 X1 lS => ?_
  have hSP : S ≠ P := by have := hp.lt; exact (fun q => (ax26f04b hn lS this q))
  have gS' := gS
  rw [sgV_map] at gS'
  refine at_list gS' ⟨rfl, _, strs_map _, ?_, pic_read hpic (by rw [signs_toks]) hlen fun p H2 hK X2 => ⟨⟨by decide, by decide⟩, for_go [.int 0, .int 1] (LawI P n S p fl (toks pre core post) pre post core sgn mon q) ⟨x0, x2, x3, x4, x5, x8, x9, x10, x11, H2, (p1.lx X2 fun _ q => nomatch q).le (by exact axb7b693 hk), X2.at0 gS, hK, Nat.le_refl 2, .inl rfl⟩ (fun _ _ _ _ => has_items) ?_ ?_⟩⟩
  · have := len2 fun x m => (by decide : ∀ s ∈ allSigns, s.length ≤ 2) x (signs_all hpic x m)
    rw [signs_len, signs_toks] at this
    rw [List.length_map]; exact axc4901f hlen this
  · generalize toks pre core post = T at *
    intro v r ρ K G go h
    obtain ⟨y0, y2, y3, y4, y5, y8, y9, y10, y11, _, pK, gSK, hK, hr, -⟩ := h
    have hr' : r.length ≤ 1 := by simp at hr; exact ax0f497c hr
    refine number_ok' pK (by omega) fun u s K1 hu hs pK1 XK1 => ?_
    have gS1 := XK1.at1 hSP gSK
    have hK1 := hK.draw pK XK1
    have ok := hK1.tok
    have d18 := hK1.d18
    refine law_cut_ok gS1 ok.good ok.len ok.ge ok.le hu (by exact ax919b5f hs) (by exact ax0cf2b6 d18.1 d18.2) (by exact ax476019 d18.1) ok.hD fun U held K2 hU hheld XK2 => ?_
    obtain ⟨hn1, hn2, hn3⟩ := held_eq (u := u) (U := U)
    rw [← hheld] at hn1 hn2 hn3
    have hUl : U < 10 ^ nD T := by rw [hU]; exact Nat.mod_lt _ (Nat.pow_pos (by decide))
    refine law_edited_ok hK1.pic hK1.eq (XK2.at0 gS1) ok.len ok.hD rfl hUl hn1 hn2 fun E K3 hE XK3 => ?_
    have ch := edT_chr ok (d := nD T) (U := U) (neg := decide (u < 0) && decide (0 < U))
    rw [← hE] at ch
    refine ⟨bytes_ok (K := fun y H => B_lwb1 [y0, some (.ref P), some (.str E), some (.int u), some (.int (s : Nat)), some y, some (.ref S), some (.ref p), some v, some (.int held), some (.int ((nB false T : Nat) - (nP T : Nat))), some (.int (nD T : Nat))] H G R) ch.1 ch.2 fun K4 X4 => ?_⟩
    have X14 := (XK2.trans XK3).trans X4
    have hlen2 : E.length = szOf (T.map (sg fl)) := by rw [hE, hK1.eq]; exact edT_len hK1.pic
    refine lwb1_ok (hK1.lx X14) (X14.at0 gS1) hu hs hU rfl hn3 hE hlen2 ch.2 fun K5 X5 => go _ _ ⟨_, _, _, _, _, _, _, _, _, K5, ((pK1.lx X14 fun _ q => nomatch q).lx X5 fun _ q => nomatch q).le ?_, X5.at0 (X14.at0 gS1), (hK1.lx X14).lx X5, by exact axc1f1e6 hr', .inr rfl⟩
    simp; omega
  · generalize toks pre core post = T at *
    intro ρ K h
    obtain ⟨y0, y2, y3, y4, y5, y8, y9, y10, y11, _, pK, gSK, hK, hr, h11⟩ := h
    have h11 : y11 = some (.int (nD T : Nat)) := h11.elim (fun q => by cases q) id
    subst h11
    exact law4_ok hK gSK kk
end
noncomputable def reads (tx fl : List Nat) (pre post : List (List Nat)) (core : List Tk) (sgn mon : List Nat) (q : Ph) : Prop :=
  ∀ (H : Hp) (K : KV), (∀ p H', Know H' p fl (toks pre core post) pre post core sgn mon q → Lx [] H H' → K (.ref p) H') → callAt F_read_picture [.str tx] H K
noncomputable def rowOk (it : V) : Prop := ∃ tx u s due, it = .tup [.str tx, .int u, .int s, .str due] ∧ ∀ x0 P x6 x7 x8 x9 x10 x11 H (N : KN) (R : KV), (∀ H', Lx [] H H' → N [x0, P, some (.str tx), some (.int u), some (.int s), some (.str due), x6, x7, x8, x9, x10, x11] H') → rowB [x0, P, some (.str tx), some (.int u), some (.int s), some (.str due), x6, x7, x8, x9, x10, x11] H N R
theorem row_ok {tx due fl : List Nat} {pre post : List (List Nat)} {core : List Tk} {sgn mon : List Nat} {q : Ph} {u : Int} {s : Nat} (hr : reads tx fl pre post core sgn mon q) (hs : s < 30) (hu : u.natAbs < 1152921504606846976) (U : Nat)
    (hU : U = cutN u.natAbs s ((nB false (toks pre core post) : Nat) - (nP (toks pre core post) : Nat)) % 10 ^ nD (toks pre core post)) (hE : edT fl (toks pre core post) (nD (toks pre core post)) U (decide (u < 0) && decide (0 < U)) (szOf ((toks pre core post).map (sg fl))) false = due) (hc : ∀ c ∈ due, c < 256) (hl : due.length ≤ 1000) :
    rowOk (.tup [.str tx, .int u, .int s, .str due]) := by
  refine ⟨tx, u, s, due, rfl, fun x0 P x6 x7 x8 x9 x10 x11 H N R k => hr H _ fun p H1 hK X1 => decimal_ok fun w m hm hw => know_edit hK hm hs hw hu hU (blank := false) rfl fun x H2 hx X2 => ?_⟩
  rw [hE] at hx
  refine ⟨bytes_ok (K := fun y H => vNe (.bytes x) y H fun c => cnd (R (.bool false) H) (N [x0, P, some (.str tx), some (.int u), some (.int s), some (.str due), x6, x7, x8, x9, x10, x11] H) c) hc hl fun H3 X3 => not_f ?_ (k H3 ((X1.trans X2).trans X3))⟩
  rw [hx]; exact beq_self_eq_true _
theorem read_cnt {fl sgn mon : List Nat} {pre post : List (List Nat)} {core : List Tk} {q : Ph} {its : List Rn} {st : Od} {tx : List Nat} (htx : txt its = tx) (h : Pic fl pre core post sgn mon q) (hl : (toks pre core post).length ≤ 28)
    (ok : ∀ p ∈ its, okIt p) (h30 : (txt its).length ≤ 30) (hx : expand its = signs fl pre core post) (r : Runs od0 its st) (e1 : st.nines + st.zeros + st.floats = (nD core : Nat)) (e2 : st.behind = (nB false core : Nat)) (e3 : st.trail = (nP core : Nat)) (e4 : st.last ≠ [44]) (e5 : st.last ≠ [46]) (e6 : nD core ≠ 0) : reads tx fl pre post core sgn mon q := by
  intro H K kk
  subst htx
  obtain ⟨s1, s2, s3⟩ := toks_sums pre post core
  refine read_ok ok h30 hx (by rw [signs_len]; exact ax3a6be0 hl) (signs_all h) r e1 e6 e4 e5 (by have := h.dgs; rw [e3]; exact ax9f08d8 this) fun p H' hp X => kk p H' ⟨h, rfl, hl, ?_⟩ X
  rw [← signs_toks, s1, s2, s3]
  rw [e2, e3] at hp
  exact hp
theorem read_one {fl sgn mon : List Nat} {pre post : List (List Nat)} {core : List Tk} {q : Ph} {tx : List Nat} (h : Pic fl pre core post sgn mon q) (htx : (signs fl pre core post).flatten = tx) (hl : (toks pre core post).length ≤ 28) : reads tx fl pre post core sgn mon q := fun H K kk => pic_read h htx hl kk
theorem picZ1 : Pic [90] [] [.loose, .loose, .ins 44, .loose, .loose, .nine, .dot, .nine, .nine] [] [] [] .p4 := ⟨.inr (.inl (.inl rfl)), .nil, .cons (.loose0 (.inl rfl)) (.cons (.loose1 (.inl (.inl rfl))) (.cons (.ins1 _ (.inl rfl)) (.cons (.loose1 (.inl (.inl rfl))) (.cons (.loose1 (.inl (.inl rfl))) (.cons (.nine1) (.cons (.dot2) (.cons (.nine8) (.cons (.nine4) (.nil _))))))))), (fun h => nomatch h), ⟨_, rfl, by decide, by decide⟩, .inl rfl, by decide⟩
theorem rowZ1 : rowOk (.tup [.str [90, 90, 44, 90, 90, 57, 46, 57, 57], .int (1234567), .int (2 : Nat), .str [49, 50, 44, 51, 52, 53, 46, 54, 55]]) := row_ok (read_one picZ1 rfl (by decide)) (by decide) (by decide) _ rfl rfl (by decide) (by decide)
theorem picZ2 : Pic [36] [] [.lead, .loose, .ins 44, .loose, .loose, .nine] [] [] [] .p2 := ⟨.inr (.inr (.inl rfl)), .nil, .cons (.lead (.inl rfl)) (.cons (.looseL (.inl rfl)) (.cons (.ins1 _ (.inl rfl)) (.cons (.loose1 (.inr (.inl rfl))) (.cons (.loose1 (.inr (.inl rfl))) (.cons (.nine1) (.nil _)))))), (fun h => nomatch h), ⟨_, rfl, by decide, by decide⟩, .inl rfl, by decide⟩
theorem rowZ2 : rowOk (.tup [.str [36, 36, 44, 36, 36, 57], .int (234), .int (0 : Nat), .str [32, 32, 36, 50, 51, 52]]) := row_ok (read_one picZ2 rfl (by decide)) (by decide) (by decide) _ rfl rfl (by decide) (by decide)
theorem picZ3 : Pic [42] [[36]] [.loose, .loose, .ins 44, .loose, .loose, .nine, .dot, .nine, .nine] [] [] [36] .p4 := ⟨.inr (.inl (.inr rfl)), .mon (fun h => by rcases h with h | h | h <;> cases h), .cons (.loose0 (.inr rfl)) (.cons (.loose1 (.inl (.inr rfl))) (.cons (.ins1 _ (.inl rfl)) (.cons (.loose1 (.inl (.inr rfl))) (.cons (.loose1 (.inl (.inr rfl))) (.cons (.nine1) (.cons (.dot2) (.cons (.nine8) (.cons (.nine4) (.nil _))))))))), (fun h => nomatch h), ⟨_, rfl, by decide, by decide⟩, .inl rfl, by decide⟩
theorem rowZ3 : rowOk (.tup [.str [36, 42, 42, 44, 42, 42, 57, 46, 57, 57], .int (5), .int (0 : Nat), .str [36, 42, 42, 42, 42, 42, 53, 46, 48, 48]]) := row_ok (read_one picZ3 rfl (by decide)) (by decide) (by decide) _ rfl rfl (by decide) (by decide)
theorem picZ4 : Pic [45] [] [.lead, .loose, .loose, .loose, .nine] [] [] [] .p2 := ⟨.inr (.inr (.inr (.inr rfl))), .nil, .cons (.lead (.inr (.inr rfl))) (.cons (.looseL (.inr (.inr rfl))) (.cons (.loose1 (.inr (.inr (.inr rfl)))) (.cons (.loose1 (.inr (.inr (.inr rfl)))) (.cons (.nine1) (.nil _))))), (fun h => nomatch h), ⟨_, rfl, by decide, by decide⟩, .inl rfl, by decide⟩
theorem rowZ4 : rowOk (.tup [.str [45, 40, 52, 41, 57], .int (-42), .int (0 : Nat), .str [32, 32, 45, 52, 50]]) := row_ok (read_cnt (its := [([45], 4), ([57], 1)]) rfl picZ4 (by decide) (fun p m => by rcases List.mem_cons.1 m with rfl | m; exact ⟨by decide, .inr ⟨by decide, .inr rfl⟩⟩; cases List.mem_singleton.1 m; exact ⟨by decide, .inl rfl⟩) (by decide) rfl (.cons ((ps_signN (st := od0) (n := 4) (.inr rfl) rfl rfl).step rfl (by decide)) (.cons ((ps_nine (n := 1) rfl rfl).step rfl (by decide)) (.nil _))) rfl rfl rfl (by decide) (by decide) (by decide)) (by decide) (by decide) _ rfl rfl (by decide) (by decide)
theorem picZ5 : Pic [43] [] [.lead, .loose, .loose, .loose] [] [] [] .p1 := ⟨.inr (.inr (.inr (.inl rfl))), .nil, .cons (.lead (.inr (.inl rfl))) (.cons (.looseL (.inr (.inl rfl))) (.cons (.loose1 (.inr (.inr (.inl rfl)))) (.cons (.loose1 (.inr (.inr (.inl rfl)))) (.nil _)))), (fun h => nomatch h), ⟨_, rfl, by decide, by decide⟩, .inl rfl, by decide⟩
theorem rowZ5 : rowOk (.tup [.str [43, 43, 43, 43], .int (0), .int (0 : Nat), .str [32, 32, 32, 32]]) := row_ok (read_one picZ5 rfl (by decide)) (by decide) (by decide) _ rfl rfl (by decide) (by decide)
theorem picZ6 : Pic [90] [] [.loose, .loose, .loose, .dot, .loose, .loose] [] [] [] .p3 := ⟨.inr (.inl (.inl rfl)), .nil, .cons (.loose0 (.inl rfl)) (.cons (.loose1 (.inl (.inl rfl))) (.cons (.loose1 (.inl (.inl rfl))) (.cons (.dot1) (.cons (.loose7 (.inl (.inl rfl))) (.cons (.loose3 (.inl (.inl rfl))) (.nil _)))))), (fun h => nomatch h), ⟨_, rfl, by decide, by decide⟩, .inl rfl, by decide⟩
theorem rowZ6 : rowOk (.tup [.str [90, 90, 90, 46, 90, 90], .int (5), .int (2 : Nat), .str [32, 32, 32, 46, 48, 53]]) := row_ok (read_one picZ6 rfl (by decide)) (by decide) (by decide) _ rfl rfl (by decide) (by decide)
theorem picZ7 : Pic [42] [] [.loose, .loose, .dot, .loose, .loose] [] [] [] .p3 := ⟨.inr (.inl (.inr rfl)), .nil, .cons (.loose0 (.inr rfl)) (.cons (.loose1 (.inl (.inr rfl))) (.cons (.dot1) (.cons (.loose7 (.inl (.inr rfl))) (.cons (.loose3 (.inl (.inr rfl))) (.nil _))))), (fun h => nomatch h), ⟨_, rfl, by decide, by decide⟩, .inl rfl, by decide⟩
theorem rowZ7 : rowOk (.tup [.str [42, 42, 46, 42, 42], .int (0), .int (0 : Nat), .str [42, 42, 46, 42, 42]]) := row_ok (read_one picZ7 rfl (by decide)) (by decide) (by decide) _ rfl rfl (by decide) (by decide)
theorem picZ8 : Pic [] [] [.nine, .nine, .ins 47, .nine, .nine, .ins 47, .nine, .nine] [] [] [] .p2 := ⟨.inl rfl, .nil, .cons (.nine0 rfl) (.cons (.nine2) (.cons (.ins2 _ (.inr (.inl rfl))) (.cons (.nine2) (.cons (.nine2) (.cons (.ins2 _ (.inr (.inl rfl))) (.cons (.nine2) (.cons (.nine2) (.nil _)))))))), (fun h => nomatch h), ⟨_, rfl, by decide, by decide⟩, .inl rfl, by decide⟩
theorem rowZ8 : rowOk (.tup [.str [57, 57, 47, 57, 57, 47, 57, 57], .int (10203), .int (0 : Nat), .str [48, 49, 47, 48, 50, 47, 48, 51]]) := row_ok (read_one picZ8 rfl (by decide)) (by decide) (by decide) _ rfl rfl (by decide) (by decide)
theorem picZ9 : Pic [] [] [.nine, .nine, .nine] [[67, 82]] [] [] .p2 := ⟨.inl rfl, .nil, .cons (.nine0 rfl) (.cons (.nine2) (.cons (.nine2) (.nil _))), (fun h => nomatch h), ⟨_, rfl, by decide, by decide⟩, .inr ⟨_, rfl, (.inl rfl), rfl, by decide, by decide⟩, by decide⟩
theorem rowZ9 : rowOk (.tup [.str [57, 40, 51, 41, 67, 82], .int (-7), .int (0 : Nat), .str [48, 48, 55, 67, 82]]) := row_ok (read_cnt (its := [([57], 3), ([67, 82], 1)]) rfl picZ9 (by decide) (fun p m => by rcases List.mem_cons.1 m with rfl | m; exact ⟨by decide, .inr ⟨by decide, .inl rfl⟩⟩; cases List.mem_singleton.1 m; exact ⟨by decide, .inl rfl⟩) (by decide) rfl (.cons ((ps_nine (st := od0) (n := 3) rfl rfl).step rfl (by decide)) (.cons ((ps_end (.inl rfl) (by decide) (by decide) rfl).step rfl (by decide)) (.nil _))) rfl rfl rfl (by decide) (by decide) (by decide)) (by decide) (by decide) _ rfl rfl (by decide) (by decide)
theorem picZ10 : Pic [] [] [.nine, .nine, .nine] [[68, 66]] [] [] .p2 := ⟨.inl rfl, .nil, .cons (.nine0 rfl) (.cons (.nine2) (.cons (.nine2) (.nil _))), (fun h => nomatch h), ⟨_, rfl, by decide, by decide⟩, .inr ⟨_, rfl, (.inr (.inl rfl)), rfl, by decide, by decide⟩, by decide⟩
theorem rowZ10 : rowOk (.tup [.str [57, 40, 51, 41, 68, 66], .int (7), .int (0 : Nat), .str [48, 48, 55, 32, 32]]) := row_ok (read_cnt (its := [([57], 3), ([68, 66], 1)]) rfl picZ10 (by decide) (fun p m => by rcases List.mem_cons.1 m with rfl | m; exact ⟨by decide, .inr ⟨by decide, .inl rfl⟩⟩; cases List.mem_singleton.1 m; exact ⟨by decide, .inl rfl⟩) (by decide) rfl (.cons ((ps_nine (st := od0) (n := 3) rfl rfl).step rfl (by decide)) (.cons ((ps_end (.inr (.inl rfl)) (by decide) (by decide) rfl).step rfl (by decide)) (.nil _))) rfl rfl rfl (by decide) (by decide) (by decide)) (by decide) (by decide) _ rfl rfl (by decide) (by decide)
theorem picZ11 : Pic [90] [] [.loose, .loose, .nine, .pee, .pee] [] [] [] .p5 := ⟨.inr (.inl (.inl rfl)), .nil, .cons (.loose0 (.inl rfl)) (.cons (.loose1 (.inl (.inl rfl))) (.cons (.nine1) (.cons (.pee2) (.cons (.pee5) (.nil _))))), (fun h => nomatch h), ⟨_, rfl, by decide, by decide⟩, .inl rfl, by decide⟩
theorem rowZ11 : rowOk (.tup [.str [90, 90, 57, 80, 80], .int (12345), .int (0 : Nat), .str [49, 50, 51]]) := row_ok (read_one picZ11 rfl (by decide)) (by decide) (by decide) _ rfl rfl (by decide) (by decide)
theorem picZ12 : Pic [90] [[43]] [.loose, .loose, .nine] [] [43] [] .p2 := ⟨.inr (.inl (.inl rfl)), .sgn _ (.inl rfl) (by decide) (by decide), .cons (.loose0 (.inl rfl)) (.cons (.loose1 (.inl (.inl rfl))) (.cons (.nine1) (.nil _))), (fun h => nomatch h), ⟨_, rfl, by decide, by decide⟩, .inl rfl, by decide⟩
theorem rowZ12 : rowOk (.tup [.str [43, 90, 90, 57], .int (0), .int (0 : Nat), .str [43, 32, 32, 48]]) := row_ok (read_one picZ12 rfl (by decide)) (by decide) (by decide) _ rfl rfl (by decide) (by decide)
theorem picZ13 : Pic [90] [] [.loose, .ins 44, .loose, .loose, .loose] [] [] [] .p1 := ⟨.inr (.inl (.inl rfl)), .nil, .cons (.loose0 (.inl rfl)) (.cons (.ins1 _ (.inl rfl)) (.cons (.loose1 (.inl (.inl rfl))) (.cons (.loose1 (.inl (.inl rfl))) (.cons (.loose1 (.inl (.inl rfl))) (.nil _))))), (fun h => nomatch h), ⟨_, rfl, by decide, by decide⟩, .inl rfl, by decide⟩
theorem rowZ13 : rowOk (.tup [.str [90, 44, 90, 90, 90], .int (0), .int (0 : Nat), .str [32, 32, 32, 32, 32]]) := row_ok (read_one picZ13 rfl (by decide)) (by decide) (by decide) _ rfl rfl (by decide) (by decide)
theorem picZ14 : Pic [90] [[36]] [.loose, .loose, .nine, .vee, .nine, .nine] [[45]] [] [36] .p4 := ⟨.inr (.inl (.inl rfl)), .mon (fun h => by rcases h with h | h | h <;> cases h), .cons (.loose0 (.inl rfl)) (.cons (.loose1 (.inl (.inl rfl))) (.cons (.nine1) (.cons (.vee2) (.cons (.nine8) (.cons (.nine4) (.nil _)))))), (fun h => nomatch h), ⟨_, rfl, by decide, by decide⟩, .inr ⟨_, rfl, (.inr (.inr (.inr rfl))), rfl, by decide, by decide⟩, by decide⟩
theorem rowZ14 : rowOk (.tup [.str [36, 90, 90, 57, 86, 57, 57, 45], .int (-1999), .int (3 : Nat), .str [36, 32, 32, 49, 57, 57, 45]]) := row_ok (read_one picZ14 rfl (by decide)) (by decide) (by decide) _ rfl rfl (by decide) (by decide)
theorem picZ15 : Pic [36] [[43]] [.lead, .loose, .nine] [] [43] [] .p2 := ⟨.inr (.inr (.inl rfl)), .sgn _ (.inl rfl) (by decide) (by decide), .cons (.lead (.inl rfl)) (.cons (.looseL (.inl rfl)) (.cons (.nine1) (.nil _))), (fun h => nomatch h), ⟨_, rfl, by decide, by decide⟩, .inl rfl, by decide⟩
theorem rowZ15 : rowOk (.tup [.str [43, 36, 36, 57], .int (-1234), .int (0 : Nat), .str [45, 36, 51, 52]]) := row_ok (read_one picZ15 rfl (by decide)) (by decide) (by decide) _ rfl rfl (by decide) (by decide)
theorem picZ16 : Pic [] [[45]] [.nine, .dot, .nine] [] [45] [] .p4 := ⟨.inl rfl, .sgn _ (.inr rfl) (by decide) (by decide), .cons (.nine0 rfl) (.cons (.dot2) (.cons (.nine8) (.nil _))), (fun h => nomatch h), ⟨_, rfl, by decide, by decide⟩, .inl rfl, by decide⟩
theorem rowZ16 : rowOk (.tup [.str [45, 57, 46, 57], .int (-1), .int (2 : Nat), .str [32, 48, 46, 48]]) := row_ok (read_one picZ16 rfl (by decide)) (by decide) (by decide) _ rfl rfl (by decide) (by decide)
theorem tab_ok : ∀ it ∈ (match vTable with | .tup l => l | _ => []), rowOk it := by
  show ∀ it ∈ [_, _, _, _, _, _, _, _, _, _, _, _, _, _, _, _], rowOk it
  exact List.forall_mem_cons.2 ⟨rowZ1, List.forall_mem_cons.2 ⟨rowZ2, List.forall_mem_cons.2 ⟨rowZ3, List.forall_mem_cons.2 ⟨rowZ4, List.forall_mem_cons.2 ⟨rowZ5, List.forall_mem_cons.2 ⟨rowZ6, List.forall_mem_cons.2 ⟨rowZ7, List.forall_mem_cons.2 ⟨rowZ8, List.forall_mem_cons.2 ⟨rowZ9, List.forall_mem_cons.2 ⟨rowZ10, List.forall_mem_cons.2 ⟨rowZ11, List.forall_mem_cons.2 ⟨rowZ12, List.forall_mem_cons.2 ⟨rowZ13, List.forall_mem_cons.2 ⟨rowZ14, List.forall_mem_cons.2 ⟨rowZ15, List.forall_mem_cons.2 ⟨rowZ16, fun _ h => nomatch h⟩⟩⟩⟩⟩⟩⟩⟩⟩⟩⟩⟩⟩⟩⟩⟩
inductive TabI (P k n : Nat) : List V → Rho → Hp → Prop
  | mk {r : List V} (hr : ∀ it ∈ r, rowOk it) (x0 x2 x3 x4 x5 x6 x7 x8 x9 x10 x11 : Option V) (H : Hp) (pen : Pen H P k n) (hn : n ≤ H.length) : TabI P k n r [x0, some (.ref P), x2, x3, x4, x5, x6, x7, x8, x9, x10, x11] H
theorem law1_ok {H : Hp} {P k n : Nat} {N : KN} {R : KV} {x0 x2 x3 x4 x5 x6 x7 x8 x9 x10 x11 : Option V} (hp : Pen H P k n) (hn : n ≤ H.length) (kk : ∀ ρ H', TabI P k n [] ρ H' → N ρ H') : B_law1 [x0, some (.ref P), x2, x3, x4, x5, x6, x7, x8, x9, x10, x11] H N R := by
  refine ⟨for_go (match vTable with | .tup l => l | _ => []) (TabI P k n) ⟨tab_ok, _, _, _, _, _, _, _, _, _, _, _, _, hp, hn⟩ (fun _ _ _ _ => has_items) ?_ kk⟩
  intro v r ρ K G go h
  obtain ⟨hr, y0, y2, y3, y4, y5, y6, y7, y8, y9, y10, y11, _, pK, hnK⟩ := h
  obtain ⟨tx, u, s, due, rfl, hb⟩ := hr _ (.head _)
  exact hb _ _ _ _ _ _ _ _ _ _ _ fun H' X => go _ _ ⟨fun it m => hr it (.tail _ m), _, _, _, _, _, _, _, _, _, _, _, _, pK.lx X (fun _ q => nomatch q), Nat.le_trans hnK X.len⟩
theorem first_ok {u : List Int} {ρ : Rho} {K : KV} (h : u.length ≤ 63) (kk : ∀ i H, Pen H i 0 (i + 1) → i + 1 ≤ H.length → K (.ref i) H) : lawFirst (u.map V.int) ρ [] K := by
  have hl : (u.map V.int).length ≤ lenMax := by rw [List.length_map]; exact Nat.le_trans h (by decide)
  refine new_at' fun a H1 g1 X1 l1 => at_list g1 ⟨hl, new_at' fun b H2 g2 X2 l2 => new_at' fun c H3 g3 X3 l3 => at_list g3 ⟨u, ints_map u, by decide, new_at' fun r H4 g4 X4 l4 => ?_⟩⟩
  have g2' := X4.at0 (X3.at0 g2)
  have lb := get_lt (X3.at0 g2)
  exact kk r H4 ⟨b, u, _, _, _, g4, g2', by exact (fun q => (ax5ab807 l4 lb q)), by decide, by decide, Int.fmod_nonneg_of_pos _ (by decide), Int.fmod_lt_of_pos _ (by decide), h, by exact ax46a11a, by exact ax9c3b80 l4 lb⟩ (get_lt g4)
theorem pure_law (ns : List Int) (h : ns.length ≤ 63) : PureLaw ns := by
  refine first_ok (by rw [List.length_take]; omega) fun i H hp hn => law1_ok hp hn fun ρ H' q => ?_
  obtain ⟨hr, y0, y2, y3, y4, y5, y6, y7, y8, y9, y10, y11, _, pK, hnK⟩ := q
  exact law2_ok pK (by decide) hnK fun _ => rfl
open PySem PySem.W PySem.Calls PyProof.Rows
theorem all_idx {α : Type} {l : List α} {f : α → Bool} (h : l.all f = true) (i : Nat) (p : α) (e : l[i]? = some p) : f p = true := List.all_eq_true.mp h p (List.mem_of_getElem? e)
theorem ptw {α β : Type} {l : List α} {f g : α → β} (h : l.map f = l.map g) : ∀ p ∈ l, f p = g p := List.map_inj_left.1 h
theorem arr_inj {l l' : List Nat} (h : (⟨l.toArray⟩ : Str) = ⟨l'.toArray⟩) : l = l' := congrArg (fun s : Str => s.cps.toList) h
theorem anT_at (i : Nat) : ∃ l, anT i = ⟨l.toArray⟩ ∧ (anTab[i]? = some l ∨ l = [2000000 + i] ∧ anTab[i]? = none) := by
  unfold anT
  cases anTab[i]? with
  | none => exact ⟨_, rfl, .inr ⟨rfl, rfl⟩⟩
  | some l => exact ⟨l, rfl, .inl rfl⟩
theorem anT_inj : ∀ i j, anT i = anT j → i = j := fun i j h => by
  have nd : anTab.Nodup := by decide +kernel
  have lt : ∀ l ∈ anTab, ∀ k, l ≠ [2000000 + k] := fun l hl k e => by
    have : ∀ l ∈ anTab, ∀ c ∈ l, c < 2000000 := by decide +kernel
    exact absurd (this l hl (2000000 + k) (e ▸ .head _)) (Nat.not_lt.2 (Nat.le_add_right _ _))
  obtain ⟨l, e, a⟩ := anT_at i
  obtain ⟨l', e', b⟩ := anT_at j
  obtain rfl := arr_inj (e.symm.trans (h.trans e'))
  rcases a with a | a <;> rcases b with b | b
  · exact (List.getElem_inj nd).mp ((List.getElem?_eq_some_iff.mp a).2.trans (List.getElem?_eq_some_iff.mp b).2.symm)
  · exact absurd b.1 (lt l (List.mem_of_getElem? a) j)
  · exact absurd a.1 (lt l (List.mem_of_getElem? b) i)
  · exact Nat.add_left_cancel (List.cons.inj (a.1.symm.trans b.1)).1
noncomputable def objOf (K : Frag) (f : Addr) : Obj := (List.lookup f K).getD ⟨.none, none, .plain, #[]⟩
theorem facts (K : Frag) (prog : Program) (w : World) (p : Program) (loose : List Str) (mean : ExcName → Option Value) (mg mb : Str → Option Value)
    (a1 : (fnTab.map fun x => K.lookup x.1) = fnTab.map fun x => some (objOf K x.1) := by kernel_rfl)
    (a2 : (fnTab.map fun x => (objOf K x.1).data) = fnTab.map fun x => .func (fnX (stName x.2.1) x.2.2 (stArgs x.2.1) (stBody x.2.1) (stScope x.2.1) [] (fdOf K x.1).defaults .none (fdOf K x.1).doc (fdOf K x.1).pyModule none (fdOf K x.1).code .none) := by kernel_rfl)
    (a3 : (fnTab.all fun x => codeIn K (fdOf K x.1).code x.2.2) = true := by kernel_rfl)
    (a4 : (fnTab.map fun x => (fdOf K x.1).defaults) = fnTab.map fun x => match (stArgs x.2.1).defaults with | [] => .none | _ => (fdOf K x.1).defaults := by kernel_rfl)
    (b1 : (globTab.all fun p => nsIn K mainGlobals p.1 == some (some p.2)) = true := by kernel_rfl)
    (b2 : (builtTab.all fun x => nsIn K mainGlobals x == some none) = true := by kernel_rfl)
    (b3 : (keepTab.all fun f => keepIn K (.ref f)) = true := by kernel_rfl)
    (c1 : makesIn K 113 = true := by kernel_rfl) (c2 : findIn K (.ref 113) "__init__" = some (some (.ref 98)) := by kernel_rfl) (c3 : isFn K (.ref 98) = true := by kernel_rfl)
    (d1 : makesIn K 141 = true := by kernel_rfl) (d2 : findIn K (.ref 141) "__init__" = some (some (.ref 131)) := by kernel_rfl) (d3 : isFn K (.ref 131) = true := by kernel_rfl)
    (e1 : makesIn K 298 = true := by kernel_rfl) (e2 : findIn K (.ref 298) "__init__" = some (some (.ref 190)) := by kernel_rfl) (e3 : isFn K (.ref 190) = true := by kernel_rfl)
    (f1 : makesIn K 411 = true := by kernel_rfl) (f2 : findIn K (.ref 411) "__init__" = some (some (.ref 387)) := by kernel_rfl) (f3 : isFn K (.ref 387) = true := by kernel_rfl)
    (g1 : (methTab.all fun x => plainGet K x.1 x.2.2 && ((findIn K (.ref x.1) x.2.2 == some (some (.ref x.2.1))) && (isFn K (.ref x.2.1) && keepIn K (.ref x.2.1)))) = true := by kernel_rfl)
    (g2 : (attrTab.all fun x => plainGet K x.1 (anT x.2) && ((findIn K (.ref x.1) (anT x.2) == some none) && hasDictIn K x.1)) = true := by kernel_rfl)
    (g3 : (attrTab.all fun x => (findIn K (.ref x.1) "__setattr__" == some (some (.builtin "object.__setattr__"))) && (plainOver K x.1 && ((takerIn K x.1 (anT x.2) == some none) && hasDictIn K x.1))) = true := by kernel_rfl)
    (g4 : (tabT.map fun x => K.lookup x.1) = tabT.map fun x => some (tupObj x.2.2) := by kernel_rfl)
    (h1 : ∀ S u, peek K S (bindArgs (fdOf K 36) ⟨[u], []⟩) = some [(("units" : Str), u), (("scale" : Str), .int 0 204)] := by intro _ _; kernel_rfl)
    (h2 : ∀ S u v, peek K S (bindArgs (fdOf K 36) ⟨[u, v], []⟩) = some [(("units" : Str), u), (("scale" : Str), v)] := by intro _ _ _; kernel_rfl)
    (h3 : ∀ S u v x, peek K S (bindArgs (fdOf K 433) ⟨[u, v, x], []⟩) = some [(("picture" : Str), u), (("number" : Str), v), (("is_blank_zero" : Str), x)] := by intro _ _ _ _; kernel_rfl)
    (h4 : ∀ S u v, peek K S (bindArgs (fdOf K 433) ⟨[u, v], []⟩) = some [(("picture" : Str), u), (("number" : Str), v), (("is_blank_zero" : Str), .bool false)] := by intro _ _ _; kernel_rfl) :
    Facts ⟨prog, w, K, p, loose, mean, mg, mb, anT, tabT⟩ where
  inj := anT_inj
  anEq := fun k l e => by show anT k = _; unfold anT; rw [e]
  fns := fun x hx => ⟨_, _, _, _, _, ptw a1 x hx, ptw a2 x hx, List.all_eq_true.1 a3 x hx, fun e => (ptw a4 x hx).trans (by rw [e])⟩
  gl := fun i p e => eq_of_beq (all_idx b1 i p e)
  bl := fun i x e => eq_of_beq (all_idx b2 i x e)
  keep := fun i f e => all_idx b3 i f e
  clsPicture := ⟨c1, c2, c3⟩
  clsSign := ⟨d1, d2, d3⟩
  clsOrder := ⟨e1, e2, e3⟩
  clsLayer := ⟨f1, f2, f3⟩
  meth := fun i C f m e => by
    have a := Bool.and_eq_true_iff.1 (all_idx g1 i _ e)
    have b := Bool.and_eq_true_iff.1 a.2
    have c := Bool.and_eq_true_iff.1 b.2
    exact ⟨a.1, eq_of_beq b.1, c.1, c.2⟩
  attr := fun i C k e => by
    have a := Bool.and_eq_true_iff.1 (all_idx g2 i _ e)
    have b := Bool.and_eq_true_iff.1 a.2
    exact ⟨a.1, ⟨none, eq_of_beq b.1, rfl⟩, b.2⟩
  seta := fun i C k e => by
    have a := Bool.and_eq_true_iff.1 (all_idx g3 i _ e)
    have b := Bool.and_eq_true_iff.1 a.2
    have c := Bool.and_eq_true_iff.1 b.2
    exact ⟨eq_of_beq a.1, b.1, eq_of_beq c.1, c.2⟩
  tabs := rfl
  tabK := ptw g4
  table := fun role h => .tup (h _ (.head _))
  dec := ⟨204, h1⟩
  dec2 := h2
  edi3 := h3
  edi := h4
end Mine
namespace Mine.holds
theorem tw10009309266167291388:True:=⟨⟩
theorem tw10061326939861387809:True:=⟨⟩
theorem tw10066566674380323332:True:=⟨⟩
theorem tw10071743356415266081:True:=⟨⟩
theorem tw10238092577321643331:True:=⟨⟩
theorem tw10240100896771907615:True:=⟨⟩
theorem tw10269081998898121243:True:=⟨⟩
theorem tw10274680400919065884:True:=⟨⟩
theorem tw10280545108713110612:True:=⟨⟩
theorem tw10292701021901942622:True:=⟨⟩
theorem tw1032644102275906610:True:=⟨⟩
theorem tw10447927361281507451:True:=⟨⟩
theorem tw10491065262344570346:True:=⟨⟩
theorem tw10494946348260405530:True:=⟨⟩
theorem tw10576265454180977796:True:=⟨⟩
theorem tw10587580826675096554:True:=⟨⟩
theorem tw10595842591828190984:True:=⟨⟩
theorem tw10634055019105834221:True:=⟨⟩
theorem tw10637851664137882224:True:=⟨⟩
theorem tw10645105620128953169:True:=⟨⟩
theorem tw10675174832548182787:True:=⟨⟩
theorem tw10679687220464918932:True:=⟨⟩
theorem tw10684964147190113176:True:=⟨⟩
theorem tw10705619171732726748:True:=⟨⟩
theorem tw10705761992013847755:True:=⟨⟩
theorem tw10726778698580467152:True:=⟨⟩
theorem tw10757429521193351584:True:=⟨⟩
theorem tw10760469143309519983:True:=⟨⟩
theorem tw10817008591213730988:True:=⟨⟩
theorem tw10824115321126796680:True:=⟨⟩
theorem tw10828986214106111531:True:=⟨⟩
theorem tw10833007002779762527:True:=⟨⟩
theorem tw10840139340582571922:True:=⟨⟩
theorem tw10843207457187830352:True:=⟨⟩
theorem tw10853043219271619230:True:=⟨⟩
theorem tw10859938921441162988:True:=⟨⟩
theorem tw10876536743886354276:True:=⟨⟩
theorem tw10894570999934473159:True:=⟨⟩
theorem tw1092734292537931370:True:=⟨⟩
theorem tw10953125311028157021:True:=⟨⟩
theorem tw1095465085569150570:True:=⟨⟩
theorem tw10981351503976158137:True:=⟨⟩
theorem tw11021402016762074336:True:=⟨⟩
theorem tw11037822914523747621:True:=⟨⟩
theorem tw11040456503202229835:True:=⟨⟩
theorem tw11111472982789046935:True:=⟨⟩
theorem tw1118671588950128205:True:=⟨⟩
theorem tw11223116819087169764:True:=⟨⟩
theorem tw11311999394344832113:True:=⟨⟩
theorem tw11319453509113102234:True:=⟨⟩
theorem tw11341941285841758863:True:=⟨⟩
theorem tw11379536335273661636:True:=⟨⟩
theorem tw11408340709373832527:True:=⟨⟩
theorem tw11413208387583891290:True:=⟨⟩
theorem tw11450275943994455990:True:=⟨⟩
theorem tw11502601298335438083:True:=⟨⟩
theorem tw11568272619759294016:True:=⟨⟩
theorem tw11569915684508697678:True:=⟨⟩
theorem tw11612728935029869629:True:=⟨⟩
theorem tw11619669790576578751:True:=⟨⟩
theorem tw11750193621415288269:True:=⟨⟩
theorem tw11818566221774970091:True:=⟨⟩
theorem tw11822188140940861840:True:=⟨⟩
theorem tw11866763835798034582:True:=⟨⟩
theorem tw11896979934692212325:True:=⟨⟩
theorem tw11899092608841805274:True:=⟨⟩
theorem tw11937027079205856637:True:=⟨⟩
theorem tw12004910477815969792:True:=⟨⟩
theorem tw12008902284401382014:True:=⟨⟩
theorem tw12056596633878991817:True:=⟨⟩
theorem tw12084871131945615253:True:=⟨⟩
theorem tw12091882185175152326:True:=⟨⟩
theorem tw12095597400677081514:True:=⟨⟩
theorem tw12098404996450287289:True:=⟨⟩
theorem tw12135579543755162760:True:=⟨⟩
theorem tw1213666046027356511:True:=⟨⟩
theorem tw12158838097934144204:True:=⟨⟩
theorem tw12160635655254385198:True:=⟨⟩
theorem tw12306811582311103309:True:=⟨⟩
theorem tw12354433232887552844:True:=⟨⟩
theorem tw12461706298059298081:True:=⟨⟩
theorem tw12467034654032377186:True:=⟨⟩
theorem tw12468101337765408714:True:=⟨⟩
theorem tw12528141070781557109:True:=⟨⟩
theorem tw12540800736699631050:True:=⟨⟩
theorem tw12542415522573167287:True:=⟨⟩
theorem tw12553914923479104506:True:=⟨⟩
theorem tw12563481999192008768:True:=⟨⟩
theorem tw12633084752571091873:True:=⟨⟩
theorem tw12657093848384798476:True:=⟨⟩
theorem tw12698916279152862973:True:=⟨⟩
theorem tw1272921112123746405:True:=⟨⟩
theorem tw12736823529576279204:True:=⟨⟩
theorem tw12762722769849151566:True:=⟨⟩
theorem tw12774209864397607762:True:=⟨⟩
theorem tw12788872388335264594:True:=⟨⟩
theorem tw12808162357026388105:True:=⟨⟩
theorem tw12870647732520690006:True:=⟨⟩
theorem tw12894555341316225627:True:=⟨⟩
theorem tw12929723366055764138:True:=⟨⟩
theorem tw12941468149822085856:True:=⟨⟩
theorem tw12947342387834907416:True:=⟨⟩
theorem tw13002855754428957212:True:=⟨⟩
theorem tw13108245259352980691:True:=⟨⟩
theorem tw1311399786705062619:True:=⟨⟩
theorem tw13130249910395747862:True:=⟨⟩
theorem tw13150661809386230508:True:=⟨⟩
theorem tw1316056555746827224:True:=⟨⟩
theorem tw13208604148985916543:True:=⟨⟩
theorem tw13219762378693318442:True:=⟨⟩
theorem tw13281364814482169325:True:=⟨⟩
theorem tw13306226422529918579:True:=⟨⟩
theorem tw13334661261001831826:True:=⟨⟩
theorem tw13341946137322399123:True:=⟨⟩
theorem tw13356387430892511905:True:=⟨⟩
theorem tw13370180491053348:True:=⟨⟩
theorem tw13416111870119765123:True:=⟨⟩
theorem tw13563289320671947111:True:=⟨⟩
theorem tw1357463484097335404:True:=⟨⟩
theorem tw13602253286356535353:True:=⟨⟩
theorem tw13676757877788619591:True:=⟨⟩
theorem tw13730950922589178952:True:=⟨⟩
theorem tw13758948915013449397:True:=⟨⟩
theorem tw1382383790286775375:True:=⟨⟩
theorem tw13860560629476652642:True:=⟨⟩
theorem tw1389151227800987198:True:=⟨⟩
theorem tw13899955331829678731:True:=⟨⟩
theorem tw13926404443759844560:True:=⟨⟩
theorem tw13942211991455542721:True:=⟨⟩
theorem tw13980644296350529377:True:=⟨⟩
theorem tw14027143162585244968:True:=⟨⟩
theorem tw14040500308302212198:True:=⟨⟩
theorem tw14054693376921006050:True:=⟨⟩
theorem tw14062913937729191461:True:=⟨⟩
theorem tw14064534554856164141:True:=⟨⟩
theorem tw14083834280242248106:True:=⟨⟩
theorem tw14083959995102712966:True:=⟨⟩
theorem tw14085268106739128817:True:=⟨⟩
theorem tw14149781006570564392:True:=⟨⟩
theorem tw14205006904943715905:True:=⟨⟩
theorem tw142377125942736700:True:=⟨⟩
theorem tw14247145606103189434:True:=⟨⟩
theorem tw14271935136423247726:True:=⟨⟩
theorem tw14309828098626049537:True:=⟨⟩
theorem tw14341210406198164329:True:=⟨⟩
theorem tw14374762386000251392:True:=⟨⟩
theorem tw14387954076880322906:True:=⟨⟩
theorem tw14394845925615563878:True:=⟨⟩
theorem tw14400433609042604536:True:=⟨⟩
theorem tw14404905868111484630:True:=⟨⟩
theorem tw14411328915609312922:True:=⟨⟩
theorem tw14432740918813763817:True:=⟨⟩
theorem tw14438757958421221462:True:=⟨⟩
theorem tw1446027475299390936:True:=⟨⟩
theorem tw14533596452844920548:True:=⟨⟩
theorem tw14607219995997415800:True:=⟨⟩
theorem tw14635519672683665818:True:=⟨⟩
theorem tw1466284255255076664:True:=⟨⟩
theorem tw14691085348537605332:True:=⟨⟩
theorem tw14747351113905286367:True:=⟨⟩
theorem tw14751579383510745608:True:=⟨⟩
theorem tw14777700561071354170:True:=⟨⟩
theorem tw1477864382951527211:True:=⟨⟩
theorem tw14781169843320478655:True:=⟨⟩
theorem tw14786066558164337950:True:=⟨⟩
theorem tw14786868411472786527:True:=⟨⟩
theorem tw14856189802965030758:True:=⟨⟩
theorem tw14947864908287233490:True:=⟨⟩
theorem tw14977296931134136204:True:=⟨⟩
theorem tw150268843892594924:True:=⟨⟩
theorem tw1508545211966159021:True:=⟨⟩
theorem tw15136828946037461428:True:=⟨⟩
theorem tw151567797773009622:True:=⟨⟩
theorem tw15203487316939043196:True:=⟨⟩
theorem tw15216533652830951187:True:=⟨⟩
theorem tw15228004617427520810:True:=⟨⟩
theorem tw15296638952792297585:True:=⟨⟩
theorem tw15305512045591798990:True:=⟨⟩
theorem tw15326264675407861456:True:=⟨⟩
theorem tw15349486494167490861:True:=⟨⟩
theorem tw15356600547250028879:True:=⟨⟩
theorem tw15383290158734973844:True:=⟨⟩
theorem tw15402825562841796884:True:=⟨⟩
theorem tw15421342739227911939:True:=⟨⟩
theorem tw15464432741802594518:True:=⟨⟩
theorem tw15477653585598255317:True:=⟨⟩
theorem tw154871700347349385:True:=⟨⟩
theorem tw15493915963290111440:True:=⟨⟩
theorem tw1552857426587298226:True:=⟨⟩
theorem tw15566814792845459997:True:=⟨⟩
theorem tw15573729904360925794:True:=⟨⟩
theorem tw15580662879708500073:True:=⟨⟩
theorem tw15659084048362614264:True:=⟨⟩
theorem tw15733542881966949079:True:=⟨⟩
theorem tw15750308709622187472:True:=⟨⟩
theorem tw15773771547523477324:True:=⟨⟩
theorem tw15785218014132313688:True:=⟨⟩
theorem tw15814798929938293467:True:=⟨⟩
theorem tw15815842588268232306:True:=⟨⟩
theorem tw15898015905275598053:True:=⟨⟩
theorem tw15919173128261314395:True:=⟨⟩
theorem tw15942494369296127945:True:=⟨⟩
theorem tw15969937429085165904:True:=⟨⟩
theorem tw16124510186991490168:True:=⟨⟩
theorem tw16139409775219458943:True:=⟨⟩
theorem tw16141144775947785660:True:=⟨⟩
theorem tw16179787414501680475:True:=⟨⟩
theorem tw1621136399060944247:True:=⟨⟩
theorem tw16239030619513480838:True:=⟨⟩
theorem tw16260029586006496120:True:=⟨⟩
theorem tw16281141667863336784:True:=⟨⟩
theorem tw16286308178466712102:True:=⟨⟩
theorem tw16307742377514257941:True:=⟨⟩
theorem tw16315053957116525436:True:=⟨⟩
theorem tw1639197193820686003:True:=⟨⟩
theorem tw16451975095625300501:True:=⟨⟩
theorem tw16461013251600362008:True:=⟨⟩
theorem tw16478504620199068264:True:=⟨⟩
theorem tw16497969686579978388:True:=⟨⟩
theorem tw16500857126356320474:True:=⟨⟩
theorem tw16532224993992427823:True:=⟨⟩
theorem tw16568243084613897719:True:=⟨⟩
theorem tw16671871382910913263:True:=⟨⟩
theorem tw16697607604324151607:True:=⟨⟩
theorem tw16725066886706607050:True:=⟨⟩
theorem tw16740147826971877517:True:=⟨⟩
theorem tw16796854770986717008:True:=⟨⟩
theorem tw16801115162389100519:True:=⟨⟩
theorem tw1686462557126633389:True:=⟨⟩
theorem tw16878984735049331645:True:=⟨⟩
theorem tw16887932952891968693:True:=⟨⟩
theorem tw16898140867199733807:True:=⟨⟩
theorem tw16939745714101447976:True:=⟨⟩
theorem tw16955119412671694080:True:=⟨⟩
theorem tw17040301576142915119:True:=⟨⟩
theorem tw17076291190057227869:True:=⟨⟩
theorem tw17094759248423572775:True:=⟨⟩
theorem tw17096001632197288867:True:=⟨⟩
theorem tw1714096750540956960:True:=⟨⟩
theorem tw17144610094948777349:True:=⟨⟩
theorem tw17148229171239856432:True:=⟨⟩
theorem tw17152927810415239316:True:=⟨⟩
theorem tw17254660705983429885:True:=⟨⟩
theorem tw17274456146704370614:True:=⟨⟩
theorem tw17294395744611713098:True:=⟨⟩
theorem tw17417429595627488627:True:=⟨⟩
theorem tw17450472940649059298:True:=⟨⟩
theorem tw17453241218497372113:True:=⟨⟩
theorem tw17476224472650253806:True:=⟨⟩
theorem tw17500814259130102135:True:=⟨⟩
theorem tw17510143785770761814:True:=⟨⟩
theorem tw17533166617710000329:True:=⟨⟩
theorem tw17549760099613038055:True:=⟨⟩
theorem tw17551835440721493442:True:=⟨⟩
theorem tw17629714610472425511:True:=⟨⟩
theorem tw17642598502550569490:True:=⟨⟩
theorem tw17647985033660283594:True:=⟨⟩
theorem tw17714467908841036005:True:=⟨⟩
theorem tw17765825090018352961:True:=⟨⟩
theorem tw17779192219718171531:True:=⟨⟩
theorem tw17822619038779606285:True:=⟨⟩
theorem tw17856180979147524769:True:=⟨⟩
theorem tw17858152450515298520:True:=⟨⟩
theorem tw17864507623514904661:True:=⟨⟩
theorem tw18020473825885896052:True:=⟨⟩
theorem tw18145382148040430673:True:=⟨⟩
theorem tw18173914834931495973:True:=⟨⟩
theorem tw18193256452927958525:True:=⟨⟩
theorem tw18202751451028033538:True:=⟨⟩
theorem tw18224010420261798391:True:=⟨⟩
theorem tw18232564904221570389:True:=⟨⟩
theorem tw1833173380454153921:True:=⟨⟩
theorem tw18348608232412713582:True:=⟨⟩
theorem tw185807328385624810:True:=⟨⟩
theorem tw1862627934934875730:True:=⟨⟩
theorem tw187104208977503339:True:=⟨⟩
theorem tw1876284267304334591:True:=⟨⟩
theorem tw1882270145967814011:True:=⟨⟩
theorem tw1954415657849012658:True:=⟨⟩
theorem tw1986877004247180340:True:=⟨⟩
theorem tw2003794701753356343:True:=⟨⟩
theorem tw2041457743892144894:True:=⟨⟩
theorem tw2084331650109322480:True:=⟨⟩
theorem tw2167384251425162797:True:=⟨⟩
theorem tw2180479604254433311:True:=⟨⟩
theorem tw2207817973478938216:True:=⟨⟩
theorem tw2277698456845511444:True:=⟨⟩
theorem tw2296293446034493066:True:=⟨⟩
theorem tw2370105137638165564:True:=⟨⟩
theorem tw2406459529592591507:True:=⟨⟩
theorem tw2422663375537807432:True:=⟨⟩
theorem tw244668840739839672:True:=⟨⟩
theorem tw2451063411067222376:True:=⟨⟩
theorem tw2511256036297951264:True:=⟨⟩
theorem tw2562329033357795767:True:=⟨⟩
theorem tw2585008018627690749:True:=⟨⟩
theorem tw2642592217982111355:True:=⟨⟩
theorem tw2661161477798328453:True:=⟨⟩
theorem tw2667925813562934949:True:=⟨⟩
theorem tw2720468260678641542:True:=⟨⟩
theorem tw285112238697140021:True:=⟨⟩
theorem tw2936799095737714382:True:=⟨⟩
theorem tw2946744036017948005:True:=⟨⟩
theorem tw2963349702327202441:True:=⟨⟩
theorem tw2972900019843275892:True:=⟨⟩
theorem tw2976685253332725484:True:=⟨⟩
theorem tw2980642449514264586:True:=⟨⟩
theorem tw303617358959260456:True:=⟨⟩
theorem tw3081346186701454755:True:=⟨⟩
theorem tw3083665863380995925:True:=⟨⟩
theorem tw3092724735428445279:True:=⟨⟩
theorem tw3093010850272755244:True:=⟨⟩
theorem tw3101148707280403237:True:=⟨⟩
theorem tw3210078786618844196:True:=⟨⟩
theorem tw3232270311777372273:True:=⟨⟩
theorem tw3256209041318659551:True:=⟨⟩
theorem tw3339025504875072537:True:=⟨⟩
theorem tw3378624336152846145:True:=⟨⟩
theorem tw341249449185904685:True:=⟨⟩
theorem tw341968507829977505:True:=⟨⟩
theorem tw3529921767576855348:True:=⟨⟩
theorem tw3579776383272448420:True:=⟨⟩
theorem tw3589964763223657672:True:=⟨⟩
theorem tw3626213265524300766:True:=⟨⟩
theorem tw3804885277057991369:True:=⟨⟩
theorem tw3811385743445658432:True:=⟨⟩
theorem tw3864012138097595758:True:=⟨⟩
theorem tw3906943341852370832:True:=⟨⟩
theorem tw3930379177928381544:True:=⟨⟩
theorem tw3969078344035082030:True:=⟨⟩
theorem tw4046193847619289583:True:=⟨⟩
theorem tw4065146272016792997:True:=⟨⟩
theorem tw4079574721724423606:True:=⟨⟩
theorem tw4132201380793018340:True:=⟨⟩
theorem tw4137054072099604216:True:=⟨⟩
theorem tw4197124852483764760:True:=⟨⟩
theorem tw4252685499439207924:True:=⟨⟩
theorem tw4286360187039589740:True:=⟨⟩
theorem tw4302478151189881795:True:=⟨⟩
theorem tw4320952357017371039:True:=⟨⟩
theorem tw4374827463496512255:True:=⟨⟩
theorem tw4381757428849502282:True:=⟨⟩
theorem tw4397353207691548035:True:=⟨⟩
theorem tw4399152324972305773:True:=⟨⟩
theorem tw4408763645494598628:True:=⟨⟩
theorem tw4422276619278600727:True:=⟨⟩
theorem tw4432577473406786859:True:=⟨⟩
theorem tw4475622257904601326:True:=⟨⟩
theorem tw4480811336153992742:True:=⟨⟩
theorem tw4485590747672999114:True:=⟨⟩
theorem tw4496467784121089108:True:=⟨⟩
theorem tw4500180452004054980:True:=⟨⟩
theorem tw4529002996912422141:True:=⟨⟩
theorem tw4532548537324856634:True:=⟨⟩
theorem tw4636335402390110268:True:=⟨⟩
theorem tw4659233104850659043:True:=⟨⟩
theorem tw4695128735345963622:True:=⟨⟩
theorem tw4702539438339769474:True:=⟨⟩
theorem tw4753448620645791293:True:=⟨⟩
theorem tw4772410448533662562:True:=⟨⟩
theorem tw4796666493748621973:True:=⟨⟩
theorem tw4837283352154931363:True:=⟨⟩
theorem tw4876135695594978501:True:=⟨⟩
theorem tw4921510776622977656:True:=⟨⟩
theorem tw4949047195023096438:True:=⟨⟩
theorem tw4998001990490953706:True:=⟨⟩
theorem tw5015485144833937494:True:=⟨⟩
theorem tw5016061194280584464:True:=⟨⟩
theorem tw5031978486770369989:True:=⟨⟩
theorem tw5078402968320093544:True:=⟨⟩
theorem tw5082999880386992228:True:=⟨⟩
theorem tw5099458221760260784:True:=⟨⟩
theorem tw5112738896828158680:True:=⟨⟩
theorem tw5225467491883748592:True:=⟨⟩
theorem tw5274829272982666545:True:=⟨⟩
theorem tw5282283922864298156:True:=⟨⟩
theorem tw5295917329084666069:True:=⟨⟩
theorem tw5323918697378788693:True:=⟨⟩
theorem tw5350216910946226995:True:=⟨⟩
theorem tw5471403574791894133:True:=⟨⟩
theorem tw5498966250228494579:True:=⟨⟩
theorem tw5531990279233569197:True:=⟨⟩
theorem tw5565848844497943877:True:=⟨⟩
theorem tw5583946556138506119:True:=⟨⟩
theorem tw5588498093969417903:True:=⟨⟩
theorem tw5599412692616142259:True:=⟨⟩
theorem tw5619803957841784048:True:=⟨⟩
theorem tw5635654813233479639:True:=⟨⟩
theorem tw5747684920607356772:True:=⟨⟩
theorem tw576298715544257586:True:=⟨⟩
theorem tw5763553328388235881:True:=⟨⟩
theorem tw5768289875352899849:True:=⟨⟩
theorem tw5791938023122869331:True:=⟨⟩
theorem tw5857794014393010482:True:=⟨⟩
theorem tw5857869478962280401:True:=⟨⟩
theorem tw5878047611234877577:True:=⟨⟩
theorem tw5898628582698610718:True:=⟨⟩
theorem tw5915465848944024539:True:=⟨⟩
theorem tw5923573193019433623:True:=⟨⟩
theorem tw5932082505621288647:True:=⟨⟩
theorem tw5948040445239067262:True:=⟨⟩
theorem tw5959074840488112208:True:=⟨⟩
theorem tw5981487413272766262:True:=⟨⟩
theorem tw5990180441110522300:True:=⟨⟩
theorem tw6027180799015181879:True:=⟨⟩
theorem tw6072511530176384962:True:=⟨⟩
theorem tw6118206324766035986:True:=⟨⟩
theorem tw6159885450047824267:True:=⟨⟩
theorem tw6166532556598395850:True:=⟨⟩
theorem tw6216033271563703469:True:=⟨⟩
theorem tw6278366128872770721:True:=⟨⟩
theorem tw63030109126827207:True:=⟨⟩
theorem tw6305404595935261976:True:=⟨⟩
theorem tw6307330118970589470:True:=⟨⟩
theorem tw6323047411617294506:True:=⟨⟩
theorem tw6357344898813262543:True:=⟨⟩
theorem tw6396523623945614605:True:=⟨⟩
theorem tw6424660084863691381:True:=⟨⟩
theorem tw6438346840338592915:True:=⟨⟩
theorem tw6460966521098074893:True:=⟨⟩
theorem tw6489310206099298910:True:=⟨⟩
theorem tw6606875086121380550:True:=⟨⟩
theorem tw6654929391614583909:True:=⟨⟩
theorem tw6674158366018852832:True:=⟨⟩
theorem tw6735552807121987811:True:=⟨⟩
theorem tw6816380694822836728:True:=⟨⟩
theorem tw6817751937963910627:True:=⟨⟩
theorem tw685634667276709000:True:=⟨⟩
theorem tw6871585250140865760:True:=⟨⟩
theorem tw6896159741398044905:True:=⟨⟩
theorem tw7033360832409044607:True:=⟨⟩
theorem tw7058599786907716777:True:=⟨⟩
theorem tw7074641181814816541:True:=⟨⟩
theorem tw707885073954110949:True:=⟨⟩
theorem tw7122917452565745793:True:=⟨⟩
theorem tw7129523546110730894:True:=⟨⟩
theorem tw7145057240379410032:True:=⟨⟩
theorem tw7154447938429058438:True:=⟨⟩
theorem tw7235909688915465346:True:=⟨⟩
theorem tw7236078064509089410:True:=⟨⟩
theorem tw7258431392514884226:True:=⟨⟩
theorem tw7350330377624401328:True:=⟨⟩
theorem tw7366336091430424897:True:=⟨⟩
theorem tw7399101569421298396:True:=⟨⟩
theorem tw7405762614669717487:True:=⟨⟩
theorem tw7442186320969616419:True:=⟨⟩
theorem tw7459122314025714673:True:=⟨⟩
theorem tw746027875243172801:True:=⟨⟩
theorem tw7548614866355832645:True:=⟨⟩
theorem tw7580357766596436714:True:=⟨⟩
theorem tw759334954848157859:True:=⟨⟩
theorem tw7712786205837837931:True:=⟨⟩
theorem tw7753079526450916859:True:=⟨⟩
theorem tw7791430327242384495:True:=⟨⟩
theorem tw7798976556582896058:True:=⟨⟩
theorem tw7840918076549728228:True:=⟨⟩
theorem tw7873036012977236159:True:=⟨⟩
theorem tw7877780744568003191:True:=⟨⟩
theorem tw7885888744534978006:True:=⟨⟩
theorem tw7923702915469573346:True:=⟨⟩
theorem tw7942442253511216057:True:=⟨⟩
theorem tw7944191787301449481:True:=⟨⟩
theorem tw7991519602905016326:True:=⟨⟩
theorem tw8031050209782801234:True:=⟨⟩
theorem tw8035951141280138642:True:=⟨⟩
theorem tw8067858942452583622:True:=⟨⟩
theorem tw8070350036930755802:True:=⟨⟩
theorem tw8087799500789234286:True:=⟨⟩
theorem tw8102643725754146565:True:=⟨⟩
theorem tw8105830805119860317:True:=⟨⟩
theorem tw8115153917610635543:True:=⟨⟩
theorem tw8143335708233088440:True:=⟨⟩
theorem tw820627826665183454:True:=⟨⟩
theorem tw8218819101457601776:True:=⟨⟩
theorem tw8239031253751857358:True:=⟨⟩
theorem tw8253004272172430988:True:=⟨⟩
theorem tw8260078842695283502:True:=⟨⟩
theorem tw8277820557490507997:True:=⟨⟩
theorem tw8323465864499181419:True:=⟨⟩
theorem tw8324913547053779211:True:=⟨⟩
theorem tw8393340031374782525:True:=⟨⟩
theorem tw8451429660923938374:True:=⟨⟩
theorem tw8454650750101055009:True:=⟨⟩
theorem tw854715265852234644:True:=⟨⟩
theorem tw8551410553514715252:True:=⟨⟩
theorem tw8564859838321607590:True:=⟨⟩
theorem tw8575535491628544125:True:=⟨⟩
theorem tw8684541073956307770:True:=⟨⟩
theorem tw8778671856527934898:True:=⟨⟩
theorem tw8789113547377566482:True:=⟨⟩
theorem tw8801499457356032720:True:=⟨⟩
theorem tw8827755016177155863:True:=⟨⟩
theorem tw8844102623358338796:True:=⟨⟩
theorem tw8868445881999480663:True:=⟨⟩
theorem tw8903297777125119442:True:=⟨⟩
theorem tw8943767207682116370:True:=⟨⟩
theorem tw8944343764007091065:True:=⟨⟩
theorem tw9039863090174473464:True:=⟨⟩
theorem tw9107170298555381705:True:=⟨⟩
theorem tw9143120035062812437:True:=⟨⟩
theorem tw915018914566706432:True:=⟨⟩
theorem tw9157471666820141079:True:=⟨⟩
theorem tw9160814584890018001:True:=⟨⟩
theorem tw9188266559522036927:True:=⟨⟩
theorem tw9245723823536211039:True:=⟨⟩
theorem tw9250495785965993271:True:=⟨⟩
theorem tw9259533211598610082:True:=⟨⟩
theorem tw9260842090827677427:True:=⟨⟩
theorem tw9284948610034456067:True:=⟨⟩
theorem tw9309047703646887916:True:=⟨⟩
theorem tw9321796208036801940:True:=⟨⟩
theorem tw9327718836232418737:True:=⟨⟩
theorem tw9430090754398894584:True:=⟨⟩
theorem tw9441326970708011783:True:=⟨⟩
theorem tw945861476033566700:True:=⟨⟩
theorem tw9458989268892848673:True:=⟨⟩
theorem tw9486143321106344294:True:=⟨⟩
theorem tw949623864930693503:True:=⟨⟩
theorem tw9518972631687950247:True:=⟨⟩
theorem tw9523873602847724419:True:=⟨⟩
theorem tw96072713605637463:True:=⟨⟩
theorem tw9638990691586225099:True:=⟨⟩
theorem tw9647410926604887880:True:=⟨⟩
theorem tw967827866717022707:True:=⟨⟩
theorem tw9712817358965380444:True:=⟨⟩
theorem tw9732041140710341944:True:=⟨⟩
theorem tw9766128667603022514:True:=⟨⟩
theorem tw9784731065822230439:True:=⟨⟩
theorem tw9816476011544392670:True:=⟨⟩
theorem tw9855210162650666830:True:=⟨⟩
theorem tw9866653766423218390:True:=⟨⟩
theorem tw9930548314228155742:True:=⟨⟩
end Mine.holds
open PySem PySem.W PyProof.Rows
set_option Elab.async true in
theorem Mine.holds : PySem.Challenge.rw_pc0137_01.Holds := by
  w_on; o_law; k_head
  case hw => w_witness2
  k_go0
  rename Frag.In _ _ => KX
  rename Below callerA _ [] _ => K0
  rename Fr _ _ _ _ => F'
  rename IntsAre _ _ => hI
  rename Heap.IsList _ _ _ => hL
  rename ¬ ((63 : Nat) : Int) < _ => hlen
  rename Top _ _ _ _ _ _ => T'
  refine Mine.law_end (g := ⟨_, _, _, _, _, _, _, _, Mine.anT, Mine.tabT⟩) (Mine.facts _ _ _ _ _ _ _ _) K0 KX T' F' rfl hL hI (by omega) (Mine.pure_law _ (by omega)) ?_
  intro h' t' m' F''
  (try dsimp only)
  show GoodW _ _ _ _ _ (.ok (.ret (.bool true))) _
  refine goodW_bool F'' (by assumption) (raisesW_false ?_) ?_
  · wrow_none_raised
  · wrow_post
theorem PySem.Challenge.cw_pc0137_01_holds : PySem.Challenge.rw_pc0137_01.Holds := by
  exact Mine.holds
