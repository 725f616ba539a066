import PyProof.Rows.All
import Wide.All
import OpenK.AllK
import Wide.FinOn
import Lean
import PySem.Challenge.RW_oj0059_01
set_option Elab.async false
set_option maxRecDepth 100000
set_option linter.all false
set_option maxHeartbeats 4000000
namespace Mine
open PySem PySem.W PySem.Spec PySem.Calls PyProof.Rows
section
inductive NE where
 | v (i : Nat)
 | c (n : Nat)
 | a (x y : NE)
 | m (k : Nat) (x : NE)
inductive IE where
 | n (e : NE)
 | v (i : Nat)
 | c (z : Int)
 | a (x y : IE)
 | s (x y : IE)
 | g (x : IE)
 | m (k : Int) (x : IE)
inductive CS where
 | le (x y : NE)
 | lt (x y : NE)
 | eq (x y : NE)
 | qe (x y : NE)
 | nle (x y : NE)
 | nlt (x y : NE)
 | ile (x y : IE)
 | ilt (x y : IE)
 | ieq (x y : IE)
 | iqe (x y : IE)
 | inle (x y : IE)
 | inlt (x y : IE)
noncomputable def nth {α : Type} (d : α) : List α → Nat → α
 | [], _ => d
 | a :: _, 0 => a
 | _ :: l, i + 1 => nth d l i
noncomputable def NE.d (xs : List Nat) : NE → Nat
 | .v i => nth 0 xs i
 | .c n => n
 | .a x y => x.d xs + y.d xs
 | .m k x => k * x.d xs
noncomputable def IE.d (xs : List Nat) (ys : List Int) : IE → Int
 | .n e => (e.d xs : Nat)
 | .v i => nth 0 ys i
 | .c z => z
 | .a x y => x.d xs ys + y.d xs ys
 | .s x y => x.d xs ys - y.d xs ys
 | .g x => - x.d xs ys
 | .m k x => k * x.d xs ys
noncomputable def CS.d (xs : List Nat) (ys : List Int) : CS → Prop
 | .le x y => x.d xs ≤ y.d xs
 | .lt x y => x.d xs < y.d xs
 | .eq x y => x.d xs = y.d xs
 | .qe x y => x.d xs = y.d xs
 | .nle x y => ¬ x.d xs ≤ y.d xs
 | .nlt x y => ¬ x.d xs < y.d xs
 | .ile x y => x.d xs ys ≤ y.d xs ys
 | .ilt x y => x.d xs ys < y.d xs ys
 | .ieq x y => x.d xs ys = y.d xs ys
 | .iqe x y => x.d xs ys = y.d xs ys
 | .inle x y => ¬ x.d xs ys ≤ y.d xs ys
 | .inlt x y => ¬ x.d xs ys < y.d xs ys
structure LP where
 k : Int
 l : List Int
noncomputable def addL : List Int → List Int → List Int
 | [], ys => ys
 | xs, [] => xs
 | x :: xs, y :: ys => (x + y) :: addL xs ys
noncomputable def LP.add (p q : LP) : LP := ⟨p.k + q.k, addL p.l q.l⟩
noncomputable def LP.mul (z : Int) (p : LP) : LP := ⟨z * p.k, p.l.map (z * ·)⟩
noncomputable def unitL : Nat → List Int
 | 0 => [1]
 | i + 1 => 0 :: unitL i
noncomputable def NE.p : NE → LP
 | .v i => ⟨0, unitL (2 * i)⟩
 | .c n => ⟨n, []⟩
 | .a x y => x.p.add y.p
 | .m k x => x.p.mul k
noncomputable def IE.p : IE → LP
 | .n e => e.p
 | .v i => ⟨0, unitL (2 * i + 1)⟩
 | .c z => ⟨z, []⟩
 | .a x y => x.p.add y.p
 | .s x y => x.p.add (y.p.mul (-1))
 | .g x => x.p.mul (-1)
 | .m k x => x.p.mul k
noncomputable def diff (x y : LP) (z : Int) : LP := (y.add (x.mul (-1))).add ⟨z, []⟩
noncomputable def CS.p : CS → LP
 | .le x y => diff x.p y.p 0
 | .lt x y => diff x.p y.p (-1)
 | .eq x y => diff x.p y.p 0
 | .qe x y => diff y.p x.p 0
 | .nle x y => diff y.p x.p (-1)
 | .nlt x y => diff y.p x.p 0
 | .ile x y => diff x.p y.p 0
 | .ilt x y => diff x.p y.p (-1)
 | .ieq x y => diff x.p y.p 0
 | .iqe x y => diff y.p x.p 0
 | .inle x y => diff y.p x.p (-1)
 | .inlt x y => diff y.p x.p 0
noncomputable def rho (xs : List Nat) (ys : List Int) (i : Nat) : Int := if i % 2 = 0 then (nth 0 xs (i / 2) : Nat) else nth 0 ys (i / 2)
noncomputable def evL (f : Nat → Int) : Nat → List Int → Int
 | _, [] => 0
 | i, z :: l => z * f i + evL f (i + 1) l
noncomputable def LP.e (f : Nat → Int) (p : LP) : Int := p.k + evL f 0 p.l
theorem evL_add (f : Nat → Int) : ∀ (i : Nat) (a b : List Int), evL f i (addL a b) = evL f i a + evL f i b
 | i, [], b => by simp [addL, evL]
 | i, a :: as, [] => by simp [addL, evL]
 | i, a :: as, b :: bs => by
  show (a + b) * f i + evL f (i + 1) (addL as bs) = (a * f i + evL f (i + 1) as) + (b * f i + evL f (i + 1) bs)
  rw [evL_add f (i + 1) as bs, Int.add_mul]; omega
theorem evL_mul (f : Nat → Int) (z : Int) : ∀ (i : Nat) (a : List Int), evL f i (a.map (z * ·)) = z * evL f i a
 | i, [] => by simp [evL]
 | i, a :: as => by
  show z * a * f i + evL f (i + 1) (as.map (z * ·)) = z * (a * f i + evL f (i + 1) as)
  rw [evL_mul f z (i + 1) as, Int.mul_add, Int.mul_assoc]
theorem evL_unit (f : Nat → Int) : ∀ (j i : Nat), evL f i (unitL j) = f (i + j)
 | 0, i => by simp [unitL, evL]
 | j + 1, i => by
  show 0 * f i + evL f (i + 1) (unitL j) = _
  rw [evL_unit f j (i + 1), Int.zero_mul, Int.zero_add, Nat.add_right_comm]; rfl
theorem LP.e_add (f : Nat → Int) (p q : LP) : (p.add q).e f = p.e f + q.e f := by
 show p.k + q.k + evL f 0 (addL p.l q.l) = (p.k + evL f 0 p.l) + (q.k + evL f 0 q.l)
 rw [evL_add]; omega
theorem LP.e_mul (f : Nat → Int) (z : Int) (p : LP) : (p.mul z).e f = z * p.e f := by
 show z * p.k + evL f 0 (p.l.map (z * ·)) = z * (p.k + evL f 0 p.l)
 rw [evL_mul, Int.mul_add]
theorem diff_e (f : Nat → Int) (x y : LP) (z : Int) : (diff x y z).e f = y.e f - x.e f + z := by
 unfold diff
 rw [LP.e_add, LP.e_add, LP.e_mul]
 show _ + (z + 0) = _
 omega
section
variable (xs : List Nat) (ys : List Int)
theorem NE.sound : ∀ x : NE, x.p.e (rho xs ys) = (x.d xs : Nat)
 | .v i => by
  show 0 + evL _ 0 (unitL (2 * i)) = _
  rw [evL_unit, Int.zero_add, Nat.zero_add]
  unfold rho
  rw [if_pos (by omega), show 2 * i / 2 = i by omega]; rfl
 | .c n => by show (n : Int) + 0 = _; rw [Int.add_zero]; rfl
 | .a x y => by
  show (x.p.add y.p).e _ = ((x.d xs + y.d xs : Nat) : Int)
  rw [LP.e_add, NE.sound x, NE.sound y, Int.natCast_add]
 | .m k x => by
  show (x.p.mul k).e _ = ((k * x.d xs : Nat) : Int)
  rw [LP.e_mul, NE.sound x, Int.natCast_mul]
theorem IE.sound : ∀ x : IE, x.p.e (rho xs ys) = x.d xs ys
 | .n e => NE.sound xs ys e
 | .v i => by
  show 0 + evL _ 0 (unitL (2 * i + 1)) = _
  rw [evL_unit, Int.zero_add, Nat.zero_add]
  unfold rho
  rw [if_neg (by omega), show (2 * i + 1) / 2 = i by omega]; rfl
 | .c z => Int.add_zero z
 | .a x y => by
  show (x.p.add y.p).e _ = x.d xs ys + y.d xs ys
  rw [LP.e_add, IE.sound x, IE.sound y]
 | .s x y => by
  show (x.p.add (y.p.mul (-1))).e _ = x.d xs ys - y.d xs ys
  rw [LP.e_add, LP.e_mul, IE.sound x, IE.sound y]; omega
 | .g x => by
  show (x.p.mul (-1)).e _ = - x.d xs ys
  rw [LP.e_mul, IE.sound x]; omega
 | .m k x => by
  show (x.p.mul k).e _ = k * x.d xs ys
  rw [LP.e_mul, IE.sound x]
theorem CS.sound (c : CS) (h : c.d xs ys) : 0 ≤ c.p.e (rho xs ys) := by
 cases c <;> unfold CS.p <;> rw [diff_e] <;> (try rw [NE.sound, NE.sound]) <;> (try rw [IE.sound, IE.sound]) <;> unfold CS.d at h <;> omega
end
noncomputable def combo : List CS → List Nat → LP
 | c :: cs, k :: ks => (c.p.mul k).add (combo cs ks)
 | _, _ => ⟨0, []⟩
noncomputable def nats : List Nat → List Int
 | [] => []
 | k :: ks => (k : Int) :: 0 :: nats ks
noncomputable def zeros (l : List Int) : Bool := l.all (· == 0)
noncomputable def check (cs : List CS) (ks ls : List Nat) : Bool :=
 let p := (combo cs ks).add ⟨0, nats ls⟩
 zeros p.l && p.k < 0
noncomputable def imp (xs : List Nat) (ys : List Int) : List CS → Prop → Prop
 | [], G => G
 | c :: cs, G => c.d xs ys → imp xs ys cs G
noncomputable def All (xs : List Nat) (ys : List Int) : List CS → Prop
 | [] => True
 | c :: cs => c.d xs ys ∧ All xs ys cs
theorem imp_of {xs : List Nat} {ys : List Int} : ∀ {cs : List CS} {G : Prop}, (All xs ys cs → G) → imp xs ys cs G
 | [], _, h => h trivial
 | _ :: _, _, h => fun a => imp_of fun b => h ⟨a, b⟩
theorem combo_nn {xs : List Nat} {ys : List Int} : ∀ {cs : List CS} (ks : List Nat), All xs ys cs → 0 ≤ (combo cs ks).e (rho xs ys)
 | [], _, _ => by unfold combo; exact Int.le_refl 0
 | _ :: _, [], _ => by unfold combo; exact Int.le_refl 0
 | c :: cs, k :: ks, h => by
  show 0 ≤ ((c.p.mul k).add (combo cs ks)).e _
  rw [LP.e_add, LP.e_mul]
  exact Int.add_nonneg (Int.mul_nonneg (Int.natCast_nonneg k) (c.sound xs ys h.1)) (combo_nn ks h.2)
theorem nats_nn {xs : List Nat} {ys : List Int} : ∀ (ls : List Nat) (i : Nat), 0 ≤ evL (rho xs ys) (2 * i) (nats ls)
 | [], _ => Int.le_refl 0
 | k :: ls, i => by
  show 0 ≤ k * rho xs ys (2 * i) + (0 * rho xs ys (2 * i + 1) + evL _ (2 * i + 1 + 1) (nats ls))
  rw [Int.zero_mul, Int.zero_add, show 2 * i + 1 + 1 = 2 * (i + 1) by omega]
  refine Int.add_nonneg (Int.mul_nonneg (Int.natCast_nonneg k) ?_) (nats_nn ls (i + 1))
  unfold rho
  rw [if_pos (by omega)]
  exact Int.natCast_nonneg _
theorem zeros_ev (f : Nat → Int) : ∀ (l : List Int) (i : Nat), zeros l = true → evL f i l = 0
 | [], _, _ => rfl
 | z :: l, i, h => by
  unfold zeros at h
  rw [List.all_cons, Bool.and_eq_true, beq_iff_eq] at h
  show z * f i + evL f (i + 1) l = 0
  rw [h.1, zeros_ev f l (i + 1) h.2, Int.zero_mul]; rfl
theorem fm_all {xs : List Nat} {ys : List Int} {cs : List CS} {ks ls : List Nat} (h : check cs ks ls = true) (a : All xs ys cs) : False := by
 unfold check at h
 rw [Bool.and_eq_true, decide_eq_true_eq] at h
 have e1 := combo_nn ks a
 have e2 : 0 ≤ LP.e (rho xs ys) ⟨0, nats ls⟩ := by
  have := nats_nn (xs := xs) (ys := ys) ls 0
  show 0 ≤ 0 + evL _ 0 (nats ls)
  rw [Int.zero_add]; exact this
 have e3 := LP.e_add (rho xs ys) (combo cs ks) ⟨0, nats ls⟩
 have e4 : ((combo cs ks).add ⟨0, nats ls⟩).e (rho xs ys) = ((combo cs ks).add ⟨0, nats ls⟩).k + 0 := by
  show _ + evL _ 0 _ = _
  rw [zeros_ev _ _ 0 h.1]
 omega
noncomputable def CS.neg : CS → CS
 | .le x y => .nle x y
 | .lt x y => .nlt x y
 | .nle x y => .le x y
 | .nlt x y => .lt x y
 | .ile x y => .inle x y
 | .ilt x y => .inlt x y
 | .inle x y => .ile x y
 | .inlt x y => .ilt x y
 | c => c
noncomputable def CS.isO : CS → Bool
 | .eq .. | .qe .. | .ieq .. | .iqe .. => false
 | _ => true
theorem fm (cs : List CS) (ks ls : List Nat) (h : check cs ks ls = true) (xs : List Nat) (ys : List Int) : imp xs ys cs False := imp_of (fm_all h)
theorem fg (g : CS) (cs : List CS) (ks ls : List Nat) (h : (g.isO && check (g.neg :: cs) ks ls) = true) (xs : List Nat) (ys : List Int) : imp xs ys cs (g.d xs ys) := imp_of fun a => by
 rw [Bool.and_eq_true] at h
 refine Classical.byContradiction fun q => fm_all h.2 ⟨?_, a⟩
 cases g <;> first | exact q | exact Classical.not_not.mp q | cases h.1
theorem fe (x y : NE) (cs : List CS) (ks ls ks' ls' : List Nat) (h : (check (.lt x y :: cs) ks ls && check (.lt y x :: cs) ks' ls') = true) (xs : List Nat) (ys : List Int) : imp xs ys cs (x.d xs = y.d xs) := imp_of fun a => by
 rw [Bool.and_eq_true] at h
 rcases Nat.lt_trichotomy (x.d xs) (y.d xs) with q | q | q
 ·exact (fm_all h.1 ⟨q, a⟩).elim
 ·exact q
 ·exact (fm_all h.2 ⟨q, a⟩).elim
theorem fi (x y : IE) (cs : List CS) (ks ls ks' ls' : List Nat) (h : (check (.ilt x y :: cs) ks ls && check (.ilt y x :: cs) ks' ls') = true) (xs : List Nat) (ys : List Int) : imp xs ys cs (x.d xs ys = y.d xs ys) := imp_of fun a => by
 rw [Bool.and_eq_true] at h
 rcases Int.lt_trichotomy (x.d xs ys) (y.d xs ys) with q | q | q
 ·exact (fm_all h.1 ⟨q, a⟩).elim
 ·exact q
 ·exact (fm_all h.2 ⟨q, a⟩).elim
theorem oi {α : Type} {o : Option α} {a b : α} (h : o = some a) (k : o = some b) : a = b := Option.some.inj (h.symm.trans k)
theorem li {α β : Type} {o : α ⊕ β} {a b : α} (h : o = .inl a) (k : o = .inl b) : a = b := Sum.inl.inj (h.symm.trans k)
theorem ri {α β : Type} {o : α ⊕ β} {a b : β} (h : o = .inr a) (k : o = .inr b) : a = b := Sum.inr.inj (h.symm.trans k)
theorem lr {α β : Type} {o : α ⊕ β} {a : α} {b : β} (h : o = .inl a) (k : o = .inr b) : False := nomatch h.symm.trans k
theorem no {α : Type} {o : Option α} {a : α} (h : o = some a) (k : o = none) : False := nomatch h.symm.trans k
theorem hide {G : Prop} (h : ∀ P : Prop, (G → P) → P) : G := h G id
theorem unh {G P : Prop} (h : G → P) (g : G) : P := h g
theorem tn1 {k n : Nat} (h : (k : Int) < n) : n - ((k : Int) + 1).toNat < n - (k : Int).toNat := Nat.sub_succ_lt_self _ _ (Int.ofNat_lt.mp h)
theorem tn11 {k n : Nat} (h : (k : Int) < n) : n - ((k : Int) + 1 + 1).toNat < n - (k : Int).toNat := Nat.lt_of_le_of_lt (Nat.sub_le_sub_left (Nat.le_succ (k + 1)) n) (tn1 h)
theorem tn2 {k n : Nat} (h : (k : Int) < n) : n - ((k : Int) + 2).toNat < n - (k : Int).toNat := tn11 h
theorem lts {k n : Nat} (h : (k : Int) < n) : (k : Int) < ((n + 1 : Nat) : Int) := Int.ofNat_lt.mpr (Nat.lt_succ_of_lt (Int.ofNat_lt.mp h))
theorem cpz {d : Nat} (h : ¬ (d : Int) - 1 < 0) : (d : Int) - 1 = ((d - 1 : Nat) : Int) := by
 cases d with
 | zero => exact absurd (by decide) h
 | succ n => exact Int.add_sub_cancel (n : Int) 1
theorem ksub {f k v j : Nat} (h : f ≤ k) : v + j + (k - f) = v + (k + j - f) := by rw [Nat.sub_add_comm h, Nat.add_assoc, Nat.add_comm j]
theorem tni {a : Int} {k n : Nat} (ha : a = k) (q : a < n) : n - (a + 1).toNat < n - a.toNat := by subst ha; exact tn1 q
theorem kls {a : Int} {k f : Nat} (ha : a = k) (q : (f : Int) < a) : f < k := Int.ofNat_lt.mp (ha ▸ q)
theorem kps {a : Int} {k f : Nat} (ha : a = k) (q : (f : Int) < a) : 0 < k := Nat.lt_of_le_of_lt (Nat.zero_le f) (kls ha q)
theorem cps {a : Int} {k f : Nat} (ha : a = k) (q : (f : Int) < a) : a - 1 = ((k - 1 : Nat) : Int) := by subst ha; exact (Int.ofNat_sub (kps rfl q)).symm
theorem tnd {a : Int} {k f : Nat} (ha : a = k) (q : (f : Int) < a) : (a - 1).toNat < a.toNat := by rw [cps ha q]; subst ha; exact Nat.sub_lt (kps rfl q) Nat.one_pos
theorem mxm (a n : Nat) : max 0 (min (a : Int) n) = ((min a n : Nat) : Int) := by
 rcases Nat.le_total a n with h | h
 ·rw [Nat.min_eq_left h, Int.min_eq_left (Int.ofNat_le.mpr h)]; exact Int.max_eq_right (Int.natCast_nonneg _)
 ·rw [Nat.min_eq_right h, Int.min_eq_right (Int.ofNat_le.mpr h)]; exact Int.max_eq_right (Int.natCast_nonneg _)
theorem ev2 {n k m : Nat} (h : n % 2 = 0) (e : n / 2 - k = m + 1) : 2 * (k + 1) ≤ n := Nat.le_trans (Nat.mul_le_mul_left 2 (Nat.lt_of_sub_eq_succ e)) (Nat.mul_div_le n 2)
theorem ev4 {n k : Nat} (h : n % 2 = 0) (e : n / 2 - k = 0) : n ≤ 2 * k := Nat.le_trans (Nat.le_of_eq (Nat.mul_div_cancel' (Nat.dvd_of_mod_eq_zero h)).symm) (Nat.mul_le_mul_left 2 (Nat.le_of_sub_eq_zero e))
theorem nle63 {n : Nat} (h : n ≤ 1000000) : (n : Int) < 2 ^ 63 := Int.lt_of_le_of_lt (Int.ofNat_le.mpr h) (by decide)
theorem nlt63 {j n : Nat} (h : j < n) (l : n ≤ 1000000) : (j : Int) < 2 ^ 63 := nle63 (Nat.le_trans (Nat.le_of_lt h) l)
theorem ixl {i : Int} {n : Nat} (h : 0 ≤ i) (l : i.toNat < n) : i < n := by rw [← Int.toNat_of_nonneg h]; exact Int.ofNat_lt.mpr l
theorem ilt63 {i : Int} {n : Nat} (l : i.toNat < n) (h : n ≤ 1000000) : i < 2 ^ 63 := Int.lt_of_le_of_lt (Int.self_le_toNat i) (nlt63 l h)
theorem ixo {i : Int} {n : Nat} (h : 0 ≤ i) (l : i.toNat < n) : ((0 ≤ if i < 0 then i + n else i) ∧ (if i < 0 then i + (n : Int) else i) < n) ∧ (if i < 0 then i + (n : Int) else i).toNat = i.toNat := by
 rw [if_neg (Int.not_lt.mpr h)]; exact ⟨⟨h, ixl h l⟩, rfl⟩
theorem nab {i : Int} (h : -1000000000000 ≤ i ∧ i ≤ 1000000000000) : i.natAbs < 10 ^ 13 := by omega
theorem nne {c n : Int} (h : 5 ≤ c ∨ c ≤ -1) (d : ¬ (5 ≤ n ∨ n ≤ -1)) : c ≠ n := fun z => d (z ▸ h)
theorem oddm {n k : Nat} (h1 : n ≤ 40) (h2 : n = 2 * k) (h3 : 0 < k) : n - 1 ≤ 40 ∧ (n - 1) % 2 = 1 := by omega
theorem e3 {d : Int} (h : 0 ≤ d) (l : d < 3) : d = 0 ∨ d = 1 ∨ d = 2 := by
 obtain ⟨n, rfl⟩ := Int.eq_ofNat_of_zero_le h
 exact (by decide : ∀ n : Nat, n < 3 → ((n : Int) = 0 ∨ (n : Int) = 1 ∨ (n : Int) = 2)) n (Int.ofNat_lt.mp l)
theorem e5 {d : Int} (h : 0 ≤ d) (l : d < 5) : d = 0 ∨ d = 1 ∨ d = 2 ∨ d = 3 ∨ d = 4 := by
 obtain ⟨n, rfl⟩ := Int.eq_ofNat_of_zero_le h
 exact (by decide : ∀ n : Nat, n < 5 → ((n : Int) = 0 ∨ (n : Int) = 1 ∨ (n : Int) = 2 ∨ (n : Int) = 3 ∨ (n : Int) = 4)) n (Int.ofNat_lt.mp l)
theorem e7 {d : Int} (h : 0 ≤ d) (l : d < 7) : d = 0 ∨ d = 1 ∨ d = 2 ∨ d = 3 ∨ d = 4 ∨ d = 5 ∨ d = 6 := by
 obtain ⟨n, rfl⟩ := Int.eq_ofNat_of_zero_le h
 exact (by decide : ∀ n : Nat, n < 7 → ((n : Int) = 0 ∨ (n : Int) = 1 ∨ (n : Int) = 2 ∨ (n : Int) = 3 ∨ (n : Int) = 4 ∨ (n : Int) = 5 ∨ (n : Int) = 6)) n (Int.ofNat_lt.mp l)
theorem m1 {n : Nat} (h : 0 < n) : (-1 + (n : Int)).toNat = n - 1 := by
 cases n with
 | zero => cases h
 | succ n => show (-1 + ((n : Int) + 1)).toNat = n; rw [Int.add_comm, Int.add_neg_cancel_right]; rfl
theorem dr1 {a r n : Nat} (h : 1 ≤ r) (t : a + r < n) : a + 1 + (r - 1) < n := by rw [Nat.add_assoc, Nat.add_sub_cancel' h]; exact t
theorem dr8 {a r n : Nat} (h : 1 ≤ r) (t : a + 8 * r < n) : a + 3 + 8 * (r - 1) < n := Nat.lt_of_le_of_lt (by rw [Nat.add_assoc]; exact Nat.add_le_add_left (Nat.le_trans (Nat.add_le_add_right (by decide) _) (Nat.le_of_eq ((Nat.mul_add 8 1 (r - 1)).symm.trans (congrArg _ (Nat.add_sub_cancel' h))))) a) t
theorem o01 {A B : Prop} {Z : Prop} (h : A ∧ B) (k : A → B → Z) : Z := by
 obtain ⟨h0, h1⟩ := h; exact k h0 h1
theorem o02 {A B C : Prop} {Z : Prop} (h : A ∧ B ∧ C) (k : A → B → C → Z) : Z := by
 obtain ⟨h0, h1, h2⟩ := h; exact k h0 h1 h2
theorem o03 {A B C D : Prop} {Z : Prop} (h : A ∧ B ∧ C ∧ D) (k : A → B → C → D → Z) : Z := by
 obtain ⟨h0, h1, h2, h3⟩ := h; exact k h0 h1 h2 h3
theorem o04 {A B C D E : Prop} {Z : Prop} (h : A ∧ B ∧ C ∧ D ∧ E) (k : A → B → C → D → E → Z) : Z := by
 obtain ⟨h0, h1, h2, h3, h4⟩ := h; exact k h0 h1 h2 h3 h4
theorem o05 {A B C D E F : Prop} {Z : Prop} (h : A ∧ B ∧ C ∧ D ∧ E ∧ F) (k : A → B → C → D → E → F → Z) : Z := by
 obtain ⟨h0, h1, h2, h3, h4, h5⟩ := h; exact k h0 h1 h2 h3 h4 h5
theorem o06 {A B C D E F G : Prop} {Z : Prop} (h : A ∧ B ∧ C ∧ D ∧ E ∧ F ∧ G) (k : A → B → C → D → E → F → G → Z) : Z := by
 obtain ⟨h0, h1, h2, h3, h4, h5, h6⟩ := h; exact k h0 h1 h2 h3 h4 h5 h6
theorem o08 {A B C D E F G H I : Prop} {Z : Prop} (h : A ∧ B ∧ C ∧ D ∧ E ∧ F ∧ G ∧ H ∧ I) (k : A → B → C → D → E → F → G → H → I → Z) : Z := by
 obtain ⟨h0, h1, h2, h3, h4, h5, h6, h7, h8⟩ := h; exact k h0 h1 h2 h3 h4 h5 h6 h7 h8
theorem o09 {A B C D E F G H I J : Prop} {Z : Prop} (h : A ∧ B ∧ C ∧ D ∧ E ∧ F ∧ G ∧ H ∧ I ∧ J) (k : A → B → C → D → E → F → G → H → I → J → Z) : Z := by
 obtain ⟨h0, h1, h2, h3, h4, h5, h6, h7, h8, h9⟩ := h; exact k h0 h1 h2 h3 h4 h5 h6 h7 h8 h9
theorem o10 {α : Type} {A : α → Prop} {Z : Prop} (h : ∃ a, A a) (k : ∀ a, A a → Z) : Z := by
 obtain ⟨a, h0⟩ := h; exact k a h0
theorem o11 {α : Type} {A B : α → Prop} {Z : Prop} (h : ∃ a, A a ∧ B a) (k : ∀ a, A a → B a → Z) : Z := by
 obtain ⟨a, h0, h1⟩ := h; exact k a h0 h1
theorem o12 {α : Type} {A B C : α → Prop} {Z : Prop} (h : ∃ a, A a ∧ B a ∧ C a) (k : ∀ a, A a → B a → C a → Z) : Z := by
 obtain ⟨a, h0, h1, h2⟩ := h; exact k a h0 h1 h2
theorem o13 {α : Type} {A B C D : α → Prop} {Z : Prop} (h : ∃ a, A a ∧ B a ∧ C a ∧ D a) (k : ∀ a, A a → B a → C a → D a → Z) : Z := by
 obtain ⟨a, h0, h1, h2, h3⟩ := h; exact k a h0 h1 h2 h3
theorem o14 {α : Type} {A B C D E : α → Prop} {Z : Prop} (h : ∃ a, A a ∧ B a ∧ C a ∧ D a ∧ E a) (k : ∀ a, A a → B a → C a → D a → E a → Z) : Z := by
 obtain ⟨a, h0, h1, h2, h3, h4⟩ := h; exact k a h0 h1 h2 h3 h4
theorem o16 {α : Type} {A B C D E F G : α → Prop} {Z : Prop} (h : ∃ a, A a ∧ B a ∧ C a ∧ D a ∧ E a ∧ F a ∧ G a) (k : ∀ a, A a → B a → C a → D a → E a → F a → G a → Z) : Z := by
 obtain ⟨a, h0, h1, h2, h3, h4, h5, h6⟩ := h; exact k a h0 h1 h2 h3 h4 h5 h6
theorem o19 {α : Type} {A B C D E F G H I J : α → Prop} {Z : Prop} (h : ∃ a, A a ∧ B a ∧ C a ∧ D a ∧ E a ∧ F a ∧ G a ∧ H a ∧ I a ∧ J a) (k : ∀ a, A a → B a → C a → D a → E a → F a → G a → H a → I a → J a → Z) : Z := by
 obtain ⟨a, h0, h1, h2, h3, h4, h5, h6, h7, h8, h9⟩ := h; exact k a h0 h1 h2 h3 h4 h5 h6 h7 h8 h9
theorem o20 {α : Type} {β : Type} {A : α → β → Prop} {Z : Prop} (h : ∃ a b, A a b) (k : ∀ a b, A a b → Z) : Z := by
 obtain ⟨a, b, h0⟩ := h; exact k a b h0
theorem o21 {α : Type} {β : Type} {A B : α → β → Prop} {Z : Prop} (h : ∃ a b, A a b ∧ B a b) (k : ∀ a b, A a b → B a b → Z) : Z := by
 obtain ⟨a, b, h0, h1⟩ := h; exact k a b h0 h1
theorem o22 {α : Type} {β : Type} {A B C : α → β → Prop} {Z : Prop} (h : ∃ a b, A a b ∧ B a b ∧ C a b) (k : ∀ a b, A a b → B a b → C a b → Z) : Z := by
 obtain ⟨a, b, h0, h1, h2⟩ := h; exact k a b h0 h1 h2
theorem o23 {α : Type} {β : Type} {A B C D : α → β → Prop} {Z : Prop} (h : ∃ a b, A a b ∧ B a b ∧ C a b ∧ D a b) (k : ∀ a b, A a b → B a b → C a b → D a b → Z) : Z := by
 obtain ⟨a, b, h0, h1, h2, h3⟩ := h; exact k a b h0 h1 h2 h3
theorem o25 {α : Type} {β : Type} {A B C D E F : α → β → Prop} {Z : Prop} (h : ∃ a b, A a b ∧ B a b ∧ C a b ∧ D a b ∧ E a b ∧ F a b) (k : ∀ a b, A a b → B a b → C a b → D a b → E a b → F a b → Z) : Z := by
 obtain ⟨a, b, h0, h1, h2, h3, h4, h5⟩ := h; exact k a b h0 h1 h2 h3 h4 h5
theorem o30 {α : Type} {β : Type} {γ : Type} {A : α → β → γ → Prop} {Z : Prop} (h : ∃ a b c, A a b c) (k : ∀ a b c, A a b c → Z) : Z := by
 obtain ⟨a, b, c, h0⟩ := h; exact k a b c h0
theorem o31 {α : Type} {β : Type} {γ : Type} {A B : α → β → γ → Prop} {Z : Prop} (h : ∃ a b c, A a b c ∧ B a b c) (k : ∀ a b c, A a b c → B a b c → Z) : Z := by
 obtain ⟨a, b, c, h0, h1⟩ := h; exact k a b c h0 h1
theorem o32 {α : Type} {β : Type} {γ : Type} {A B C : α → β → γ → Prop} {Z : Prop} (h : ∃ a b c, A a b c ∧ B a b c ∧ C a b c) (k : ∀ a b c, A a b c → B a b c → C a b c → Z) : Z := by
 obtain ⟨a, b, c, h0, h1, h2⟩ := h; exact k a b c h0 h1 h2
theorem o33 {α : Type} {β : Type} {γ : Type} {A B C D : α → β → γ → Prop} {Z : Prop} (h : ∃ a b c, A a b c ∧ B a b c ∧ C a b c ∧ D a b c) (k : ∀ a b c, A a b c → B a b c → C a b c → D a b c → Z) : Z := by
 obtain ⟨a, b, c, h0, h1, h2, h3⟩ := h; exact k a b c h0 h1 h2 h3
theorem o34 {α : Type} {β : Type} {γ : Type} {A B C D E : α → β → γ → Prop} {Z : Prop} (h : ∃ a b c, A a b c ∧ B a b c ∧ C a b c ∧ D a b c ∧ E a b c) (k : ∀ a b c, A a b c → B a b c → C a b c → D a b c → E a b c → Z) : Z := by
 obtain ⟨a, b, c, h0, h1, h2, h3, h4⟩ := h; exact k a b c h0 h1 h2 h3 h4
theorem o35 {α : Type} {β : Type} {γ : Type} {A B C D E F : α → β → γ → Prop} {Z : Prop} (h : ∃ a b c, A a b c ∧ B a b c ∧ C a b c ∧ D a b c ∧ E a b c ∧ F a b c) (k : ∀ a b c, A a b c → B a b c → C a b c → D a b c → E a b c → F a b c → Z) : Z := by
 obtain ⟨a, b, c, h0, h1, h2, h3, h4, h5⟩ := h; exact k a b c h0 h1 h2 h3 h4 h5
theorem o36 {α : Type} {β : Type} {γ : Type} {A B C D E F G : α → β → γ → Prop} {Z : Prop} (h : ∃ a b c, A a b c ∧ B a b c ∧ C a b c ∧ D a b c ∧ E a b c ∧ F a b c ∧ G a b c) (k : ∀ a b c, A a b c → B a b c → C a b c → D a b c → E a b c → F a b c → G a b c → Z) : Z := by
 obtain ⟨a, b, c, h0, h1, h2, h3, h4, h5, h6⟩ := h; exact k a b c h0 h1 h2 h3 h4 h5 h6
theorem o41 {α : Type} {β : Type} {γ : Type} {δ : Type} {A B : α → β → γ → δ → Prop} {Z : Prop} (h : ∃ a b c d, A a b c d ∧ B a b c d) (k : ∀ a b c d, A a b c d → B a b c d → Z) : Z := by
 obtain ⟨a, b, c, d, h0, h1⟩ := h; exact k a b c d h0 h1
theorem o42 {α : Type} {β : Type} {γ : Type} {δ : Type} {A B C : α → β → γ → δ → Prop} {Z : Prop} (h : ∃ a b c d, A a b c d ∧ B a b c d ∧ C a b c d) (k : ∀ a b c d, A a b c d → B a b c d → C a b c d → Z) : Z := by
 obtain ⟨a, b, c, d, h0, h1, h2⟩ := h; exact k a b c d h0 h1 h2
theorem o44 {α : Type} {β : Type} {γ : Type} {δ : Type} {A B C D E : α → β → γ → δ → Prop} {Z : Prop} (h : ∃ a b c d, A a b c d ∧ B a b c d ∧ C a b c d ∧ D a b c d ∧ E a b c d) (k : ∀ a b c d, A a b c d → B a b c d → C a b c d → D a b c d → E a b c d → Z) : Z := by
 obtain ⟨a, b, c, d, h0, h1, h2, h3, h4⟩ := h; exact k a b c d h0 h1 h2 h3 h4
theorem o54 {α : Type} {β : Type} {γ : Type} {δ : Type} {ε : Type} {A B C D E : α → β → γ → δ → ε → Prop} {Z : Prop} (h : ∃ a b c d e, A a b c d e ∧ B a b c d e ∧ C a b c d e ∧ D a b c d e ∧ E a b c d e) (k : ∀ a b c d e, A a b c d e → B a b c d e → C a b c d e → D a b c d e → E a b c d e → Z) : Z := by
 obtain ⟨a, b, c, d, e, h0, h1, h2, h3, h4⟩ := h; exact k a b c d e h0 h1 h2 h3 h4
theorem i02 {A B C : Prop}  (h0 : A) (h1 : B) (h2 : C) : A ∧ B ∧ C := ⟨h0, h1, h2⟩
theorem i03 {A B C D : Prop}  (h0 : A) (h1 : B) (h2 : C) (h3 : D) : A ∧ B ∧ C ∧ D := ⟨h0, h1, h2, h3⟩
theorem i04 {A B C D E : Prop}  (h0 : A) (h1 : B) (h2 : C) (h3 : D) (h4 : E) : A ∧ B ∧ C ∧ D ∧ E := ⟨h0, h1, h2, h3, h4⟩
theorem i05 {A B C D E F : Prop}  (h0 : A) (h1 : B) (h2 : C) (h3 : D) (h4 : E) (h5 : F) : A ∧ B ∧ C ∧ D ∧ E ∧ F := ⟨h0, h1, h2, h3, h4, h5⟩
theorem i11 {α : Type} {A B : α → Prop} (a : α) (h0 : A a) (h1 : B a) : ∃ a, A a ∧ B a := ⟨a, h0, h1⟩
theorem i12 {α : Type} {A B C : α → Prop} (a : α) (h0 : A a) (h1 : B a) (h2 : C a) : ∃ a, A a ∧ B a ∧ C a := ⟨a, h0, h1, h2⟩
theorem i13 {α : Type} {A B C D : α → Prop} (a : α) (h0 : A a) (h1 : B a) (h2 : C a) (h3 : D a) : ∃ a, A a ∧ B a ∧ C a ∧ D a := ⟨a, h0, h1, h2, h3⟩
theorem i14 {α : Type} {A B C D E : α → Prop} (a : α) (h0 : A a) (h1 : B a) (h2 : C a) (h3 : D a) (h4 : E a) : ∃ a, A a ∧ B a ∧ C a ∧ D a ∧ E a := ⟨a, h0, h1, h2, h3, h4⟩
theorem i16 {α : Type} {A B C D E F G : α → Prop} (a : α) (h0 : A a) (h1 : B a) (h2 : C a) (h3 : D a) (h4 : E a) (h5 : F a) (h6 : G a) : ∃ a, A a ∧ B a ∧ C a ∧ D a ∧ E a ∧ F a ∧ G a := ⟨a, h0, h1, h2, h3, h4, h5, h6⟩
theorem i19 {α : Type} {A B C D E F G H I J : α → Prop} (a : α) (h0 : A a) (h1 : B a) (h2 : C a) (h3 : D a) (h4 : E a) (h5 : F a) (h6 : G a) (h7 : H a) (h8 : I a) (h9 : J a) : ∃ a, A a ∧ B a ∧ C a ∧ D a ∧ E a ∧ F a ∧ G a ∧ H a ∧ I a ∧ J a := ⟨a, h0, h1, h2, h3, h4, h5, h6, h7, h8, h9⟩
theorem i20 {α : Type} {β : Type} {A : α → β → Prop} (a : α) (b : β) (h0 : A a b) : ∃ a b, A a b := ⟨a, b, h0⟩
theorem i21 {α : Type} {β : Type} {A B : α → β → Prop} (a : α) (b : β) (h0 : A a b) (h1 : B a b) : ∃ a b, A a b ∧ B a b := ⟨a, b, h0, h1⟩
theorem i22 {α : Type} {β : Type} {A B C : α → β → Prop} (a : α) (b : β) (h0 : A a b) (h1 : B a b) (h2 : C a b) : ∃ a b, A a b ∧ B a b ∧ C a b := ⟨a, b, h0, h1, h2⟩
theorem i23 {α : Type} {β : Type} {A B C D : α → β → Prop} (a : α) (b : β) (h0 : A a b) (h1 : B a b) (h2 : C a b) (h3 : D a b) : ∃ a b, A a b ∧ B a b ∧ C a b ∧ D a b := ⟨a, b, h0, h1, h2, h3⟩
theorem i24 {α : Type} {β : Type} {A B C D E : α → β → Prop} (a : α) (b : β) (h0 : A a b) (h1 : B a b) (h2 : C a b) (h3 : D a b) (h4 : E a b) : ∃ a b, A a b ∧ B a b ∧ C a b ∧ D a b ∧ E a b := ⟨a, b, h0, h1, h2, h3, h4⟩
theorem i25 {α : Type} {β : Type} {A B C D E F : α → β → Prop} (a : α) (b : β) (h0 : A a b) (h1 : B a b) (h2 : C a b) (h3 : D a b) (h4 : E a b) (h5 : F a b) : ∃ a b, A a b ∧ B a b ∧ C a b ∧ D a b ∧ E a b ∧ F a b := ⟨a, b, h0, h1, h2, h3, h4, h5⟩
theorem i28 {α : Type} {β : Type} {A B C D E F G H I : α → β → Prop} (a : α) (b : β) (h0 : A a b) (h1 : B a b) (h2 : C a b) (h3 : D a b) (h4 : E a b) (h5 : F a b) (h6 : G a b) (h7 : H a b) (h8 : I a b) : ∃ a b, A a b ∧ B a b ∧ C a b ∧ D a b ∧ E a b ∧ F a b ∧ G a b ∧ H a b ∧ I a b := ⟨a, b, h0, h1, h2, h3, h4, h5, h6, h7, h8⟩
theorem i30 {α : Type} {β : Type} {γ : Type} {A : α → β → γ → Prop} (a : α) (b : β) (c : γ) (h0 : A a b c) : ∃ a b c, A a b c := ⟨a, b, c, h0⟩
theorem i31 {α : Type} {β : Type} {γ : Type} {A B : α → β → γ → Prop} (a : α) (b : β) (c : γ) (h0 : A a b c) (h1 : B a b c) : ∃ a b c, A a b c ∧ B a b c := ⟨a, b, c, h0, h1⟩
theorem i32 {α : Type} {β : Type} {γ : Type} {A B C : α → β → γ → Prop} (a : α) (b : β) (c : γ) (h0 : A a b c) (h1 : B a b c) (h2 : C a b c) : ∃ a b c, A a b c ∧ B a b c ∧ C a b c := ⟨a, b, c, h0, h1, h2⟩
theorem i33 {α : Type} {β : Type} {γ : Type} {A B C D : α → β → γ → Prop} (a : α) (b : β) (c : γ) (h0 : A a b c) (h1 : B a b c) (h2 : C a b c) (h3 : D a b c) : ∃ a b c, A a b c ∧ B a b c ∧ C a b c ∧ D a b c := ⟨a, b, c, h0, h1, h2, h3⟩
theorem i34 {α : Type} {β : Type} {γ : Type} {A B C D E : α → β → γ → Prop} (a : α) (b : β) (c : γ) (h0 : A a b c) (h1 : B a b c) (h2 : C a b c) (h3 : D a b c) (h4 : E a b c) : ∃ a b c, A a b c ∧ B a b c ∧ C a b c ∧ D a b c ∧ E a b c := ⟨a, b, c, h0, h1, h2, h3, h4⟩
theorem i36 {α : Type} {β : Type} {γ : Type} {A B C D E F G : α → β → γ → Prop} (a : α) (b : β) (c : γ) (h0 : A a b c) (h1 : B a b c) (h2 : C a b c) (h3 : D a b c) (h4 : E a b c) (h5 : F a b c) (h6 : G a b c) : ∃ a b c, A a b c ∧ B a b c ∧ C a b c ∧ D a b c ∧ E a b c ∧ F a b c ∧ G a b c := ⟨a, b, c, h0, h1, h2, h3, h4, h5, h6⟩
theorem i38 {α : Type} {β : Type} {γ : Type} {A B C D E F G H I : α → β → γ → Prop} (a : α) (b : β) (c : γ) (h0 : A a b c) (h1 : B a b c) (h2 : C a b c) (h3 : D a b c) (h4 : E a b c) (h5 : F a b c) (h6 : G a b c) (h7 : H a b c) (h8 : I a b c) : ∃ a b c, A a b c ∧ B a b c ∧ C a b c ∧ D a b c ∧ E a b c ∧ F a b c ∧ G a b c ∧ H a b c ∧ I a b c := ⟨a, b, c, h0, h1, h2, h3, h4, h5, h6, h7, h8⟩
theorem i41 {α : Type} {β : Type} {γ : Type} {δ : Type} {A B : α → β → γ → δ → Prop} (a : α) (b : β) (c : γ) (d : δ) (h0 : A a b c d) (h1 : B a b c d) : ∃ a b c d, A a b c d ∧ B a b c d := ⟨a, b, c, d, h0, h1⟩
theorem i44 {α : Type} {β : Type} {γ : Type} {δ : Type} {A B C D E : α → β → γ → δ → Prop} (a : α) (b : β) (c : γ) (d : δ) (h0 : A a b c d) (h1 : B a b c d) (h2 : C a b c d) (h3 : D a b c d) (h4 : E a b c d) : ∃ a b c d, A a b c d ∧ B a b c d ∧ C a b c d ∧ D a b c d ∧ E a b c d := ⟨a, b, c, d, h0, h1, h2, h3, h4⟩
theorem i52 {α : Type} {β : Type} {γ : Type} {δ : Type} {ε : Type} {A B C : α → β → γ → δ → ε → Prop} (a : α) (b : β) (c : γ) (d : δ) (e : ε) (h0 : A a b c d e) (h1 : B a b c d e) (h2 : C a b c d e) : ∃ a b c d e, A a b c d e ∧ B a b c d e ∧ C a b c d e := ⟨a, b, c, d, e, h0, h1, h2⟩
theorem i54 {α : Type} {β : Type} {γ : Type} {δ : Type} {ε : Type} {A B C D E : α → β → γ → δ → ε → Prop} (a : α) (b : β) (c : γ) (d : δ) (e : ε) (h0 : A a b c d e) (h1 : B a b c d e) (h2 : C a b c d e) (h3 : D a b c d e) (h4 : E a b c d e) : ∃ a b c d e, A a b c d e ∧ B a b c d e ∧ C a b c d e ∧ D a b c d e ∧ E a b c d e := ⟨a, b, c, d, e, h0, h1, h2, h3, h4⟩
theorem i56 {α : Type} {β : Type} {γ : Type} {δ : Type} {ε : Type} {A B C D E F G : α → β → γ → δ → ε → Prop} (a : α) (b : β) (c : γ) (d : δ) (e : ε) (h0 : A a b c d e) (h1 : B a b c d e) (h2 : C a b c d e) (h3 : D a b c d e) (h4 : E a b c d e) (h5 : F a b c d e) (h6 : G a b c d e) : ∃ a b c d e, A a b c d e ∧ B a b c d e ∧ C a b c d e ∧ D a b c d e ∧ E a b c d e ∧ F a b c d e ∧ G a b c d e := ⟨a, b, c, d, e, h0, h1, h2, h3, h4, h5, h6⟩
theorem i61 {α : Type} {β : Type} {γ : Type} {δ : Type} {ε : Type} {ζ : Type} {A B : α → β → γ → δ → ε → ζ → Prop} (a : α) (b : β) (c : γ) (d : δ) (e : ε) (f : ζ) (h0 : A a b c d e f) (h1 : B a b c d e f) : ∃ a b c d e f, A a b c d e f ∧ B a b c d e f := ⟨a, b, c, d, e, f, h0, h1⟩
theorem o24 {α : Type} {β : Type} {A B C D E : α → β → Prop} {Z : Prop} (h : ∃ a b, A a b ∧ B a b ∧ C a b ∧ D a b ∧ E a b) (k : ∀ a b, A a b → B a b → C a b → D a b → E a b → Z) : Z := by
 obtain ⟨a, b, h0, h1, h2, h3, h4⟩ := h; exact k a b h0 h1 h2 h3 h4
theorem o52 {α : Type} {β : Type} {γ : Type} {δ : Type} {ε : Type} {A B C : α → β → γ → δ → ε → Prop} {Z : Prop} (h : ∃ a b c d e, A a b c d e ∧ B a b c d e ∧ C a b c d e) (k : ∀ a b c d e, A a b c d e → B a b c d e → C a b c d e → Z) : Z := by
 obtain ⟨a, b, c, d, e, h0, h1, h2⟩ := h; exact k a b c d e h0 h1 h2
end
section
noncomputable abbrev pw : Program := PySem.Challenge.pw_oj0059_01
noncomputable abbrev rw : OpenLaw := PySem.Challenge.rw_oj0059_01
noncomputable def fdOf (i : Nat) : Arguments × List Stmt × Scope := match pw.main.body[i]? with
 | some (.FunctionDef _ a b _ _ _ sc _ _ _) => (a, b, sc)
 | _ => default
noncomputable def fdI : Arguments × List Stmt × Scope := match (pw.main.body[1]? : Option Stmt) with
 | some (Stmt.ClassDef _ _ _ (.FunctionDef _ a b _ _ _ sc _ _ _ :: _) _ _ _ _ _ _ _) => (a, b, sc)
 | _ => default
noncomputable abbrev en (P : Params) (k : Str) (t : Nat) (v : Value) : DictEntry := ⟨PyData.keyHash P k, .str k t, v⟩
noncomputable abbrev fnO (nm qual : Str) (f : Arguments × List Stmt × Scope) (dV pm cd : Value) : Obj := { cls := .type "function", data := .func (fnOf nm qual f.1 f.2.1 f.2.2 dV .none .none pm none cd .none) }
noncomputable def view : Program := { pw with main := { pw.main with body := pw.main.body.drop 56 } }
noncomputable def loose : List Str := [Str.ofString "Raised", Str.ofString "error", Str.ofString "is_blank", Str.ofString "digit", Str.ofString "digits_value", Str.ofString "base_of", Str.ofString "whole_of", Str.ofString "hex_sign", Str.ofString "octal_sign", Str.ofString "backslash", Str.ofString "check_behind", Str.ofString "braced_element", Str.ofString "quoted_element", Str.ofString "bare_element", Str.ofString "find_element", Str.ofString "split_list", Str.ofString "mode_of", Str.ofString "escaped", Str.ofString "quote", Str.ofString "join_list", Str.ofString "code_text", Str.ofString "info_of", Str.ofString "error_options", Str.ofString "options_text", Str.ofString "code_of", Str.ofString "list_or_none", Str.ofString "bad_option", Str.ofString "put_nested", Str.ofString "merged", Str.ofString "level_of", Str.ofString "extras_of", Str.ofString "end_raised", Str.ofString "_law_take", Str.ofString "_law_given", Str.ofString "_law_text", Str.ofString "_law_texts", Str.ofString "_law_number", Str.ofString "_law_errorcode", Str.ofString "_law_other", Str.ofString "_law_drawn", Str.ofString "_law_raised", Str.ofString "_law_last", Str.ofString "_law_flat", Str.ofString "_law_again", Str.ofString "_law_due", Str.ofString "_law_fields", Str.ofString "_law_refusal", Str.ofString "_law_bad", Str.ofString "_law_refused", Str.ofString "_law_is_right"]
noncomputable def KF (P : Params) : Frag := [
 (2, ⟨.none, none, .dict #[en P "type.__subclasses__.Exception.0" 229 (.int 33 0), en P "type.__subclasses__.Exception.n" 230 (.int 1 0)] 2, #[]⟩),
 (3, ⟨.type "dict", none, .dict #[en P "__name__" 165 (.str "law_oj0059_01" 548), en P "__doc__" 166 (.none), en P "__package__" 167 (.none), en P "__loader__" 168 (.builtin "__main__.__loader__#opaque"), en P "__spec__" 169 (.none), en P "__annotations__" 170 (.ref 6), en P "__builtins__" 171 (.ref 4), en P "__file__" 173 (.str "/claim/cut.py" 172), en P "__cached__" 174 (.none), en P "Raised" 232 (.ref 33), en P "error" 241 (.ref 45), en P "is_blank" 250 (.ref 52), en P "digit" 258 (.ref 59), en P "digits_value" 269 (.ref 66), en P "base_of" 276 (.ref 73), en P "whole_of" 288 (.ref 80), en P "hex_sign" 302 (.ref 87), en P "octal_sign" 313 (.ref 94), en P "backslash" 324 (.ref 101), en P "check_behind" 336 (.ref 108), en P "braced_element" 347 (.ref 115), en P "quoted_element" 357 (.ref 122), en P "bare_element" 367 (.ref 129), en P "find_element" 375 (.ref 136), en P "split_list" 384 (.ref 143), en P "mode_of" 400 (.ref 150), en P "escaped" 409 (.ref 157), en P "quote" 420 (.ref 165), en P "join_list" 429 (.ref 172), en P "code_text" 436 (.ref 179), en P "info_of" 445 (.ref 186), en P "error_options" 454 (.ref 193), en P "options_text" 466 (.ref 200), en P "code_of" 476 (.ref 207), en P "list_or_none" 483 (.ref 214), en P "bad_option" 494 (.ref 221), en P "put_nested" 505 (.ref 228), en P "merged" 515 (.ref 235), en P "level_of" 523 (.ref 242), en P "extras_of" 533 (.ref 249), en P "end_raised" 547 (.ref 256), en P "_law_take" 559 (.ref 263), en P "_law_given" 565 (.ref 270), en P "_law_text" 576 (.ref 277), en P "_law_texts" 582 (.ref 282), en P "_law_number" 590 (.ref 289), en P "_law_errorcode" 600 (.ref 296), en P "_law_other" 610 (.ref 303), en P "_law_drawn" 616 (.ref 308), en P "_law_raised" 632 (.ref 315), en P "_law_last" 638 (.ref 320), en P "_law_flat" 655 (.ref 327), en P "_law_again" 669 (.ref 334), en P "_law_due" 675 (.ref 339), en P "_law_fields" 682 (.ref 346), en P "_law_refusal" 690 (.ref 353), en P "_law_bad" 700 (.ref 360), en P "_law_refused" 715 (.ref 367), en P "_law_is_right" 721 (.ref 372), en P "law" 730 (.ref 379)] 60, #[]⟩),
 (22, { cls := .type "tuple", data := .seq #[.str "NONE" 201] }),
 (23, { cls := .type "tuple", data := .seq #[.ref 22, .int 0 202, .int 0 203] }),
 (29, { cls := .type "code", data := .fields #[.str "__init__" 204, .str "Raised.__init__" 205, .str "/claim/cut.py" 206, .int 4 0, .int 6 0, .int 0 0, .int 0 0, .int 3 0, .ref 24, .bool true, .int 181 0, .ref 25, .none, .ref 26, .ref 27, .ref 28, .int 213 0, .int 4 0, .str "/claim/cut.py" 214] }),
 (30, fnO "__init__" "Raised.__init__" fdI (.ref 23) (.str "tclcore.faults" 187) (.ref 29)),
 (32, ⟨.type "dict", none, .dict #[en P "__module__" 196 (.str "tclcore.faults" 187), en P "__firstlineno__" 200 (.int 2 199), en P "__init__" 215 (.ref 30), en P "__static_attributes__" 225 (.ref 31), en P "__weakref__" 227 (.ref 34), en P "__doc__" 228 (.none)] 3, #[]⟩),
 (33, { cls := .type "type", data := .cls { name := "Raised", bases := [.type "Exception"], mro := [.ref 33, .type "Exception", .type "BaseException", .type "object"], ns := 32, qualname := "Raised" }, slots := #[some (.ref 15), none, some (.str "Raised" 189), some (.str "Raised" 197), some (.builtin "Exception.__new__"), some (.bool true)] }),
 (37, { cls := .type "tuple", data := .seq #[.str "NONE" 233] }),
 (38, { cls := .type "tuple", data := .seq #[.ref 37] }),
 (44, { cls := .type "code", data := .fields #[.str "error" 234, .str "error" 235, .str "/claim/cut.py" 236, .int 15 0, .int 2 0, .int 0 0, .int 0 0, .int 3 0, .ref 39, .bool true, .int 181 0, .ref 40, .none, .ref 41, .ref 42, .ref 43, .int 239 0, .int 15 0, .str "/claim/cut.py" 240] }),
 (45, fnO "error" "error" (fdOf 2) (.ref 38) (.str "tclcore.faults" 187) (.ref 44)),
 (51, { cls := .type "code", data := .fields #[.str "is_blank" 244, .str "is_blank" 245, .str "/claim/cut.py" 246, .int 18 0, .int 1 0, .int 0 0, .int 0 0, .int 3 0, .ref 46, .bool true, .int 181 0, .ref 47, .none, .ref 48, .ref 49, .ref 50, .int 248 0, .int 18 0, .str "/claim/cut.py" 249] }),
 (52, fnO "is_blank" "is_blank" (fdOf 4) (.none) (.str "tclcore.numbers" 242) (.ref 51)),
 (58, { cls := .type "code", data := .fields #[.str "digit" 251, .str "digit" 252, .str "/claim/cut.py" 253, .int 20 0, .int 1 0, .int 0 0, .int 0 0, .int 3 0, .ref 53, .bool true, .int 181 0, .ref 54, .none, .ref 55, .ref 56, .ref 57, .int 256 0, .int 20 0, .str "/claim/cut.py" 257] }),
 (59, fnO "digit" "digit" (fdOf 5) (.none) (.str "tclcore.numbers" 242) (.ref 58)),
 (65, { cls := .type "code", data := .fields #[.str "digits_value" 259, .str "digits_value" 260, .str "/claim/cut.py" 261, .int 31 0, .int 2 0, .int 0 0, .int 0 0, .int 3 0, .ref 60, .bool true, .int 181 0, .ref 61, .none, .ref 62, .ref 63, .ref 64, .int 267 0, .int 31 0, .str "/claim/cut.py" 268] }),
 (66, fnO "digits_value" "digits_value" (fdOf 6) (.none) (.str "tclcore.numbers" 242) (.ref 65)),
 (72, { cls := .type "code", data := .fields #[.str "base_of" 270, .str "base_of" 271, .str "/claim/cut.py" 272, .int 41 0, .int 1 0, .int 0 0, .int 0 0, .int 3 0, .ref 67, .bool true, .int 181 0, .ref 68, .none, .ref 69, .ref 70, .ref 71, .int 274 0, .int 41 0, .str "/claim/cut.py" 275] }),
 (73, fnO "base_of" "base_of" (fdOf 7) (.none) (.str "tclcore.numbers" 242) (.ref 72)),
 (79, { cls := .type "code", data := .fields #[.str "whole_of" 277, .str "whole_of" 278, .str "/claim/cut.py" 279, .int 51 0, .int 1 0, .int 0 0, .int 0 0, .int 3 0, .ref 74, .bool true, .int 181 0, .ref 75, .none, .ref 76, .ref 77, .ref 78, .int 286 0, .int 51 0, .str "/claim/cut.py" 287] }),
 (80, fnO "whole_of" "whole_of" (fdOf 8) (.none) (.str "tclcore.numbers" 242) (.ref 79)),
 (86, { cls := .type "code", data := .fields #[.str "hex_sign" 291, .str "hex_sign" 292, .str "/claim/cut.py" 293, .int 72 0, .int 2 0, .int 0 0, .int 0 0, .int 3 0, .ref 81, .bool true, .int 181 0, .ref 82, .none, .ref 83, .ref 84, .ref 85, .int 300 0, .int 72 0, .str "/claim/cut.py" 301] }),
 (87, fnO "hex_sign" "hex_sign" (fdOf 10) (.none) (.str "tclcore.words" 289) (.ref 86)),
 (93, { cls := .type "code", data := .fields #[.str "octal_sign" 303, .str "octal_sign" 304, .str "/claim/cut.py" 305, .int 89 0, .int 2 0, .int 0 0, .int 0 0, .int 3 0, .ref 88, .bool true, .int 181 0, .ref 89, .none, .ref 90, .ref 91, .ref 92, .int 311 0, .int 89 0, .str "/claim/cut.py" 312] }),
 (94, fnO "octal_sign" "octal_sign" (fdOf 11) (.none) (.str "tclcore.words" 289) (.ref 93)),
 (100, { cls := .type "code", data := .fields #[.str "backslash" 314, .str "backslash" 315, .str "/claim/cut.py" 316, .int 99 0, .int 2 0, .int 0 0, .int 0 0, .int 3 0, .ref 95, .bool true, .int 181 0, .ref 96, .none, .ref 97, .ref 98, .ref 99, .int 322 0, .int 99 0, .str "/claim/cut.py" 323] }),
 (101, fnO "backslash" "backslash" (fdOf 12) (.none) (.str "tclcore.words" 289) (.ref 100)),
 (107, { cls := .type "code", data := .fields #[.str "check_behind" 327, .str "check_behind" 328, .str "/claim/cut.py" 329, .int 117 0, .int 3 0, .int 0 0, .int 0 0, .int 3 0, .ref 102, .bool true, .int 181 0, .ref 103, .none, .ref 104, .ref 105, .ref 106, .int 334 0, .int 117 0, .str "/claim/cut.py" 335] }),
 (108, fnO "check_behind" "check_behind" (fdOf 14) (.none) (.str "tclcore.lists" 325) (.ref 107)),
 (114, { cls := .type "code", data := .fields #[.str "braced_element" 337, .str "braced_element" 338, .str "/claim/cut.py" 339, .int 124 0, .int 2 0, .int 0 0, .int 0 0, .int 3 0, .ref 109, .bool true, .int 181 0, .ref 110, .none, .ref 111, .ref 112, .ref 113, .int 345 0, .int 124 0, .str "/claim/cut.py" 346] }),
 (115, fnO "braced_element" "braced_element" (fdOf 15) (.none) (.str "tclcore.lists" 325) (.ref 114)),
 (121, { cls := .type "code", data := .fields #[.str "quoted_element" 348, .str "quoted_element" 349, .str "/claim/cut.py" 350, .int 139 0, .int 2 0, .int 0 0, .int 0 0, .int 3 0, .ref 116, .bool true, .int 181 0, .ref 117, .none, .ref 118, .ref 119, .ref 120, .int 355 0, .int 139 0, .str "/claim/cut.py" 356] }),
 (122, fnO "quoted_element" "quoted_element" (fdOf 16) (.none) (.str "tclcore.lists" 325) (.ref 121)),
 (128, { cls := .type "code", data := .fields #[.str "bare_element" 358, .str "bare_element" 359, .str "/claim/cut.py" 360, .int 152 0, .int 2 0, .int 0 0, .int 0 0, .int 3 0, .ref 123, .bool true, .int 181 0, .ref 124, .none, .ref 125, .ref 126, .ref 127, .int 365 0, .int 152 0, .str "/claim/cut.py" 366] }),
 (129, fnO "bare_element" "bare_element" (fdOf 17) (.none) (.str "tclcore.lists" 325) (.ref 128)),
 (135, { cls := .type "code", data := .fields #[.str "find_element" 368, .str "find_element" 369, .str "/claim/cut.py" 370, .int 162 0, .int 2 0, .int 0 0, .int 0 0, .int 3 0, .ref 130, .bool true, .int 181 0, .ref 131, .none, .ref 132, .ref 133, .ref 134, .int 373 0, .int 162 0, .str "/claim/cut.py" 374] }),
 (136, fnO "find_element" "find_element" (fdOf 18) (.none) (.str "tclcore.lists" 325) (.ref 135)),
 (142, { cls := .type "code", data := .fields #[.str "split_list" 376, .str "split_list" 377, .str "/claim/cut.py" 378, .int 172 0, .int 1 0, .int 0 0, .int 0 0, .int 3 0, .ref 137, .bool true, .int 181 0, .ref 138, .none, .ref 139, .ref 140, .ref 141, .int 382 0, .int 172 0, .str "/claim/cut.py" 383] }),
 (143, fnO "split_list" "split_list" (fdOf 19) (.none) (.str "tclcore.lists" 325) (.ref 142)),
 (149, { cls := .type "code", data := .fields #[.str "mode_of" 385, .str "mode_of" 386, .str "/claim/cut.py" 387, .int 179 0, .int 2 0, .int 0 0, .int 0 0, .int 3 0, .ref 144, .bool true, .int 181 0, .ref 145, .none, .ref 146, .ref 147, .ref 148, .int 398 0, .int 179 0, .str "/claim/cut.py" 399] }),
 (150, fnO "mode_of" "mode_of" (fdOf 20) (.none) (.str "tclcore.lists" 325) (.ref 149)),
 (156, { cls := .type "code", data := .fields #[.str "escaped" 401, .str "escaped" 402, .str "/claim/cut.py" 403, .int 213 0, .int 2 0, .int 0 0, .int 0 0, .int 3 0, .ref 151, .bool true, .int 181 0, .ref 152, .none, .ref 153, .ref 154, .ref 155, .int 407 0, .int 213 0, .str "/claim/cut.py" 408] }),
 (157, fnO "escaped" "escaped" (fdOf 21) (.none) (.str "tclcore.lists" 325) (.ref 156)),
 (158, { cls := .type "tuple", data := .seq #[.bool false] }),
 (164, { cls := .type "code", data := .fields #[.str "quote" 410, .str "quote" 411, .str "/claim/cut.py" 412, .int 220 0, .int 2 0, .int 0 0, .int 0 0, .int 3 0, .ref 159, .bool true, .int 181 0, .ref 160, .none, .ref 161, .ref 162, .ref 163, .int 418 0, .int 220 0, .str "/claim/cut.py" 419] }),
 (165, fnO "quote" "quote" (fdOf 22) (.ref 158) (.str "tclcore.lists" 325) (.ref 164)),
 (171, { cls := .type "code", data := .fields #[.str "join_list" 421, .str "join_list" 422, .str "/claim/cut.py" 423, .int 232 0, .int 1 0, .int 0 0, .int 0 0, .int 3 0, .ref 166, .bool true, .int 181 0, .ref 167, .none, .ref 168, .ref 169, .ref 170, .int 427 0, .int 232 0, .str "/claim/cut.py" 428] }),
 (172, fnO "join_list" "join_list" (fdOf 23) (.none) (.str "tclcore.lists" 325) (.ref 171)),
 (178, { cls := .type "code", data := .fields #[.str "code_text" 430, .str "code_text" 431, .str "/claim/cut.py" 432, .int 237 0, .int 1 0, .int 0 0, .int 0 0, .int 3 0, .ref 173, .bool true, .int 181 0, .ref 174, .none, .ref 175, .ref 176, .ref 177, .int 434 0, .int 237 0, .str "/claim/cut.py" 435] }),
 (179, fnO "code_text" "code_text" (fdOf 24) (.none) (.str "tclcore.lists" 325) (.ref 178)),
 (185, { cls := .type "code", data := .fields #[.str "info_of" 439, .str "info_of" 440, .str "/claim/cut.py" 441, .int 242 0, .int 1 0, .int 0 0, .int 0 0, .int 3 0, .ref 180, .bool true, .int 181 0, .ref 181, .none, .ref 182, .ref 183, .ref 184, .int 443 0, .int 242 0, .str "/claim/cut.py" 444] }),
 (186, fnO "info_of" "info_of" (fdOf 26) (.none) (.str "tclcore.catching" 437) (.ref 185)),
 (192, { cls := .type "code", data := .fields #[.str "error_options" 446, .str "error_options" 447, .str "/claim/cut.py" 448, .int 246 0, .int 1 0, .int 0 0, .int 0 0, .int 3 0, .ref 187, .bool true, .int 181 0, .ref 188, .none, .ref 189, .ref 190, .ref 191, .int 452 0, .int 246 0, .str "/claim/cut.py" 453] }),
 (193, fnO "error_options" "error_options" (fdOf 27) (.none) (.str "tclcore.catching" 437) (.ref 192)),
 (199, { cls := .type "code", data := .fields #[.str "options_text" 455, .str "options_text" 456, .str "/claim/cut.py" 457, .int 257 0, .int 1 0, .int 0 0, .int 0 0, .int 3 0, .ref 194, .bool true, .int 181 0, .ref 195, .none, .ref 196, .ref 197, .ref 198, .int 464 0, .int 257 0, .str "/claim/cut.py" 465] }),
 (200, fnO "options_text" "options_text" (fdOf 28) (.none) (.str "tclcore.catching" 437) (.ref 199)),
 (206, { cls := .type "code", data := .fields #[.str "code_of" 467, .str "code_of" 468, .str "/claim/cut.py" 469, .int 270 0, .int 1 0, .int 0 0, .int 0 0, .int 3 0, .ref 201, .bool true, .int 181 0, .ref 202, .none, .ref 203, .ref 204, .ref 205, .int 474 0, .int 270 0, .str "/claim/cut.py" 475] }),
 (207, fnO "code_of" "code_of" (fdOf 29) (.none) (.str "tclcore.catching" 437) (.ref 206)),
 (213, { cls := .type "code", data := .fields #[.str "list_or_none" 477, .str "list_or_none" 478, .str "/claim/cut.py" 479, .int 279 0, .int 1 0, .int 0 0, .int 0 0, .int 3 0, .ref 208, .bool true, .int 181 0, .ref 209, .none, .ref 210, .ref 211, .ref 212, .int 481 0, .int 279 0, .str "/claim/cut.py" 482] }),
 (214, fnO "list_or_none" "list_or_none" (fdOf 30) (.none) (.str "tclcore.catching" 437) (.ref 213)),
 (220, { cls := .type "code", data := .fields #[.str "bad_option" 484, .str "bad_option" 485, .str "/claim/cut.py" 486, .int 284 0, .int 4 0, .int 0 0, .int 0 0, .int 3 0, .ref 215, .bool true, .int 181 0, .ref 216, .none, .ref 217, .ref 218, .ref 219, .int 492 0, .int 284 0, .str "/claim/cut.py" 493] }),
 (221, fnO "bad_option" "bad_option" (fdOf 31) (.none) (.str "tclcore.catching" 437) (.ref 220)),
 (227, { cls := .type "code", data := .fields #[.str "put_nested" 495, .str "put_nested" 496, .str "/claim/cut.py" 497, .int 287 0, .int 2 0, .int 0 0, .int 0 0, .int 3 0, .ref 222, .bool true, .int 181 0, .ref 223, .none, .ref 224, .ref 225, .ref 226, .int 503 0, .int 287 0, .str "/claim/cut.py" 504] }),
 (228, fnO "put_nested" "put_nested" (fdOf 32) (.none) (.str "tclcore.catching" 437) (.ref 227)),
 (234, { cls := .type "code", data := .fields #[.str "merged" 506, .str "merged" 507, .str "/claim/cut.py" 508, .int 299 0, .int 1 0, .int 0 0, .int 0 0, .int 3 0, .ref 229, .bool true, .int 181 0, .ref 230, .none, .ref 231, .ref 232, .ref 233, .int 513 0, .int 299 0, .str "/claim/cut.py" 514] }),
 (235, fnO "merged" "merged" (fdOf 33) (.none) (.str "tclcore.catching" 437) (.ref 234)),
 (241, { cls := .type "code", data := .fields #[.str "level_of" 516, .str "level_of" 517, .str "/claim/cut.py" 518, .int 307 0, .int 1 0, .int 0 0, .int 0 0, .int 3 0, .ref 236, .bool true, .int 181 0, .ref 237, .none, .ref 238, .ref 239, .ref 240, .int 521 0, .int 307 0, .str "/claim/cut.py" 522] }),
 (242, fnO "level_of" "level_of" (fdOf 34) (.none) (.str "tclcore.catching" 437) (.ref 241)),
 (248, { cls := .type "code", data := .fields #[.str "extras_of" 524, .str "extras_of" 525, .str "/claim/cut.py" 526, .int 312 0, .int 2 0, .int 0 0, .int 0 0, .int 3 0, .ref 243, .bool true, .int 181 0, .ref 244, .none, .ref 245, .ref 246, .ref 247, .int 531 0, .int 312 0, .str "/claim/cut.py" 532] }),
 (249, fnO "extras_of" "extras_of" (fdOf 35) (.none) (.str "tclcore.catching" 437) (.ref 248)),
 (255, { cls := .type "code", data := .fields #[.str "end_raised" 534, .str "end_raised" 535, .str "/claim/cut.py" 536, .int 318 0, .int 2 0, .int 0 0, .int 0 0, .int 3 0, .ref 250, .bool true, .int 181 0, .ref 251, .none, .ref 252, .ref 253, .ref 254, .int 545 0, .int 318 0, .str "/claim/cut.py" 546] }),
 (256, fnO "end_raised" "end_raised" (fdOf 36) (.none) (.str "tclcore.catching" 437) (.ref 255)),
 (262, { cls := .type "code", data := .fields #[.str "_law_take" 550, .str "_law_take" 551, .str "/claim/cut.py" 552, .int 341 0, .int 2 0, .int 0 0, .int 0 0, .int 3 0, .ref 257, .bool true, .int 181 0, .ref 258, .none, .ref 259, .ref 260, .ref 261, .int 557 0, .int 341 0, .str "/claim/cut.py" 558] }),
 (263, fnO "_law_take" "_law_take" (fdOf 38) (.none) (.str "law_oj0059_01" 548) (.ref 262)),
 (269, { cls := .type "code", data := .fields #[.str "_law_given" 560, .str "_law_given" 561, .str "/claim/cut.py" 562, .int 346 0, .int 0 0, .int 0 0, .int 0 0, .int 3 0, .ref 264, .bool true, .int 181 0, .ref 265, .none, .ref 266, .ref 267, .ref 268, .int 563 0, .int 346 0, .str "/claim/cut.py" 564] }),
 (270, fnO "_law_given" "_law_given" (fdOf 39) (.none) (.str "law_oj0059_01" 548) (.ref 269)),
 (276, { cls := .type "code", data := .fields #[.str "_law_text" 566, .str "_law_text" 567, .str "/claim/cut.py" 568, .int 348 0, .int 1 0, .int 0 0, .int 0 0, .int 3 0, .ref 271, .bool true, .int 181 0, .ref 272, .none, .ref 273, .ref 274, .ref 275, .int 574 0, .int 348 0, .str "/claim/cut.py" 575] }),
 (277, fnO "_law_text" "_law_text" (fdOf 40) (.none) (.str "law_oj0059_01" 548) (.ref 276)),
 (281, { cls := .type "code", data := .fields #[.str "_law_texts" 577, .str "_law_texts" 578, .str "/claim/cut.py" 579, .int 358 0, .int 1 0, .int 0 0, .int 0 0, .int 3 0, .ref 278, .bool true, .int 181 0, .ref 279, .none, .none, .none, .ref 280, .int 580 0, .int 358 0, .str "/claim/cut.py" 581] }),
 (282, fnO "_law_texts" "_law_texts" (fdOf 41) (.none) (.str "law_oj0059_01" 548) (.ref 281)),
 (288, { cls := .type "code", data := .fields #[.str "_law_number" 583, .str "_law_number" 584, .str "/claim/cut.py" 585, .int 360 0, .int 1 0, .int 0 0, .int 0 0, .int 3 0, .ref 283, .bool true, .int 181 0, .ref 284, .none, .ref 285, .ref 286, .ref 287, .int 588 0, .int 360 0, .str "/claim/cut.py" 589] }),
 (289, fnO "_law_number" "_law_number" (fdOf 42) (.none) (.str "law_oj0059_01" 548) (.ref 288)),
 (295, { cls := .type "code", data := .fields #[.str "_law_errorcode" 591, .str "_law_errorcode" 592, .str "/claim/cut.py" 593, .int 363 0, .int 1 0, .int 0 0, .int 0 0, .int 3 0, .ref 290, .bool true, .int 181 0, .ref 291, .none, .ref 292, .ref 293, .ref 294, .int 598 0, .int 363 0, .str "/claim/cut.py" 599] }),
 (296, fnO "_law_errorcode" "_law_errorcode" (fdOf 43) (.none) (.str "law_oj0059_01" 548) (.ref 295)),
 (302, { cls := .type "code", data := .fields #[.str "_law_other" 601, .str "_law_other" 602, .str "/claim/cut.py" 603, .int 373 0, .int 2 0, .int 0 0, .int 0 0, .int 3 0, .ref 297, .bool true, .int 181 0, .ref 298, .none, .ref 299, .ref 300, .ref 301, .int 608 0, .int 373 0, .str "/claim/cut.py" 609] }),
 (303, fnO "_law_other" "_law_other" (fdOf 44) (.none) (.str "law_oj0059_01" 548) (.ref 302)),
 (307, { cls := .type "code", data := .fields #[.str "_law_drawn" 611, .str "_law_drawn" 612, .str "/claim/cut.py" 613, .int 386 0, .int 1 0, .int 0 0, .int 0 0, .int 3 0, .ref 304, .bool true, .int 181 0, .ref 305, .none, .none, .none, .ref 306, .int 614 0, .int 386 0, .str "/claim/cut.py" 615] }),
 (308, fnO "_law_drawn" "_law_drawn" (fdOf 45) (.none) (.str "law_oj0059_01" 548) (.ref 307)),
 (314, { cls := .type "code", data := .fields #[.str "_law_raised" 617, .str "_law_raised" 618, .str "/claim/cut.py" 619, .int 403 0, .int 2 0, .int 0 0, .int 0 0, .int 3 0, .ref 309, .bool true, .int 181 0, .ref 310, .none, .ref 311, .ref 312, .ref 313, .int 630 0, .int 403 0, .str "/claim/cut.py" 631] }),
 (315, fnO "_law_raised" "_law_raised" (fdOf 46) (.none) (.str "law_oj0059_01" 548) (.ref 314)),
 (319, { cls := .type "code", data := .fields #[.str "_law_last" 633, .str "_law_last" 634, .str "/claim/cut.py" 635, .int 408 0, .int 1 0, .int 0 0, .int 0 0, .int 3 0, .ref 316, .bool true, .int 181 0, .ref 317, .none, .none, .none, .ref 318, .int 636 0, .int 408 0, .str "/claim/cut.py" 637] }),
 (320, fnO "_law_last" "_law_last" (fdOf 47) (.none) (.str "law_oj0059_01" 548) (.ref 319)),
 (326, { cls := .type "code", data := .fields #[.str "_law_flat" 639, .str "_law_flat" 640, .str "/claim/cut.py" 641, .int 414 0, .int 1 0, .int 0 0, .int 0 0, .int 3 0, .ref 321, .bool true, .int 181 0, .ref 322, .none, .ref 323, .ref 324, .ref 325, .int 653 0, .int 414 0, .str "/claim/cut.py" 654] }),
 (327, fnO "_law_flat" "_law_flat" (fdOf 48) (.none) (.str "law_oj0059_01" 548) (.ref 326)),
 (333, { cls := .type "code", data := .fields #[.str "_law_again" 656, .str "_law_again" 657, .str "/claim/cut.py" 658, .int 426 0, .int 1 0, .int 0 0, .int 0 0, .int 3 0, .ref 328, .bool true, .int 181 0, .ref 329, .none, .ref 330, .ref 331, .ref 332, .int 667 0, .int 426 0, .str "/claim/cut.py" 668] }),
 (334, fnO "_law_again" "_law_again" (fdOf 49) (.none) (.str "law_oj0059_01" 548) (.ref 333)),
 (338, { cls := .type "code", data := .fields #[.str "_law_due" 670, .str "_law_due" 671, .str "/claim/cut.py" 672, .int 433 0, .int 4 0, .int 0 0, .int 0 0, .int 3 0, .ref 335, .bool true, .int 181 0, .ref 336, .none, .none, .none, .ref 337, .int 673 0, .int 433 0, .str "/claim/cut.py" 674] }),
 (339, fnO "_law_due" "_law_due" (fdOf 50) (.none) (.str "law_oj0059_01" 548) (.ref 338)),
 (345, { cls := .type "code", data := .fields #[.str "_law_fields" 676, .str "_law_fields" 677, .str "/claim/cut.py" 678, .int 447 0, .int 1 0, .int 0 0, .int 0 0, .int 3 0, .ref 340, .bool true, .int 181 0, .ref 341, .none, .ref 342, .ref 343, .ref 344, .int 680 0, .int 447 0, .str "/claim/cut.py" 681] }),
 (346, fnO "_law_fields" "_law_fields" (fdOf 51) (.none) (.str "law_oj0059_01" 548) (.ref 345)),
 (352, { cls := .type "code", data := .fields #[.str "_law_refusal" 683, .str "_law_refusal" 684, .str "/claim/cut.py" 685, .int 451 0, .int 1 0, .int 0 0, .int 0 0, .int 3 0, .ref 347, .bool true, .int 181 0, .ref 348, .none, .ref 349, .ref 350, .ref 351, .int 688 0, .int 451 0, .str "/claim/cut.py" 689] }),
 (353, fnO "_law_refusal" "_law_refusal" (fdOf 52) (.none) (.str "law_oj0059_01" 548) (.ref 352)),
 (359, { cls := .type "code", data := .fields #[.str "_law_bad" 691, .str "_law_bad" 692, .str "/claim/cut.py" 693, .int 457 0, .int 4 0, .int 0 0, .int 0 0, .int 3 0, .ref 354, .bool true, .int 181 0, .ref 355, .none, .ref 356, .ref 357, .ref 358, .int 698 0, .int 457 0, .str "/claim/cut.py" 699] }),
 (360, fnO "_law_bad" "_law_bad" (fdOf 53) (.none) (.str "law_oj0059_01" 548) (.ref 359)),
 (366, { cls := .type "code", data := .fields #[.str "_law_refused" 701, .str "_law_refused" 702, .str "/claim/cut.py" 703, .int 459 0, .int 3 0, .int 0 0, .int 0 0, .int 3 0, .ref 361, .bool true, .int 181 0, .ref 362, .none, .ref 363, .ref 364, .ref 365, .int 713 0, .int 459 0, .str "/claim/cut.py" 714] }),
 (367, fnO "_law_refused" "_law_refused" (fdOf 54) (.none) (.str "law_oj0059_01" 548) (.ref 366)),
 (371, { cls := .type "code", data := .fields #[.str "_law_is_right" 716, .str "_law_is_right" 717, .str "/claim/cut.py" 718, .int 469 0, .int 1 0, .int 0 0, .int 0 0, .int 3 0, .ref 368, .bool true, .int 181 0, .ref 369, .none, .none, .none, .ref 370, .int 719 0, .int 469 0, .str "/claim/cut.py" 720] }),
 (372, fnO "_law_is_right" "_law_is_right" (fdOf 55) (.none) (.str "law_oj0059_01" 548) (.ref 371)),
 (378, { cls := .type "code", data := .fields #[.str "law" 722, .str "law" 723, .str "/claim/cut.py" 724, .int 492 0, .int 1 0, .int 0 0, .int 0 0, .int 3 0, .ref 373, .bool true, .int 181 0, .ref 374, .none, .ref 375, .ref 376, .ref 377, .int 728 0, .int 492 0, .str "/claim/cut.py" 729] }),
 (379, fnO "law" "law" (fdOf 56) (.none) (.str "law_oj0059_01" 548) (.ref 378))
]
noncomputable def KFas : List Addr := [2, 3, 22, 23, 29, 30, 32, 33, 37, 38, 44, 45, 51, 52, 58, 59, 65, 66, 72, 73, 79, 80, 86, 87, 93, 94, 100, 101, 107, 108, 114, 115, 121, 122, 128, 129, 135, 136, 142, 143, 149, 150, 156, 157, 158, 164, 165, 171, 172, 178, 179, 185, 186, 192, 193, 199, 200, 206, 207, 213, 214, 220, 221, 227, 228, 234, 235, 241, 242, 248, 249, 255, 256, 262, 263, 269, 270, 276, 277, 281, 282, 288, 289, 295, 296, 302, 303, 307, 308, 314, 315, 319, 320, 326, 327, 333, 334, 338, 339, 345, 346, 352, 353, 359, 360, 366, 367, 371, 372, 378, 379]
theorem KF_as : ∀ P, KFas = (KF P).map (·.1) := fun P => by kernel_rfl!
end
section
noncomputable abbrev HK : Hook := kHook KF KFas KF_as
set_option maxHeartbeats 80000000 in
theorem said : rw.wellSaid = true := by decide +kernel
set_option maxHeartbeats 80000000 in
theorem left : LeftO rw.row.toRowW.prog view loose (fun s => xlAt view [] s && recOk (RowW.records rw.row.toRowW) s) (Hook.obs HK) (Hook.val HK) 3890 := fun w => by
 kernel_rfl!
end
section
noncomputable def RD (G : Heap) (p : PyData) (v : Value) : Prop := ∃ as, Reads G v p as
noncomputable def RDs (G : Heap) (ps : List PyData) (vs : List Value) : Prop := ∃ as, ReadsAll G vs ps as
theorem RD.keeps {G G' : Heap} (k : G.StaysIn G') {p : PyData} {v : Value} (r : RD G p v) : RD G' p v := let ⟨as, q⟩ := r; ⟨as, Reads.keeps k q⟩
theorem RDs.keeps {G G' : Heap} (k : G.StaysIn G') {p : List PyData} {v : List Value} (r : RDs G p v) : RDs G' p v := let ⟨as, q⟩ := r; ⟨as, ReadsAll.keeps k q⟩
theorem RDs.nil {G : Heap} : RDs G [] [] := ⟨_, .nil⟩
theorem RDs.cons {G : Heap} {p : PyData} {v : Value} {ps : List PyData} {vs : List Value} (a : RD G p v) (b : RDs G ps vs) : RDs G (p :: ps) (v :: vs) :=
 let ⟨_, x⟩ := a; let ⟨_, y⟩ := b; ⟨_, .cons x y⟩
theorem RDs.inv_cons {G : Heap} {p : PyData} {ps : List PyData} {vs : List Value} (r : RDs G (p :: ps) vs) : ∃ v vs', vs = v :: vs' ∧ RD G p v ∧ RDs G ps vs' := by
 refine o10 r fun as _ => ?_
 clear r
 rename_i r
 cases r with
 | cons a b => exact i22 _ _ rfl ⟨_, a⟩ ⟨_, b⟩
theorem RDs.inv_nil {G : Heap} {vs : List Value} (r : RDs G [] vs) : vs = [] := by
 refine o10 r fun as _ => ?_
 clear r
 rename_i r
 cases r; rfl
theorem RDs.length {G : Heap} : ∀ {ps : List PyData} {vs : List Value}, RDs G ps vs → vs.length = ps.length
 | [], _, r => by rw [r.inv_nil]; rfl
 | _ :: _, _, r => by refine o22 r.inv_cons fun v vs' zz1 _ b => ?_; subst zz1; simp [b.length]
theorem RDs.append {G : Heap} : ∀ {ps qs : List PyData} {vs ws : List Value}, RDs G ps vs → RDs G qs ws → RDs G (ps ++ qs) (vs ++ ws)
 | [], _, _, _, r, q => by rw [r.inv_nil]; exact q
 | _ :: _, _, _, _, r, q => by refine o22 r.inv_cons fun v vs' zz1 a b => ?_; subst zz1; exact RDs.cons a (b.append q)
theorem RDs.at {G : Heap} : ∀ {ps : List PyData} {vs : List Value} (i : Nat) {p : PyData}, RDs G ps vs → ps[i]? = some p → ∃ v, vs[i]? = some v ∧ RD G p v
 | [], _, _, _, _, e => by simp at e
 | _ :: _, _, 0, _, r, e => by refine o22 r.inv_cons fun v vs' zz1 a b => ?_; subst zz1; simp at e; exact i11 v rfl (e ▸ a)
 | _ :: _, _, i + 1, _, r, e => by refine o22 r.inv_cons fun v vs' zz1 a b => ?_; subst zz1; simpa using b.at i (by simpa using e)
inductive AV where
 | d (p : PyData)
 | v (v : Value)
 | fd (P : Params) (kvs : List (Str × PyData))
 | rng (a b c : Int)
 | slc (l u k : Option Int)
inductive AO where
 | list (xs : List PyData)
 | dict (kvs : List (Str × PyData))
 | inst (dx : Addr) (fs : List (Str × PyData)) (tb : Option (Addr × Value))
 | raw
noncomputable def AO.addrs (a : Addr) : AO → List Addr
 | .inst dx _ (some t) => [a, dx, t.1]
 | .inst dx _ none => [a, dx]
 | _ => [a]
structure St where
 loc : List (Option AV)
 mu : List (Addr × AO)
noncomputable def madd (l : List (Addr × AO)) : List Addr := l.flatMap fun p => p.2.addrs p.1
structure Cx where
 w : World
 A : Around
 env : Env
 frames : List Env
 vars : List Str
 globs : List (Str × Value)
 fr : List Str
 base : Heap
 own : List Addr
 ctl : List Addr
 priv : List Addr
 room : Nat
 hd : Bool
 cv : List Str
noncomputable abbrev Cx.M (c : Cx) : Model := model pw c.w
noncomputable def fz (c : Cx) (st : St) (h : Heap) : Heap := hideAll h (c.own ++ c.ctl ++ c.priv ++ madd st.mu)
theorem hideAll_iff {h : Heap} {l : List Addr} {b : Addr} {o : Obj} : (hideAll h l).get? b = some o ↔ h.get? b = some o ∧ b ∉ l :=
 ⟨fun e => ⟨of_hideAll l e, fun m => by rw [hideAll_none l m] at e; cases e⟩, fun e => hideAll_get l e.1 e.2⟩
theorem fz_iff {c : Cx} {st : St} {h : Heap} {b : Addr} {o : Obj} : (fz c st h).get? b = some o ↔ h.get? b = some o ∧ b ∉ c.own ∧ b ∉ c.ctl ∧ b ∉ c.priv ∧ b ∉ madd st.mu := by
 unfold fz
 rw [hideAll_iff]
 simp only [List.mem_append, not_or, and_assoc]
noncomputable def Ents (P : Params) (G : Heap) : List DictEntry → List (Str × PyData) → Prop
 | [], kvs => kvs = []
 | e :: es, kvs => ∃ k p kvs' t, kvs = (k, p) :: kvs' ∧ e.hash = PyData.keyHash P k ∧ e.key = .str k t ∧ RD G p e.val ∧ Ents P G es kvs'
theorem Ents.keeps {P : Params} {G G' : Heap} (k : G.StaysIn G') : ∀ {es : List DictEntry} {kvs : List (Str × PyData)}, Ents P G es kvs → Ents P G' es kvs
 | [], _, e => e
 | _ :: _, _, ⟨x, p, kvs', t, e, a, b, c, d⟩ => ⟨x, p, kvs', t, e, a, b, c.keeps k, Ents.keeps k d⟩
noncomputable def FD (P : Params) (G : Heap) (kvs : List (Str × PyData)) (v : Value) : Prop := ∃ a es n, v = .ref a ∧ a ≠ sysModules ∧ G.get? a = some (dictOf es n) ∧ Ents P G es kvs ∧ (kvs.map (·.1)).Nodup ∧ kvs.length ≤ 900
noncomputable def RG (G : Heap) (a b c : Int) (v : Value) : Prop := ∃ r t u w, v = .ref r ∧ IsRange G r a b c t u w
noncomputable def SL (G : Heap) (l u k : Option Int) (v : Value) : Prop := ∃ a l' u' k', v = .ref a ∧ G.IsSlice a l' u' k' ∧ l'.map (·.1) = l ∧ u'.map (·.1) = u ∧ k'.map (·.1) = k
noncomputable def RV (G : Heap) (a : AV) (v : Value) : Prop := match a with
 | .d p => RD G p v
 | .v x => v = x
 | .fd P kvs => FD P G kvs v
 | .rng a b c => RG G a b c v
 | .slc l u k => SL G l u k v
noncomputable def RVs (G : Heap) : List AV → List Value → Prop
 | [], vs => vs = []
 | a :: as, vs => ∃ v vs', vs = v :: vs' ∧ RV G a v ∧ RVs G as vs'
theorem RV.keeps {G G' : Heap} (k : G.StaysIn G') : ∀ {a : AV} {v : Value}, RV G a v → RV G' a v
 | .d _, _, r => RD.keeps k r
 | .v _, _, e => e
 | .fd _ _, _, ⟨a, es, n, h1, h2, h3, h4, h5⟩ => ⟨a, es, n, h1, h2, k _ _ h3, h4.keeps k, h5⟩
 | .rng _ _ _, _, ⟨r, t, u, w, h1, h2⟩ => ⟨r, t, u, w, h1, k _ _ h2⟩
 | .slc _ _ _, _, ⟨a, l', u', k', h1, ⟨o, ho, h2⟩, h3⟩ => ⟨a, l', u', k', h1, ⟨o, k _ _ ho, h2⟩, h3⟩
theorem RVs.keeps {G G' : Heap} (k : G.StaysIn G') : ∀ {as : List AV} {vs : List Value}, RVs G as vs → RVs G' as vs
 | [], _, e => e
 | _ :: _, _, ⟨v, vs', e, a, b⟩ => ⟨v, vs', e, a.keeps k, RVs.keeps k b⟩
noncomputable def NameIs (env : Env) (h : Heap) (x : Str) (v : Value) : Prop :=
 (env.kindOf x = some .local ∧ ∃ m, h.Ns env.locals m ∧ m x = some v) ∨
 ((env.kindOf x = some .cell ∨ env.kindOf x = some .free) ∧ ∃ ca, env.cells.lookup x = some ca ∧ h.IsCell ca (some v))
noncomputable def look (kvs : List (Str × PyData)) (k : Str) : Option PyData := (kvs.find? fun p => p.1 = k).map (·.2)
noncomputable def DOb (G : Heap) (od : Obj) (fs : List (Str × PyData)) : Prop :=
 ∃ (es : Array DictEntry) (ep : Nat) (m : Str → Option Value), od.data = .dict es ep ∧ StrKeys es ∧ UniqKeys es ∧ (∀ n, nsFind es n = m n) ∧ (∀ y, m y ≠ none → y ∈ fs.map (·.1)) ∧ (∀ k p, look fs k = some p → ∃ v, m k = some v ∧ RD G p v) ∧ fs.length ≤ 900
theorem DOb.keeps {G G' : Heap} (k : G.StaysIn G') {od : Obj} {fs : List (Str × PyData)} (h : DOb G od fs) : DOb G' od fs :=
 let ⟨es, ep, m, a, b, c, d, e, f, l⟩ := h; ⟨es, ep, m, a, b, c, d, e, fun x p q => let ⟨v, v1, v2⟩ := f x p q; (i11 v v1 (v2.keeps k)), l⟩
noncomputable def MutRel (P : Params) (G h : Heap) (a : Addr) : AO → Prop
 | .list xs => ∃ vs n, h.get? a = some { cls := .type "list", data := .seq vs n } ∧ RDs G xs vs.toList ∧ xs.length ≤ 1000000
 | .dict kvs => a ≠ sysModules ∧ ∃ es n, h.get? a = some (dictOf es n) ∧ Ents P G es kvs ∧ (kvs.map (·.1)).Nodup ∧ kvs.length ≤ 900
 | .inst dx fs tb => a ≠ dx ∧ (∃ vs, h.get? a = some { cls := .ref 33, dict := some dx, data := .fields vs } ∧ 6 ≤ vs.size ∧ vs[1]? = some (match tb with | none => .none | some (T, _) => .ref T)) ∧
   (∃ od, h.get? dx = some od ∧ DOb G od fs) ∧
   match tb with | none => True | some (T, fl) => T ≠ a ∧ T ≠ dx ∧ ∃ ts sl cl d, h.get? T = some ⟨cl, d, .fields ts, sl⟩ ∧ ts[3]? = some fl
 | .raw => ∃ vs, h.get? a = some { cls := .ref 33, dict := none, data := .fields vs } ∧ 6 ≤ vs.size ∧ vs[1]? = some .none
structure BaseOk (w : World) (h : Heap) : Prop where
 K : (KF w.params).In h
 g : ∃ mg, h.Ns mainGlobals mg
 b : ∃ mb, h.Ns builtinsNs mb ∧ ∀ x : Str, x ≠ "__name__" → mb x = bootBuiltins x
 nolimit : h.NoLimit
 nodigits : ∃ mc, h.Ns cStatics mc ∧ mc "sys.int_max_str_digits" = none
structure Cx.Ok (c : Cx) : Prop where
 base : BaseOk c.w c.base
 nodup : c.vars.Nodup
 kinds : ∀ x ∈ c.vars, c.env.kindOf x = some .local ∨ c.env.kindOf x = some .cell ∨ (c.env.kindOf x = some .free ∧ x ∈ c.fr)
 locs : ∀ x ∈ c.vars, x ∉ c.cv → x ∉ c.fr → c.env.kindOf x = some .local
 cellsAt : ∀ x ∈ c.vars, c.env.kindOf x = some .cell → (c.env.cells.lookup x).isSome
 fn : c.env.scope.kind = .function
 glob : c.env.globals = mainGlobals ∧ c.env.builtins = builtinsNs
 globs : ∀ p ∈ c.globs, c.env.kindOf p.1 = some .globalImplicit ∧ ((∃ mg, c.base.Ns mainGlobals mg ∧ mg p.1 = some p.2) ∨ ∃ mg mb, c.base.Ns mainGlobals mg ∧ mg p.1 = none ∧ c.base.Ns builtinsNs mb ∧ mb p.1 = some p.2)
 dbg : c.env.kindOf "__debug__" = none ∧ c.env.kindOf "__classdict__" = none
 loc : c.env.locals ∈ c.own
 locBase : c.base.get? c.env.locals = none
 cellIn : ∀ x ca, c.env.cells.lookup x = some ca → ca ∈ c.own ∨ ca ∈ c.ctl
 cellOwn : ∀ x ca, c.env.cells.lookup x = some ca → c.env.kindOf x = some .cell → x ∉ c.fr → ca ∈ c.own
 cellNe : ∀ x ca, c.env.cells.lookup x = some ca → ca ≠ c.env.locals
 cellInj : ∀ x y ca, c.env.cells.lookup x = some ca → c.env.cells.lookup y = some ca → x = y
 ownCtl : ∀ a ∈ c.own, a ∉ c.ctl ∧ a ∉ c.priv
 ownBase : ∀ a ∈ c.own, c.base.get? a = none
 ctlBase : ∀ a ∈ c.ctl, c.base.get? a = none
 privBase : ∀ a ∈ c.priv, c.base.get? a = none
 handled : c.hd = false → c.A.handled = none
 stack : c.A.frames = some c.frames
 frIn : ∀ env ∈ c.frames, ∀ L, env.frame = some L → L ∈ c.own ∨ L ∈ c.ctl
 depth : c.A.depth + c.room < 800
 units : c.A.units + 8 * c.room < 4000
structure Rel (c : Cx) (st : St) (s : Shared) : Prop where
 ok : c.Ok
 stay : c.base.StaysIn s.heap
 ff : s.heap.FunFrames c.base c.frames
 live : ∀ a, a ∈ c.own ∨ a ∈ c.ctl ∨ a ∈ c.priv → (s.heap.get? a).isSome = true
 ns : ∃ m, s.heap.Ns c.env.locals m
 cells : ∀ x ca, c.env.cells.lookup x = some ca → ∃ v, s.heap.IsCell ca v
 names : ∀ (i : Nat) x a, c.vars[i]? = some x → st.loc[i]? = some (some a) → ∃ v, NameIs c.env s.heap x v ∧ RV (fz c st s.heap) a v
 muts : ∀ p ∈ st.mu, MutRel c.w.params (fz c st s.heap) s.heap p.1 p.2
 nodup : (madd st.mu).Nodup
 apart : ∀ a ∈ madd st.mu, a ∉ c.own ∧ a ∉ c.ctl ∧ a ∉ c.priv ∧ c.base.get? a = none ∧ (s.heap.get? a).isSome
structure Tr (c : Cx) (st : St) (s : Shared) (st' : St) (s' : Shared) : Prop where
 keep : ∀ b o, s.heap.get? b = some o → b ∉ c.own → b ∉ c.ctl → b ∉ madd st.mu → s'.heap.get? b = some o
 ctl : ∀ b o, s.heap.get? b = some o → b ∈ c.ctl → ∃ sl, s'.heap.get? b = some { o with slots := sl }
 fresh : ∀ a ∈ madd st'.mu, a ∈ madd st.mu ∨ s.heap.get? a = none
 alive : ∀ a, (s.heap.get? a).isSome = true → (s'.heap.get? a).isSome = true
 rest : s'.gens = s.gens ∧ s'.os = s.os
theorem none_of {h h' : Heap} (k : ∀ a, (h.get? a).isSome = true → (h'.get? a).isSome = true) {a : Addr} (q : h'.get? a = none) : h.get? a = none := by
 cases e : h.get? a with
 | none => rfl
 | some o =>
  have := k a (by rw [e]; rfl)
  rw [q] at this; cases this
theorem Tr.refl (c : Cx) (st : St) (s : Shared) : Tr c st s st s := ⟨fun _ _ e _ _ _ => e, fun _ o e _ => ⟨o.slots, e⟩, fun _ h => .inl h, fun _ h => h, rfl, rfl⟩
theorem Tr.trans {c : Cx} {st st1 st2 : St} {s s1 s2 : Shared} (x : Tr c st s st1 s1) (y : Tr c st1 s1 st2 s2) : Tr c st s st2 s2 where
 keep b o e h1 h2 h3 := y.keep b o (x.keep b o e h1 h2 h3) h1 h2 fun m => (x.fresh b m).elim h3 fun q => by rw [e] at q; cases q
 ctl b o e m := let ⟨_, e1⟩ := x.ctl b o e m; let ⟨sl, e2⟩ := y.ctl b _ e1 m; ⟨sl, e2⟩
 fresh a m := (y.fresh a m).elim (x.fresh a) fun q => .inr (none_of x.alive q)
 alive a h := y.alive a (x.alive a h)
 rest := ⟨y.rest.1.trans x.rest.1, y.rest.2.trans x.rest.2⟩
theorem Tr.fz {c : Cx} {st st1 : St} {s s1 : Shared} (x : Tr c st s st1 s1) : (fz c st s.heap).StaysIn (fz c st1 s1.heap) := fun b o e => by
 refine o04 (fz_iff.mp e) fun e h1 h2 h3 h4 => ?_
 exact fz_iff.mpr (i04 (x.keep b o e h1 h2 h4) h1 h2 h3 (fun m => (x.fresh b m).elim h4 fun q => by rw [e] at q; cases q))
noncomputable def Post {α β : Type} (R : Heap → β → α → Prop) (Q : β → St → Prop) (c : Cx) (st : St) (s : Shared) (a : α) (s' : Shared) : Prop :=
 ∃ b st', Q b st' ∧ Rel c st' s' ∧ Tr c st s st' s' ∧ R (fz c st' s'.heap) b a
noncomputable abbrev Flds := List (Str × PyData)
noncomputable def FlOk (c : Cx) (tb : Option (Addr × Value)) : Prop := match tb with
 | none => True
 | some (_, fl) => fl = .none ∨ ∃ L, c.env.frame = some L ∧ fl = rawInt L
noncomputable def EPost (X : Flds → List (Option AV) → Prop) (c : Cx) (st : St) (s : Shared) (ev : Value) (s' : Shared) : Prop :=
 ∃ e dx fs tb loc, ev = .ref e ∧ X fs loc ∧ FlOk c tb ∧ Rel c ⟨loc, [(e, .inst dx fs tb)]⟩ s' ∧ Tr c st s ⟨loc, [(e, .inst dx fs tb)]⟩ s'
theorem Post.lift {α β : Type} {R : Heap → β → α → Prop} {Q : β → St → Prop} {c : Cx} {st st1 : St} {s s1 : Shared} (x : Tr c st s st1 s1) {a : α} {s' : Shared} (p : Post R Q c st1 s1 a s') : Post R Q c st s a s' :=
 let ⟨b, st', q, r, t, v⟩ := p; ⟨b, st', q, r, x.trans t, v⟩
theorem EPost.lift {X : Flds → List (Option AV) → Prop} {c : Cx} {st st1 : St} {s s1 : Shared} (x : Tr c st s st1 s1) {a : Value} {s' : Shared} (p : EPost X c st1 s1 a s') : EPost X c st s a s' :=
 let ⟨e, dx, fs, tb, loc, h1, h2, h3, h4, h5⟩ := p; ⟨e, dx, fs, tb, loc, h1, h2, h3, h4, x.trans h5⟩
noncomputable def T {α β : Type} (R : Heap → β → α → Prop) (c : Cx) (st : St) (t : Sem α) (Q : β → St → Prop) (X : Flds → List (Option AV) → Prop) : Prop :=
 ∀ s, Rel c st s → wpAny c.M c.A t (Post R Q c st s) (EPost X c st s) s
inductive AF where
 | next | brk | cont
 | ret (a : AV)
noncomputable def RF (G : Heap) : AF → Flow → Prop
 | .next, f => f = .next
 | .brk, f => f = .brk
 | .cont, f => f = .cont
 | .ret a, f => ∃ v, f = .ret v ∧ RV G a v
noncomputable def RB (_ : Heap) (b : Bool) (a : Bool) : Prop := a = b
theorem RF.keeps {G G' : Heap} (k : G.StaysIn G') : ∀ {a : AF} {v : Flow}, RF G a v → RF G' a v
 | .next, _, e | .brk, _, e | .cont, _, e => e
 | .ret _, _, ⟨v, e, r⟩ => ⟨v, e, r.keeps k⟩
noncomputable abbrev TE (c : Cx) (st : St) (e : Expr) (Q : AV → St → Prop) (X : Flds → List (Option AV) → Prop) : Prop := T RV c st (eval e c.env) Q X
noncomputable abbrev TB (c : Cx) (st : St) (e : Expr) (Q : Bool → St → Prop) (X : Flds → List (Option AV) → Prop) : Prop := T RB c st (isTrue e c.env (eval e c.env)) Q X
noncomputable abbrev TS (c : Cx) (st : St) (e : Stmt) (Q : AF → St → Prop) (X : Flds → List (Option AV) → Prop) : Prop := T RF c st (exec e c.env) Q X
noncomputable abbrev TL (c : Cx) (st : St) (e : List Stmt) (Q : AF → St → Prop) (X : Flds → List (Option AV) → Prop) : Prop := T RF c st (execs e c.env) Q X
theorem T.conseq {α β : Type} {R : Heap → β → α → Prop} {c : Cx} {st : St} {t : Sem α} {Q Q' : β → St → Prop} {X X' : Flds → List (Option AV) → Prop} (h : T R c st t Q X)
  (hQ : ∀ b st', Q b st' → Q' b st') (hX : ∀ f l, X f l → X' f l) : T R c st t Q' X' := fun s r =>
 wpAny_mono (h s r) (fun _ _ zm3 => o21 zm3 fun b st' q x => ⟨b, st', hQ _ _ q, x⟩) fun _ _ zm2 => o52 zm2 fun e dx fs tb loc h1 h2 x => ⟨e, dx, fs, tb, loc, h1, hX _ _ h2, x⟩
theorem T.bind {α α' β β' : Type} {R : Heap → β → α → Prop} {R' : Heap → β' → α' → Prop} {c : Cx} {st : St} {t : Sem α} {f : α → Sem α'} {Q : β → St → Prop} {Q' : β' → St → Prop} {X : Flds → List (Option AV) → Prop}
  (h : T R c st t Q X) (k : ∀ a b st1 s1, Q b st1 → Rel c st1 s1 → R (fz c st1 s1.heap) b a → wpAny c.M c.A (f a) (Post R' Q' c st1 s1) (EPost X c st1 s1) s1) : T R' c st (t >>= f) Q' X := fun s r =>
 wpAny_bind (wpAny_mono (h s r) (fun a s1 zm1 => o23 zm1 fun b st1 q r1 t1 v => wpAny_mono (k a b st1 s1 q r1 v) (fun _ _ p => p.lift t1) fun _ _ p => p.lift t1) fun _ _ p => p)
theorem T.then {α β : Type} {R : Heap → β → α → Prop} {c : Cx} {st st0 : St} {t : Sem α} {Q : β → St → Prop} {X : Flds → List (Option AV) → Prop} {W : α → Shared → Prop} {s s0 : Shared}
  (h : T R c st t Q X) (r : Rel c st s) (t0 : Tr c st0 s0 st s) (k : ∀ a b st1 s1, Q b st1 → Rel c st1 s1 → R (fz c st1 s1.heap) b a → Tr c st s st1 s1 → W a s1) : wpAny c.M c.A t W (EPost X c st0 s0) s :=
 wpAny_mono (h s r) (fun a s1 zm0 => o23 zm0 fun b st1 q r1 t1 v => k a b st1 s1 q r1 v t1) fun _ _ p => p.lift t0
theorem T.last {α β : Type} {R : Heap → β → α → Prop} {c : Cx} {st st0 : St} {t : Sem α} {Q : β → St → Prop} {X : Flds → List (Option AV) → Prop} {s s0 : Shared}
  (h : T R c st t Q X) (r : Rel c st s) (t0 : Tr c st0 s0 st s) : wpAny c.M c.A t (Post R Q c st0 s0) (EPost X c st0 s0) s :=
 wpAny_mono (h s r) (fun _ _ p => p.lift t0) fun _ _ p => p.lift t0
structure Gr (s s' : Shared) : Prop where
 keep : s.heap.StaysIn s'.heap
 rest : s'.gens = s.gens ∧ s'.os = s.os
theorem Gr.refl (s : Shared) : Gr s s := ⟨fun _ _ e => e, rfl, rfl⟩
theorem Gr.alive {s s' : Shared} (g : Gr s s') (a : Addr) (h : (s.heap.get? a).isSome = true) : (s'.heap.get? a).isSome = true := by
 refine o10 (Option.isSome_iff_exists.mp h) fun o ho => ?_
 rw [g.keep a o ho]; rfl
theorem Gr.trans {s s1 s2 : Shared} (x : Gr s s1) (y : Gr s1 s2) : Gr s s2 := ⟨fun b o e => y.keep b o (x.keep b o e), y.rest.1.trans x.rest.1, y.rest.2.trans x.rest.2⟩
theorem Gr.toks (s : Shared) (k : Nat) : Gr s { s with toks := k } := ⟨fun _ _ e => e, rfl, rfl⟩
theorem Gr.push (s : Shared) (o : Obj) : Gr s { s with heap := s.heap.push o } := ⟨fun _ _ e => Heap.get?_push_of_some _ e, rfl, rfl⟩
theorem Gr.fz {c : Cx} {st : St} {s s' : Shared} (g : Gr s s') : (Mine.fz c st s.heap).StaysIn (Mine.fz c st s'.heap) := fun b o e => by
 refine o01 (fz_iff.mp e) fun e h => ?_
 exact fz_iff.mpr ⟨g.keep b o e, h⟩
theorem NameIs.keeps {env : Env} {h h' : Heap} (k : h.StaysIn h') {x : Str} {v : Value} (n : NameIs env h x v) : NameIs env h' x v := by
 rcases n with ⟨a, m, b, e⟩ | ⟨a, ca, b, e⟩
 ·exact .inl ⟨a, m, b.keeps k, e⟩
 ·exact .inr ⟨a, ca, b, e.keeps k⟩
theorem MutRel.lift {P : Params} {G G' h h' : Heap} (k : G.StaysIn G') {a : Addr} : ∀ {o : AO}, (∀ b ∈ o.addrs a, ∀ x, h.get? b = some x → h'.get? b = some x) → MutRel P G h a o → MutRel P G' h' a o
 | .list _, k', ⟨vs, n, e, r, l⟩ => ⟨vs, n, k' _ (.head _) _ e, r.keeps k, l⟩
 | .dict _, k', ⟨ne, es, n, e, r, l⟩ => ⟨ne, es, n, k' _ (.head _) _ e, r.keeps k, l⟩
 | .raw, k', ⟨vs, e, r⟩ => ⟨vs, k' _ (.head _) _ e, r⟩
 | .inst dx _ none, k', ⟨ne, ⟨vs, e, r⟩, ⟨od, e', r'⟩, q⟩ => ⟨ne, (i11 vs (k' _ (.head _) _ e) r), (i11 od (k' _ (.tail _ (.head _)) _ e') (r'.keeps k)), q⟩
 | .inst dx _ (some (T, fl)), k', ⟨ne, ⟨vs, e, r⟩, ⟨od, e', r'⟩, q1, q2, ts, sl, cl, d, e'', q⟩ =>
  ⟨ne, (i11 vs (k' _ (.head _) _ e) r), (i11 od (k' _ (.tail _ (.head _)) _ e') (r'.keeps k)), q1, q2, ts, sl, cl, d, k' _ (.tail _ (.tail _ (.head _))) _ e'', q⟩
theorem Rel.gr {c : Cx} {st : St} {s s' : Shared} (r : Rel c st s) (g : Gr s s') : Rel c st s' where
 ok := r.ok
 stay b o e := g.keep b o (r.stay b o e)
 ff := r.ff.of_keeps fun b o e _ => i11 o (g.keep b o e) rfl
 live a h := g.alive a (r.live a h)
 ns := let ⟨m, h⟩ := r.ns; ⟨m, h.keeps g.keep⟩
 cells x ca h := let ⟨v, q⟩ := r.cells x ca h; ⟨v, q.keeps g.keep⟩
 names i x a h1 h2 := let ⟨v, n, q⟩ := r.names i x a h1 h2; (i11 v (n.keeps g.keep) (q.keeps g.fz))
 muts p hp := (r.muts p hp).lift g.fz fun b _ x e => g.keep b x e
 nodup := r.nodup
 apart a ha := let ⟨h1, h2, h3, h4, h5⟩ := r.apart a ha; ⟨h1, h2, h3, h4, by
  refine o10 (Option.isSome_iff_exists.mp h5) fun o ho => ?_
  rw [g.keep a o ho]; rfl⟩
theorem Tr.gr {c : Cx} {st : St} {s s' : Shared} (g : Gr s s') : Tr c st s st s' := ⟨fun b o e _ _ _ => g.keep b o e, fun b o e _ => ⟨o.slots, g.keep b o e⟩, fun _ h => .inl h, g.alive, g.rest⟩
theorem Post.gr {α β : Type} {R : Heap → β → α → Prop} {Q : β → St → Prop} {c : Cx} {st : St} {s s' : Shared} {a : α} {b : β} (r : Rel c st s) (g : Gr s s') (q : Q b st) (h : R (fz c st s'.heap) b a) : Post R Q c st s a s' :=
 ⟨b, st, q, r.gr g, .gr g, h⟩
theorem Post.here {α β : Type} {R : Heap → β → α → Prop} {Q : β → St → Prop} {c : Cx} {st : St} {s : Shared} {a : α} {b : β} (r : Rel c st s) (q : Q b st) (h : R (fz c st s.heap) b a) : Post R Q c st s a s :=
 .gr r (.refl s) q h
end
section
inductive NameAt : List Str → List (Option AV) → Str → AV → Prop
 | here {x xs a l} : NameAt (x :: xs) (some a :: l) x a
 | there {x y xs b a l} : NameAt xs l x a → NameAt (y :: xs) (b :: l) x a
inductive StoreAt : List Str → List (Option AV) → Str → AV → List (Option AV) → Prop
 | here {x xs b a l} : StoreAt (x :: xs) (b :: l) x a (some a :: l)
 | there {x y xs b a l l'} : StoreAt xs l x a l' → StoreAt (y :: xs) (b :: l) x a (b :: l')
theorem NameAt.idx {vs : List Str} {l : List (Option AV)} {x : Str} {a : AV} (h : NameAt vs l x a) : ∃ i : Nat, vs[i]? = some x ∧ l[i]? = some (some a) := by
 induction h with
 | here => exact i11 0 rfl rfl
 | there _ ih => refine o11 ih fun i h1 h2 => ?_; try clear ih; exact i11 (i + 1) (by simpa using h1) (by simpa using h2)
theorem StoreAt.idx {vs : List Str} {l l' : List (Option AV)} {x : Str} {a : AV} (h : StoreAt vs l x a l') : ∃ i : Nat, vs[i]? = some x ∧ l' = l.set i (some a) ∧ i < l.length := by
 induction h with
 | here => exact i12 0 rfl rfl (by simp)
 | there _ ih => refine o12 ih fun i h1 h2 h3 => ?_; try clear ih; exact i12 (i + 1) (by simpa using h1) (by simp [h2]) (by simpa using h3)
section
variable {c : Cx} {st : St} {X : Flds → List (Option AV) → Prop} {pos pos' : Pos} {k : Nat}
theorem wp_name {s : Shared} {x : Str} {v : Value} {W : Value → Shared → Prop} {E : Value → Shared → Prop} (r : Rel c st s) (n : NameIs c.env s.heap x v) (h : W v s) (hc : x ≠ "__classdict__") : wpAny c.M c.A (loadName c.env x) W E s := by
 rcases n with ⟨a, m, b, e⟩ | ⟨a | a, ca, b, e⟩
 ·exact wpAny_loadName_local r.ok.fn a b e h
 ·exact wpAny_loadName_cell r.ok.fn a b e h
 ·exact wpAny_loadName_free r.ok.fn a b e h (by simpa using hc)
theorem Rel.name {s : Shared} (r : Rel c st s) {x : Str} {a : AV} (hl : NameAt c.vars st.loc x a) : ∃ v, NameIs c.env s.heap x v ∧ RV (fz c st s.heap) a v ∧ x ≠ "__debug__" ∧ x ≠ "__classdict__" := by
 refine o11 hl.idx fun i h1 h2 => ?_
 refine o11 (r.names i x a h1 h2) fun v n q => ?_
 have k := r.ok.kinds x (List.mem_of_getElem? h1)
 exact i13 v n q (fun e => by rw [e, r.ok.dbg.1] at k; simp at k) (fun e => by rw [e, r.ok.dbg.2] at k; simp at k)
theorem TE_name {x : Str} {a : AV} {Q : AV → St → Prop} (hl : NameAt c.vars st.loc x a) (h : Q a st) : TE c st (.Name x pos) Q X := fun s r => by
 refine o13 (r.name hl) fun v n q ne ne' => ?_
 exact wpAny_Name (wp_name r n (.here r h q) ne') (by simpa using ne)
theorem TE_glob {x : Str} {v : Value} {Q : AV → St → Prop} (hl : (x, v) ∈ c.globs) (h : Q (.v v) st) : TE c st (.Name x pos) Q X := fun s r => by
 refine o01 (r.ok.globs _ hl) fun hk hg => ?_
 have ne : x ≠ "__debug__" := fun e => by rw [e, r.ok.dbg.1] at hk; cases hk
 refine Name_function_global r.ok.fn hk ?_ (by simpa using ne)
 rcases hg with ⟨mg, a, b⟩ | ⟨mg, mb, a, b, d, e⟩
 ·exact loadGlobal_global (r.ok.glob.1 ▸ a.keeps r.stay) b (.here r h rfl)
 ·exact loadGlobal_builtin (r.ok.glob.1 ▸ a.keeps r.stay) b (r.ok.glob.2 ▸ d.keeps r.stay) e (.here r h rfl)
theorem RD.int {G : Heap} {i : Int} {v : Value} (r : RD G (.int i) v) : ∃ t, v = .int i t := by refine o10 r fun as _ => ?_; clear r; rename_i r; cases r; exact ⟨_, rfl⟩
theorem RD.str {G : Heap} {i : Str} {v : Value} (r : RD G (.str i) v) : ∃ t, v = .str i t := by refine o10 r fun as _ => ?_; clear r; rename_i r; cases r; exact ⟨_, rfl⟩
theorem RD.bool {G : Heap} {i : Bool} {v : Value} (r : RD G (.bool i) v) : v = .bool i := by refine o10 r fun as _ => ?_; clear r; rename_i r; cases r; rfl
theorem RD.none {G : Heap} {v : Value} (r : RD G .none v) : v = .none := by refine o10 r fun as _ => ?_; clear r; rename_i r; cases r; rfl
theorem RD.of_int {G : Heap} {i : Int} {t : Tok} : RD G (.int i) (.int i t) := ⟨_, .int _ _⟩
theorem RD.of_str {G : Heap} {i : Str} {t : Tok} : RD G (.str i) (.str i t) := ⟨_, .str _ _⟩
theorem RD.of_bool {G : Heap} {i : Bool} : RD G (.bool i) (.bool i) := ⟨_, .bool _⟩
theorem RD.of_none {G : Heap} : RD G .none .none := ⟨_, .none⟩
theorem RD.list {G : Heap} {xs : List PyData} {v : Value} (r : RD G (.list xs) v) : ∃ a o vs n, v = .ref a ∧ G.get? a = some o ∧ o.cls = .type "list" ∧ o.data = .seq vs n ∧ RDs G xs vs.toList := by
 refine o10 r fun as _ => ?_
 clear r
 rename_i r; cases r with | list h1 h2 h3 h4 => exact i44 _ _ _ _ rfl h1 h2 h3 ⟨_, h4⟩
theorem RD.tuple {G : Heap} {xs : List PyData} {v : Value} (r : RD G (.tuple xs) v) : ∃ a o vs n, v = .ref a ∧ G.get? a = some o ∧ o.cls = .type "tuple" ∧ o.data = .seq vs n ∧ RDs G xs vs.toList := by
 refine o10 r fun as _ => ?_
 clear r
 rename_i r; cases r with | tuple h1 h2 h3 h4 => exact i44 _ _ _ _ rfl h1 h2 h3 ⟨_, h4⟩
theorem RD.of_list {G : Heap} {xs : List PyData} {a : Addr} {o : Obj} {vs : Array Value} {n : Nat} (h1 : G.get? a = some o) (h2 : o.cls = .type "list") (h3 : o.data = .seq vs n) (h4 : RDs G xs vs.toList) : RD G (.list xs) (.ref a) :=
 let ⟨_, r⟩ := h4; ⟨_, .list h1 h2 h3 r⟩
theorem RD.of_tuple {G : Heap} {xs : List PyData} {a : Addr} {o : Obj} {vs : Array Value} {n : Nat} (h1 : G.get? a = some o) (h2 : o.cls = .type "tuple") (h3 : o.data = .seq vs n) (h4 : RDs G xs vs.toList) : RD G (.tuple xs) (.ref a) :=
 let ⟨_, r⟩ := h4; ⟨_, .tuple h1 h2 h3 r⟩
theorem TE_int {i : Int} {Q : AV → St → Prop} (h : Q (.d (.int i)) st) : TE c st (.Constant (.int i) k pos) Q X := fun s r => wpAny_Constant_int (.gr r (.toks _ _) h .of_int)
theorem TE_str {x : Str} {Q : AV → St → Prop} (h : Q (.d (.str x)) st) : TE c st (.Constant (.str x) k pos) Q X := fun s r => Constant_str (.gr r (.toks _ _) h .of_str)
theorem TE_bool {x : Bool} {Q : AV → St → Prop} (h : Q (.d (.bool x)) st) : TE c st (.Constant (.bool x) k pos) Q X := fun s r => Constant_bool (.here r h .of_bool)
theorem TE_none {Q : AV → St → Prop} (h : Q (.d .none) st) : TE c st (.Constant .none k pos) Q X := fun s r => Constant_none (.here r h .of_none)
structure GOp (c : Cx) (st : St) (s : Shared) (t : Sem Value) (K : AV → Prop) : Prop where
 out : wpAny c.M c.A t (fun v s' => ∃ z, K z ∧ Gr s s' ∧ RV (fz c st s'.heap) z v) (fun _ _ => False) s
theorem GOp.post {s s0 : Shared} {st0 : St} {t : Sem Value} {K : AV → Prop} {Q : AV → St → Prop} {E : Value → Shared → Prop} (h : GOp c st s t K) (r : Rel c st s) (t0 : Tr c st0 s0 st s) (hk : ∀ z, K z → Q z st) : wpAny c.M c.A t (Post RV Q c st0 s0) E s :=
 wpAny_mono h.out (fun _ _ zm6 => o12 zm6 fun z a g q => (Post.gr r g (hk z a) q).lift t0) fun _ _ x => x.elim
noncomputable def Un (op : UnaryOp) (x : AV) (K : AV → Prop) : Prop := ∀ c st s v, Rel c st s → RV (fz c st s.heap) x v → GOp c st s (unaryOp op v) K
noncomputable def Bin (op : Operator) (x y : AV) (K : AV → Prop) : Prop := ∀ c st s v w, Rel c st s → RV (fz c st s.heap) x v → RV (fz c st s.heap) y w → GOp c st s (binaryOp op v w) K
noncomputable def IBin (op : Operator) (x y : AV) (K : AV → Prop) : Prop := ∀ c st s v w, Rel c st s → RV (fz c st s.heap) x v → RV (fz c st s.heap) y w → GOp c st s (inplaceOp op v w) K
structure Cmp (st : St) (op : CmpOp) (x y : AV) (b : Bool) : Prop where
 run : ∀ c s v w, Rel c st s → RV (fz c st s.heap) x v → RV (fz c st s.heap) y w → GOp c st s (compareOp op v w) (fun z => z = .d (.bool b))
structure Tru (x : AV) (b : Bool) : Prop where
 run : ∀ c st s v, Rel c st s → RV (fz c st s.heap) x v → wpAny c.M c.A (truthy v) (fun a s' => a = b ∧ Gr s s') (fun _ _ => False) s
theorem TE_bin {op : Operator} {l r : Expr} {Q : AV → St → Prop} (h : TE c st l (fun x st1 => TE c st1 r (fun y st2 => Bin op x y fun z => Q z st2) X) X) : TE c st (.BinOp l op r pos) Q X := fun s hs =>
 wpAny_BinOp (h.then hs (.refl ..) fun va x st1 s1 h1 r1 v1 t1 => h1.then r1 t1 fun vb y st2 s2 h2 r2 v2 t2 => (h2 c st2 s2 va vb r2 (v1.keeps t2.fz) v2).post r2 (t1.trans t2) fun z q => q)
theorem TE_un {op : UnaryOp} {e : Expr} {Q : AV → St → Prop} (h : TE c st e (fun x st1 => Un op x fun z => Q z st1) X) : TE c st (.UnaryOp op e pos) Q X := fun s hs =>
 wpAny_UnaryOp (h.then hs (.refl ..) fun va x st1 s1 h1 r1 v1 t1 => (h1 c st1 s1 va r1 v1).post r1 t1 fun z q => q)
theorem TE_cmp {op : CmpOp} {l r : Expr} {Q : AV → St → Prop} (h : TE c st l (fun x st1 => TE c st1 r (fun y st2 => ∃ b, Cmp st2 op x y b ∧ Q (.d (.bool b)) st2) X) X) (hm : behindInMarks op r = false) : TE c st (.Compare l [op] [r] pos) Q X := fun s hs =>
 wpAny_Compare1 (h.then hs (.refl ..) fun va x st1 s1 h1 r1 v1 t1 => h1.then r1 t1 fun vb y st2 s2 zm5 r2 v2 t2 => o11 zm5 fun b h2 h3 => (h2.run c s2 va vb r2 (v1.keeps t2.fz) v2).post r2 (t1.trans t2) fun z q => q ▸ h3) hm
theorem truth {s s0 : Shared} {st0 : St} {v : Value} {x : AV} {b : Bool} {Q : Bool → St → Prop} {E : Value → Shared → Prop} (h : Tru x b) (r : Rel c st s) (hv : RV (fz c st s.heap) x v) (t0 : Tr c st0 s0 st s) (hk : Q b st) : wpAny c.M c.A (truthy v) (Post RB Q c st0 s0) E s :=
 wpAny_mono (h.run c st s v r hv) (fun _ _ zm4 => o01 zm4 fun e g => (Post.gr (R := RB) r g hk e).lift t0) fun _ _ x => x.elim
theorem Tru.bool {b : Bool} : Tru (.d (.bool b)) b := ⟨fun c st s v r hv => by rw [hv.bool]; exact wpAny_truthy_bool ⟨rfl, .refl _⟩⟩
theorem TB_cmp {op : CmpOp} {l r : Expr} {Q : Bool → St → Prop} (h : TE c st l (fun x st1 => TE c st1 r (fun y st2 => ∃ b, Cmp st2 op x y b ∧ Q b st2) X) X) (hm : behindInMarks op r = false) : TB c st (.Compare l [op] [r] pos) Q X := fun s hs =>
 wpAny_isTrue_Compare1 (h.then hs (.refl ..) fun va x st1 s1 h1 r1 v1 t1 => h1.then r1 t1 fun vb y st2 s2 ⟨b, h2, h3⟩ r2 v2 t2 =>
  wpAny_mono (h2.run c s2 va vb r2 (v1.keeps t2.fz) v2).out (fun v s' zm3 => o12 zm3 fun z e g q => by subst e; exact truth Tru.bool (r2.gr g) q ((t1.trans t2).trans (.gr g)) h3) fun _ _ x => x.elim) hm
theorem TB_not {e : Expr} {Q : Bool → St → Prop} (h : TB c st e (fun b st1 => Q (!b) st1) X) : TB c st (.UnaryOp .Not e pos) Q X := fun s hs =>
 isTrue_not (h.then hs (.refl ..) fun a b st1 s1 h1 r1 v1 t1 => by rw [show a = b from v1]; exact (Post.here (R := RB) r1 h1 rfl).lift t1)
theorem TB_and {e : Expr} {es : List Expr} {Q : Bool → St → Prop} (h : TB c st e (fun b st1 => if b then TB c st1 (.BoolOp .And es pos) Q X else Q false st1) X) : TB c st (.BoolOp .And (e :: es) pos) Q X := fun s hs =>
 isTrue_and (h.then hs (.refl ..) fun a b st1 s1 h1 r1 v1 t1 => by
  obtain rfl : a = b := v1
  cases a
  ·exact (Post.here (R := RB) r1 h1 rfl).lift t1
  ·exact T.last h1 r1 t1)
theorem TB_or {e : Expr} {es : List Expr} {Q : Bool → St → Prop} (h : TB c st e (fun b st1 => if b then Q true st1 else TB c st1 (.BoolOp .Or es pos) Q X) X) : TB c st (.BoolOp .Or (e :: es) pos) Q X := fun s hs =>
 isTrue_or (h.then hs (.refl ..) fun a b st1 s1 h1 r1 v1 t1 => by
  obtain rfl : a = b := v1
  cases a
  ·exact T.last h1 r1 t1
  ·exact (Post.here (R := RB) r1 h1 rfl).lift t1)
theorem TB_and_nil {Q : Bool → St → Prop} (h : Q true st) : TB c st (.BoolOp .And [] pos) Q X := fun s hs => isTrue_and_nil (.here hs h rfl)
theorem TB_or_nil {Q : Bool → St → Prop} (h : Q false st) : TB c st (.BoolOp .Or [] pos) Q X := fun s hs => isTrue_or_nil (.here hs h rfl)
theorem TB_plain {e : Expr} {Q : Bool → St → Prop} (h : TE c st e (fun x st1 => ∃ b, Tru x b ∧ Q b st1) X) (he : isTrue e c.env (eval e c.env) = (do let v ← eval e c.env; standAt e.pos; holding [v] (truthy v))) : TB c st e Q X := fun s hs =>
 isTrue_plain (h.then hs (.refl ..) fun v x st1 s1 zm2 r1 v1 t1 => o11 zm2 fun b h1 h2 => truth h1 r1 v1 t1 h2) he
theorem TE_ifexp {t a b : Expr} {Q : AV → St → Prop} (h : TB c st t (fun z st1 => if z then TE c st1 a Q X else TE c st1 b Q X) X) : TE c st (.IfExp t a b pos) Q X := fun s hs =>
 IfExp_ (h.then hs (.refl ..) fun u z st1 s1 h1 r1 v1 t1 => by
  obtain rfl : u = z := v1
  cases u <;> exact T.last h1 r1 t1)
theorem TE_and {e₁ e₂ : Expr} {es : List Expr} {Q : AV → St → Prop} (h : TE c st e₁ (fun x st1 => ∃ b, Tru x b ∧ if b then TE c st1 (.BoolOp .And (e₂ :: es) pos) Q X else Q x st1) X) : TE c st (.BoolOp .And (e₁ :: e₂ :: es) pos) Q X := fun s hs =>
 BoolOp_and (h.then hs (.refl ..) fun v x st1 s1 zm1 r1 v1 t1 => o11 zm1 fun b h1 h2 => wpAny_mono (h1.run c st1 s1 v r1 v1) (fun a s' zm0 => o01 zm0 fun e g => by
  subst e
  cases a
  ·exact (Post.gr r1 g h2 (v1.keeps g.fz)).lift t1
  ·exact T.last h2 (r1.gr g) (t1.trans (.gr g))) fun _ _ x => x.elim)
theorem TE_and_one {e : Expr} {Q : AV → St → Prop} {op : BoolOp} (h : TE c st e Q X) : TE c st (.BoolOp op [e] pos) Q X := h
theorem TL_nil {Q : AF → St → Prop} (h : Q .next st) : TL c st [] Q X := fun s hs => wpAny_execs_nil (.here (R := RF) hs h rfl)
theorem TL_cons {x : Stmt} {xs : List Stmt} {Q : AF → St → Prop} (h : TS c st x (fun f st1 => match f with | .next => TL c st1 xs Q X | f => Q f st1) X) : TL c st (x :: xs) Q X := fun s hs =>
 wpAny_execs_cons (h.then hs (.refl ..) fun v f st1 s1 h1 r1 v1 t1 => by
  cases f with
  | next => obtain rfl : v = .next := v1; exact T.last h1 r1 t1
  | brk => obtain rfl : v = .brk := v1; exact (Post.here (R := RF) r1 h1 rfl).lift t1
  | cont => obtain rfl : v = .cont := v1; exact (Post.here (R := RF) r1 h1 rfl).lift t1
  | ret a => obtain ⟨w, rfl, q⟩ : ∃ w, v = .ret w ∧ RV _ a w := v1; exact (Post.here (R := RF) r1 h1 ⟨w, rfl, q⟩).lift t1)
theorem TS_if {t : Expr} {a b : List Stmt} {Q : AF → St → Prop} (h : TB c st t (fun z st1 => if z then TL c st1 a Q X else TL c st1 b Q X) X) : TS c st (.If t a b pos) Q X := fun s hs =>
 wpAny_If (h.then hs (.refl ..) fun u z st1 s1 h1 r1 v1 t1 => by
  obtain rfl : u = z := v1
  cases u <;> exact T.last h1 r1 t1)
theorem TS_ret {e : Expr} {Q : AF → St → Prop} (h : TE c st e (fun x st1 => Q (.ret x) st1) X) : TS c st (.Return (some e) pos) Q X := fun s hs =>
 wpAny_Return_some (h.then hs (.refl ..) fun v x st1 s1 h1 r1 v1 t1 => (Post.here (R := RF) r1 h1 ⟨v, rfl, v1⟩).lift t1)
theorem TS_break {Q : AF → St → Prop} (h : Q .brk st) : TS c st (.Break pos) Q X := fun s hs => wpAny_Break (.here (R := RF) hs h rfl)
end
end
section
theorem Ns.unique {h : Heap} {a : Addr} {m m' : Str → Option Value} (x : h.Ns a m) (y : h.Ns a m') : m = m' := by
 refine o33 x fun o es ep ho hd _ hf => ?_
 try clear x
 refine o33 y fun o' es' ep' ho' hd' _ hf' => ?_
 try clear y
 rw [ho] at ho'; cases ho'
 rw [hd] at hd'; cases hd'
 funext n
 rw [← hf n, hf' n]
theorem FunFrames.mono {h h' base : Heap} {l : List Env} (hl : h.FunFrames base l) (k : ∀ b o, base.get? b = none → h.get? b = some o → (∀ vs, o.data ≠ .fields vs) → ∃ o', h'.get? b = some o' ∧ ∀ vs, o'.data ≠ .fields vs) : h'.FunFrames base l := by
 induction l with
 | nil => trivial
 | cons env rest ih =>
  refine o02 hl fun hk zz1 hr => ?_
  try clear hl
  refine o23 zz1 fun L o hf hn ho hd => ?_
  clear zz1
  refine o11 (k L o hn ho hd) fun o' ho' hd' => ?_
  exact ⟨hk, (i23 L o' hf hn ho' hd'), ih hr⟩
theorem isCell_ne_ns {h : Heap} {a : Addr} {m : Str → Option Value} {v : Option Value} (x : h.Ns a m) (y : h.IsCell a v) : False := by
 refine o32 x fun o es ep ho hd _ => ?_
 try clear x
 refine o11 y fun o' ho' hd' => ?_
 try clear y
 rw [ho] at ho'; cases ho'
 rw [hd] at hd'; cases hd'
section
variable {c : Cx} {st : St} {X : Flds → List (Option AV) → Prop} {pos pos' : Pos} {k : Nat}
theorem Rel.own {s : Shared} {h' : Heap} {tk : Nat} {b : Addr} (r : Rel c st s) (hb : b ∈ c.own) (hs : Heap.SameBut b s.heap h') (hnf : ∃ o, h'.get? b = some o ∧ ∀ vs, o.data ≠ .fields vs)
  (hns : ∃ m, h'.Ns c.env.locals m) (hcells : ∀ x ca, c.env.cells.lookup x = some ca → ∃ v, h'.IsCell ca v) {loc' : List (Option AV)}
  (hn : ∀ (i : Nat) x a, c.vars[i]? = some x → loc'[i]? = some (some a) → ∃ v, NameIs c.env h' x v ∧ RV (fz c st s.heap) a v) :
  Rel c ⟨loc', st.mu⟩ { s with heap := h', toks := tk } ∧ Tr c st s ⟨loc', st.mu⟩ { s with heap := h', toks := tk } := by
 have ob := r.ok.ownBase b hb
 have oc := r.ok.ownCtl b hb
 have same : ∀ x, x ≠ b → h'.get? x = s.heap.get? x := fun x h => hs.2 x h
 have alive : ∀ a, (s.heap.get? a).isSome = true → (h'.get? a).isSome = true := fun a h => by
  by_cases q : a = b
  ·refine o11 hnf fun o ho _ => ?_
   try clear hnf
   rw [q, ho]; rfl
  ·rw [same a q]; exact h
 have fzs : (fz c st s.heap).StaysIn (fz c ⟨loc', st.mu⟩ h') := fun x o e => by
  refine o02 (fz_iff.mp e) fun e h1 h2 => ?_
  exact fz_iff.mpr (i02 ((same x fun q => h1 (q ▸ hb)).trans e) h1 h2)
 refine ⟨⟨r.ok, fun x o e => (same x fun q => by rw [q, ob] at e; cases e).trans (r.stay x o e), FunFrames.mono r.ff fun x o _ e hd => ?_, fun a h => alive a (r.live a h), hns, hcells, fun i x a h1 h2 => ?_, fun p hp => ?_, r.nodup, fun a ha => ?_⟩, ?_⟩
 ·by_cases q : x = b
  ·exact q ▸ hnf
  ·exact i11 o ((same x q).trans e) hd
 ·refine o11 (hn i x a h1 h2) fun v n q => ?_
  exact i11 v n (q.keeps fzs)
 ·exact (r.muts p hp).lift fzs fun x hx o e => (same x fun q => (r.apart x (List.mem_flatMap.mpr (i11 p hp hx))).1 (q ▸ hb)).trans e
 ·refine o04 (r.apart a ha) fun h1 h2 h3 h4 h5 => ?_
  exact i04 h1 h2 h3 h4 (by show (h'.get? a).isSome = true; rw [same a fun q => h1 (q ▸ hb)]; exact h5)
 ·exact ⟨fun x o e h1 _ _ => (same x fun q => h1 (q ▸ hb)).trans e, fun x o e hx => ⟨o.slots, (same x fun q => oc.1 (q ▸ hx)).trans e⟩, fun a h => .inl h, alive, rfl, rfl⟩
theorem wp_store {s : Shared} {x : Str} {a : AV} {v : Value} {loc' : List (Option AV)} {W : Unit → Shared → Prop} {E : Value → Shared → Prop} (r : Rel c st s) (hl : StoreAt c.vars st.loc x a loc') (hv : RV (fz c st s.heap) a v) (hfr : c.fr = [])
  (h : ∀ s', Rel c ⟨loc', st.mu⟩ s' → Tr c st s ⟨loc', st.mu⟩ s' → W () s') : wpAny c.M c.A (storeName c.env x v) W E s := by
 refine o12 hl.idx fun i hi zz1 hlt => ?_
 subst zz1
 have kx := r.ok.kinds x (List.mem_of_getElem? hi)
 have uniq : ∀ (j : Nat) y, c.vars[j]? = some y → j ≠ i → y ≠ x := fun j y hj hne q => by
  subst q
  exact hne ((List.getElem?_inj (List.getElem?_eq_some_iff.mp hj).1 r.ok.nodup).mp (hj.trans hi.symm))
 refine o10 r.ns fun m hm => ?_
 rcases kx with kl | kc | ⟨_, kf⟩
 ·refine wpAny_storeName_local kl hm (fun h' hn hs => ?_) (by rw [r.ok.fn]; rfl)
  have := r.own (tk := s.toks + 1) (loc' := st.loc.set i (some a)) r.ok.loc hs (by refine o32 hn fun o es ep ho hd _ => ?_; try clear hn; exact i11 o ho (fun vs q => by rw [hd] at q; cases q)) ⟨_, hn⟩
   (fun y ca hy => let ⟨u, q⟩ := r.cells y ca hy; ⟨u, q.sameBut hs (r.ok.cellNe y ca hy)⟩) fun j y b hj hb => by
    by_cases e : j = i
    ·subst e
     rw [hi] at hj; cases hj
     rw [List.getElem?_set_self hlt] at hb
     cases hb
     exact i11 v (.inl ⟨kl, _, hn, by simp⟩) hv
    ·rw [List.getElem?_set_ne (Ne.symm e)] at hb
     refine o11 (r.names j y b hj hb) fun u n q => ?_
     refine i11 u ?_ q
     rcases n with ⟨n1, m', n2, n3⟩ | ⟨n1, ca, n2, n3⟩
     ·refine .inl ⟨n1, _, hn, ?_⟩
      show (if y = x then some v else m y) = some u
      rw [if_neg (uniq j y hj e), Ns.unique hm n2]; exact n3
     ·exact .inr ⟨n1, ca, n2, n3.sameBut hs (r.ok.cellNe y ca n2)⟩
  exact h _ this.1 this.2
 ·refine o10 (Option.isSome_iff_exists.mp (r.ok.cellsAt x (List.mem_of_getElem? hi) kc)) fun ca hca => ?_
  refine o10 (r.cells x ca hca) fun v0 hv0 => ?_
  refine wpAny_storeName_cell r.ok.fn kc hca hv0 fun h' hn hs => ?_
  have := r.own (tk := s.toks) (loc' := st.loc.set i (some a)) (r.ok.cellOwn x ca hca kc (by rw [hfr]; exact List.not_mem_nil)) hs (by refine o11 hn fun o ho hd => ?_; try clear hn; exact i11 o ho (fun vs q => by rw [hd] at q; cases q)) ⟨m, hm.sameBut hs (Ne.symm (r.ok.cellNe x ca hca))⟩
   (fun y cb hy => by
    by_cases e : cb = ca
    ·exact ⟨_, e ▸ hn⟩
    ·exact let ⟨u, q⟩ := r.cells y cb hy; ⟨u, q.sameBut hs e⟩) fun j y b hj hb => by
    by_cases e : j = i
    ·subst e
     rw [hi] at hj; cases hj
     rw [List.getElem?_set_self hlt] at hb
     cases hb
     exact i11 v (.inr ⟨.inl kc, ca, hca, hn⟩) hv
    ·rw [List.getElem?_set_ne (Ne.symm e)] at hb
     refine o11 (r.names j y b hj hb) fun u n q => ?_
     refine i11 u ?_ q
     rcases n with ⟨n1, m', n2, n3⟩ | ⟨n1, cb, n2, n3⟩
     ·exact .inl ⟨n1, m', n2.sameBut hs (Ne.symm (r.ok.cellNe x ca hca)), n3⟩
     ·refine .inr ⟨n1, cb, n2, n3.sameBut hs fun q => uniq j y hj e (r.ok.cellInj y x ca (q ▸ n2) hca)⟩
  exact h _ this.1 this.2
 ·rw [hfr] at kf; cases kf
theorem TS_assign {x : Str} {e : Expr} {Q : AF → St → Prop} (h : TE c st e (fun a st1 => ∃ loc', StoreAt c.vars st1.loc x a loc' ∧ Q .next ⟨loc', st1.mu⟩) X) (hfr : c.fr = [])
  (hs : swapsWith e (some (.Name x pos')) pos.line c.env = pure false) : TS c st (.Assign [.Name x pos'] e pos) Q X := fun s r =>
 wpAny_Assign_Name (h.then r (.refl ..) fun v a st1 s1 zm1 r1 v1 t1 => o11 zm1 fun loc' h1 h2 => wp_store r1 h1 v1 hfr fun s2 r2 t2 => (Post.here (R := RF) r2 h2 rfl).lift (t1.trans t2)) hs
theorem TS_aug {x : Str} {op : Operator} {e : Expr} {a : AV} {Q : AF → St → Prop} (hl : NameAt c.vars st.loc x a) (h : TE c st e (fun b st1 => IBin op a b fun z => ∃ loc', StoreAt c.vars st1.loc x z loc' ∧ Q .next ⟨loc', st1.mu⟩) X) (hfr : c.fr = []) :
  TS c st (.AugAssign (.Name x pos') op e pos) Q X := fun s r => by
 refine o13 (r.name hl) fun v n q _ ne => ?_
 refine wpAny_AugAssign_Name (wp_name r n (h.then r (.refl ..) fun w b st1 s1 h1 r1 v1 t1 => wpAny_mono (h1 c st1 s1 v w r1 (q.keeps t1.fz) v1).out (fun u s2 zm0 => o12 zm0 fun z zz51 g hz => o11 zz51 fun loc' k1 k2 => ?_) fun _ _ x => x.elim) ne)
 exact wp_store (r1.gr g) k1 hz hfr fun s3 r3 t3 => (Post.here (R := RF) r3 k2 rfl).lift ((t1.trans (.gr g)).trans t3)
end
theorem zip_lookup {α : Type} : ∀ {ps : List Str} {vs : List α}, ps.Nodup → vs.length = ps.length → ∀ n ∈ ps, ((ps.zip vs).lookup n).isSome = true
 | [], _, _, _, _, h => nomatch h
 | p :: ps, v :: vs, nd, l, n, h => by
  rw [List.zip_cons_cons, List.lookup_cons]
  by_cases q : (n == p) = true
  ·rw [q]; rfl
  ·rw [Bool.not_eq_true] at q
   rw [q]
   refine zip_lookup (List.nodup_cons.mp nd).2 (by simpa using l) n ?_
   rcases List.mem_cons.mp h with e | h
   ·rw [e] at q; simp at q
   ·exact h
theorem filterMap_same {α β : Type} {f g : α → Option β} : ∀ {l : List α}, (∀ a ∈ l, f a = g a) → l.filterMap f = l.filterMap g
 | [], _ => rfl
 | a :: l, h => by rw [List.filterMap_cons, List.filterMap_cons, h a (.head _), filterMap_same fun b hb => h b (.tail _ hb)]
theorem zip_binds {α : Type} : ∀ {ps : List Str} {vs : List α}, ps.Nodup → vs.length = ps.length → ps.filterMap (fun n => ((ps.zip vs).lookup n).map (n, ·)) = ps.zip vs
 | [], _, _, _ => rfl
 | p :: ps, v :: vs, nd, l => by
  have ih := zip_binds (List.nodup_cons.mp nd).2 (vs := vs) (by simpa using l)
  rw [List.zip_cons_cons, List.filterMap_cons, List.lookup_cons]
  simp only [beq_self_eq_true, Option.map_some]
  refine congrArg ((p, v) :: ·) ?_
  refine Eq.trans (filterMap_same fun n hn => ?_) ih
  rw [List.lookup_cons]
  have : (n == p) = false := by
   cases q : n == p with
   | false => rfl
   | true => exact absurd (by rw [← beq_iff_eq.mp q]; exact hn) (List.nodup_cons.mp nd).1
  rw [this]
theorem bind_plain {fd : FuncData} {args : List Arg} {vs : List Value} (hp : fd.params = ⟨[], args, none, [], [], none, []⟩) (hd : fd.defaults = .none) (hnd : (args.map (·.arg)).Nodup) (hl : vs.length = args.length) :
  bindArgs fd ⟨vs, []⟩ = pure ((args.map (·.arg)).zip vs) := by
 have h1 := zip_lookup hnd (vs := vs) (by simpa using hl)
 have h2 := zip_binds hnd (vs := vs) (by simpa using hl)
 have h3 : (args.map (·.arg)).filter (fun n => (((args.map (·.arg)).zip vs).lookup n).isNone) = [] := by
  rw [List.filter_eq_nil_iff]
  intro n hn
  have := h1 n hn
  cases q : ((args.map (·.arg)).zip vs).lookup n with
  | none => rw [q] at this; cases this
  | some _ => simp
 unfold bindArgs
 rw [hp, hd]
 have h4 : seqItems? .none = pure none := rfl
 simp only [List.map_nil, List.nil_append, List.forIn_nil, List.append_nil, List.length_map, h4, pure_bind, hl, Nat.lt_irrefl, decide_false, Option.isNone_none, Bool.false_and, Option.getD_none, List.length_nil, Nat.zero_sub, List.drop_nil, List.drop_zero, Nat.sub_zero,
  Bool.false_eq_true, if_false, GT.gt]
 rw [show List.take args.length (args.map (·.arg)) = args.map (·.arg) from List.take_of_length_le (by simp)]
 simp only [h3, List.isEmpty_nil, Bool.not_true, Bool.false_eq_true, if_false, List.zip_nil_right, List.forIn_nil, pure_bind, h2]
end
section
noncomputable def globOk (K : Frag) (sc : Scope) (p : Str × Value) : Bool :=
 sc.names.lookup p.1 == some .globalImplicit && (nsIn K mainGlobals p.1 == some (some p.2) || (nsIn K mainGlobals p.1 == some none && p.1 != "__name__" && bootBuiltins p.1 == some p.2))
noncomputable def scOk (K : Frag) (sc : Scope) (vars : List Str) (globs : List (Str × Value)) : Bool :=
 sc.kind == .function && !sc.isCoroutine && !sc.isGenerator && sc.names.all (fun x => x.2 != .cell) && vars.all (fun x => sc.names.lookup x == some .local) && decide vars.Nodup && globs.all (globOk K sc) &&
  sc.names.lookup ("__debug__" : Str) == none && sc.names.lookup ("__classdict__" : Str) == none
theorem glob_is {w : World} {h : Heap} (b : BaseOk w h) {sc : Scope} {p : Str × Value} (e : globOk (KF w.params) sc p = true) :
  sc.names.lookup p.1 = some .globalImplicit ∧ ((∃ mg, h.Ns mainGlobals mg ∧ mg p.1 = some p.2) ∨ ∃ mg mb, h.Ns mainGlobals mg ∧ mg p.1 = none ∧ h.Ns builtinsNs mb ∧ mb p.1 = some p.2) := by
 unfold globOk at e
 simp only [Bool.and_eq_true, Bool.or_eq_true, beq_iff_eq, bne_iff_ne] at e
 refine o10 b.g fun mg hg => ?_
 refine o11 b.b fun mb hb hb' => ?_
 refine ⟨e.1, e.2.imp (fun q => i11 mg hg (mg_of b.K hg q)) fun q => (i23 mg mb hg (mg_none_of b.K hg q.1.1) hb ((hb' _ q.1.2).trans q.2))⟩
theorem RVs.length {G : Heap} : ∀ {as : List AV} {vs : List Value}, RVs G as vs → vs.length = as.length
 | [], _, e => by rw [show _ = [] from e]; rfl
 | _ :: _, _, ⟨v, vs', e, a, b⟩ => by rw [e]; simp [RVs.length b]
theorem RVs.at {G : Heap} : ∀ {as : List AV} {vs : List Value} (i : Nat) {a : AV}, RVs G as vs → as[i]? = some a → ∃ v, vs[i]? = some v ∧ RV G a v
 | [], _, _, _, _, e => by simp at e
 | _ :: _, _, 0, _, ⟨v, vs', e', a, b⟩, e => by simp at e; subst e e'; exact i11 v rfl a
 | _ :: _, _, i + 1, _, ⟨v, vs', e', a, b⟩, e => by subst e'; simpa using RVs.at i b (by simpa using e)
theorem zip_find {α : Type} : ∀ {ps : List Str} {vs : List α} (i : Nat) {x : Str} {v : α}, ps.Nodup → ps[i]? = some x → vs[i]? = some v → (ps.zip vs).reverse.lookup x = some v
 | [], _, _, _, _, _, h, _ => by simp at h
 | _ :: _, [], _, _, _, _, _, h => by simp at h
 | p :: ps, w :: vs, i, x, v, nd, h1, h2 => by
  have nd' := List.nodup_cons.mp nd
  rw [List.zip_cons_cons, List.reverse_cons, List.lookup_append]
  cases i with
  | zero =>
   simp at h1 h2
   subst h1 h2
   have : (ps.zip vs).reverse.lookup p = none := by
    rw [List.lookup_eq_none_iff]
    intro y hy
    have := (List.of_mem_zip (List.mem_reverse.mp hy)).1
    simp only [bne_iff_ne, ne_eq]
    intro q
    exact nd'.1 (by simpa [q] using this)
   rw [this]; simp
  | succ i => rw [zip_find i nd'.2 (by simpa using h1) (by simpa using h2)]; rfl
theorem madd_append (a b : List (Addr × AO)) : madd (a ++ b) = madd a ++ madd b := by simp [madd]
noncomputable def TC (c : Cx) (st : St) (f : Value) (as : List AV) (Q : AV → St → Prop) (X : Flds → List (Option AV) → Prop) : Prop :=
 ∀ s vs, Rel c st s → RVs (fz c st s.heap) as vs → wpAny c.M c.A (call f vs) (Post RV Q c st s) (EPost X c st s) s
noncomputable def Cx.callee (c : Cx) (A : Around) (env : Env) (vars : List Str) (globs : List (Str × Value)) (own : List Addr) (rest : List Addr) (cv : List Str := []) : Cx :=
 { w := c.w, A := A, env := env, frames := env :: c.frames, vars := vars, globs := globs, fr := [], base := c.base, own := own, ctl := c.own ++ c.ctl, priv := c.priv ++ rest, room := c.room - 1, hd := false, cv := cv }
section
variable {c : Cx} {st : St} {X : Flds → List (Option AV) → Prop}
theorem Rel.back {pre pas post : List (Addr × AO)} {loc : List (Option AV)} {A : Around} {env : Env} {vars : List Str} {globs : List (Str × Value)} {own : List Addr} {cv : List Str} {s s1 s' : Shared} {st0 st' : St}
  (r : Rel c ⟨loc, pre ++ pas ++ post⟩ s) (hk : s.heap.StaysIn s1.heap) (hrest : s1.gens = s.gens ∧ s1.os = s.os) (hown : ∀ a ∈ own, s.heap.get? a = none)
  (h0 : st0.mu = pas) (r' : Rel (c.callee A env vars globs own (madd pre ++ madd post) cv) st' s') (t : Tr (c.callee A env vars globs own (madd pre ++ madd post) cv) st0 s1 st' s') :
  Rel c ⟨loc, pre ++ st'.mu ++ post⟩ s' ∧ Tr c ⟨loc, pre ++ pas ++ post⟩ s ⟨loc, pre ++ st'.mu ++ post⟩ s' ∧ (fz (c.callee A env vars globs own (madd pre ++ madd post) cv) st' s'.heap).StaysIn (fz c ⟨loc, pre ++ st'.mu ++ post⟩ s'.heap) := by
 have lt : ∀ {b o}, s.heap.get? b = some o → b ∉ own := fun e m => by rw [hown _ m] at e; cases e
 have hk1 : ∀ a, (s.heap.get? a).isSome = true → (s1.heap.get? a).isSome = true := fun a h => by
  refine o10 (Option.isSome_iff_exists.mp h) fun o ho => ?_
  rw [hk a o ho]; rfl
 have keep : ∀ b o, s.heap.get? b = some o → b ∉ c.own → b ∉ c.ctl → b ∉ madd pas → s'.heap.get? b = some o := fun b o e h1 h2 h3 =>
  t.keep b o (hk b o e) (lt e) (fun m => (List.mem_append.mp m).elim h1 h2) (h0 ▸ h3)
 have slots : ∀ b o, s.heap.get? b = some o → b ∈ c.own ∨ b ∈ c.ctl → ∃ sl, s'.heap.get? b = some { o with slots := sl } := fun b o e m => t.ctl b o (hk b o e) (List.mem_append.mpr m)
 have frs : ∀ a ∈ madd st'.mu, a ∈ madd pas ∨ s.heap.get? a = none := fun a m => (t.fresh a m).imp (fun q => h0 ▸ q) fun q => none_of hk1 q
 have isOld : ∀ a ∈ madd (pre ++ pas ++ post), ∃ o, s.heap.get? a = some o := fun a m => Option.isSome_iff_exists.mp (r.apart a m).2.2.2.2
 have nd := r.nodup
 simp only [madd_append] at nd
 refine o02 (List.nodup_append.mp nd) fun nd1 ndp nd2 => ?_
 refine o02 (List.nodup_append.mp nd1) fun nda ndb nd3 => ?_
 have preNot : ∀ a ∈ madd pre, a ∉ madd pas := fun a m q => nd3 a m a q rfl
 have postNot : ∀ a ∈ madd post, a ∉ madd pas := fun a m q => nd2 a (List.mem_append_right _ q) a m rfl
 have old1 : ∀ a ∈ madd pre, a ∉ madd st'.mu := fun a m q => (frs a q).elim (preNot a m) fun z => by
  refine o10 (isOld a (by rw [madd_append, madd_append]; exact List.mem_append_left _ (List.mem_append_left _ m))) fun o ho => ?_
  rw [ho] at z; cases z
 have old2 : ∀ a ∈ madd post, a ∉ madd st'.mu := fun a m q => (frs a q).elim (postNot a m) fun z => by
  refine o10 (isOld a (by rw [madd_append, madd_append]; exact List.mem_append_right _ m)) fun o ho => ?_
  rw [ho] at z; cases z
 have fz1 : (fz c ⟨loc, pre ++ pas ++ post⟩ s.heap).StaysIn (fz c ⟨loc, pre ++ st'.mu ++ post⟩ s'.heap) := fun b o e => by
  refine o04 (fz_iff.mp e) fun e h1 h2 h3 h4 => ?_
  simp only [madd_append, List.mem_append, not_or] at h4
  refine fz_iff.mpr (i04 (keep b o e h1 h2 h4.1.2) h1 h2 h3 ?_)
  simp only [madd_append, List.mem_append, not_or]
  exact ⟨⟨h4.1.1, fun m => (frs b m).elim h4.1.2 fun z => by rw [e] at z; cases z⟩, h4.2⟩
 have fz2 : (fz (c.callee A env vars globs own (madd pre ++ madd post) cv) st' s'.heap).StaysIn (fz c ⟨loc, pre ++ st'.mu ++ post⟩ s'.heap) := fun b o e => by
  refine o04 (fz_iff.mp e) fun e h1 h2 h3 h4 => ?_
  simp only [Cx.callee, List.mem_append, not_or] at h2 h3
  refine fz_iff.mpr (i04 e h2.1 h2.2 h3.1 ?_)
  simp only [madd_append, List.mem_append, not_or]
  exact ⟨⟨h3.2.1, h4⟩, h3.2.2⟩
 refine i02 ⟨r.ok, r'.stay, ?_, fun a h => t.alive a (hk1 a (r.live a h)), ?_, fun x ca hx => ?_, fun i x a h1 h2 => ?_, fun p hp => ?_, ?_, fun a ha => ?_⟩ ⟨fun b o e h1 h2 h3 => keep b o e h1 h2 (fun m => h3 (by simp only [madd_append, List.mem_append]; exact .inl (.inr m))), fun b o e m => slots b o e (.inr m), fun a m => ?_, fun a h => t.alive a (hk1 a h), t.rest.1.trans hrest.1, t.rest.2.trans hrest.2⟩ fz2
 ·refine o02 r'.ff fun _ _ q => ?_; exact q
 ·refine o42 r.ns fun m o es ep ho hd q => ?_
  refine o10 (slots _ o ho (.inl r.ok.loc)) fun sl hs => ?_
  exact ⟨m, _, es, ep, hs, hd, q⟩
 ·refine o21 (r.cells x ca hx) fun v o ho hd => ?_
  refine o10 (slots _ o ho (r.ok.cellIn x ca hx)) fun sl hs => ?_
  exact ⟨v, _, hs, hd⟩
 ·refine o11 (r.names i x a h1 h2) fun v n q => ?_
  refine i11 v ?_ (q.keeps fz1)
  rcases n with ⟨n1, m, ⟨o, es, ep, ho, hd, z⟩, n3⟩ | ⟨n1, ca, n2, o, ho, hd⟩
  ·refine o10 (slots _ o ho (.inl r.ok.loc)) fun sl hs => ?_
   exact .inl ⟨n1, m, ⟨_, es, ep, hs, hd, z⟩, n3⟩
  ·refine o10 (slots _ o ho (r.ok.cellIn x ca n2)) fun sl hs => ?_
   exact .inr ⟨n1, ca, n2, _, hs, hd⟩
 ·have old : p ∈ pre ∨ p ∈ post → MutRel c.w.params (fz c ⟨loc, pre ++ st'.mu ++ post⟩ s'.heap) s'.heap p.1 p.2 := fun q => by
   have hm : p ∈ pre ++ pas ++ post := by simp only [List.mem_append]; exact q.elim (fun z => .inl (.inl z)) .inr
   refine (r.muts p hm).lift fz1 fun x hx o e => ?_
   refine o02 (r.apart x (List.mem_flatMap.mpr (i11 p hm hx))) fun a1 a2 _ => ?_
   exact keep x o e a1 a2 (q.elim (fun z => preNot x (List.mem_flatMap.mpr (i11 p z hx))) fun z => postNot x (List.mem_flatMap.mpr (i11 p z hx)))
  rcases List.mem_append.mp hp with hp | hp
  ·rcases List.mem_append.mp hp with hp | hp
   ·exact old (.inl hp)
   ·exact (r'.muts p hp).lift fz2 fun _ _ _ e => e
  ·exact old (.inr hp)
 ·simp only [madd_append]
  refine List.nodup_append.mpr (i02 (List.nodup_append.mpr (i02 nda r'.nodup (fun a m b m' q => old1 a m (q ▸ m')))) ndp (fun a m b m' q => ?_))
  rcases List.mem_append.mp m with m | m
  ·exact nd2 a (List.mem_append_left _ m) b m' q
  ·exact old2 b m' (q ▸ m)
 ·simp only [madd_append, List.mem_append] at ha
  have old : a ∈ madd pre ∨ a ∈ madd post → a ∉ c.own ∧ a ∉ c.ctl ∧ a ∉ c.priv ∧ c.base.get? a = none ∧ (s'.heap.get? a).isSome := fun q => by
   refine o04 (r.apart a (by simp only [madd_append, List.mem_append]; exact q.elim (fun z => .inl (.inl z)) .inr)) fun h1 h2 h3 h4 h5 => ?_
   refine o10 (Option.isSome_iff_exists.mp h5) fun o ho => ?_
   exact i04 h1 h2 h3 h4 (by rw [keep a o ho h1 h2 (q.elim (preNot a) (postNot a))]; rfl)
  rcases ha with (ha | ha) | ha
  ·exact old (.inl ha)
  ·refine o04 (r'.apart a ha) fun h1 h2 h3 h4 h5 => ?_
   simp only [Cx.callee, List.mem_append, not_or] at h2 h3
   exact i04 h2.1 h2.2 h3.1 h4 h5
  ·exact old (.inr ha)
 ·simp only [madd_append, List.mem_append] at m ⊢
  rcases m with (m | m) | m
  ·exact .inl (.inl (.inl m))
  ·exact (frs a m).imp (fun q => .inl (.inr q)) id
  ·exact .inl (.inr m)
noncomputable abbrev fdO (nm qual : Str) (f : Arguments × List Stmt × Scope) (dV pm cd : Value) : FuncData := fnOf nm qual f.1 f.2.1 f.2.2 dV .none .none pm none cd .none
theorem Rel.enter {pre pas post : List (Addr × AO)} {loc loc0 : List (Option AV)} {fd : FuncData} {fa : Addr} {vars : List Str} {globs : List (Str × Value)} {s : Shared} {h₁ : Heap} {tk : Nat} {m : Str → Option Value}
  (r : Rel c ⟨loc, pre ++ pas ++ post⟩ s) (hhd : c.hd = false) (hroom : 1 ≤ c.room) (hsc : scOk (KF c.w.params) fd.scope vars globs = true) (hg : fd.globals = mainGlobals ∧ fd.builtins = builtinsNs ∧ fd.closure = [])
  (hn : h₁.Ns s.heap.objs.size m) (hk : ∀ b o, s.heap.get? b = some o → h₁.get? b = some o)
  (hm : ∀ (i : Nat) x a, vars[i]? = some x → loc0[i]? = some (some a) → ∃ v, m x = some v ∧ RV (fz c ⟨loc, pre ++ pas ++ post⟩ s.heap) a v) :
  Rel (c.callee (c.A.deeper (callEnv fd s.heap.objs.size fa)) (callEnv fd s.heap.objs.size fa) vars globs [s.heap.objs.size] (madd pre ++ madd post)) ⟨loc0, pas⟩ { s with heap := h₁, toks := tk } := by
 unfold scOk at hsc
 simp only [Bool.and_eq_true, beq_iff_eq, Bool.not_eq_true', List.all_eq_true, decide_eq_true_eq, bne_iff_ne] at hsc
 refine o01 hsc fun zz1 hcd => ?_
 try clear hsc
 refine o01 zz1 fun zz2 hdb => ?_
 clear zz1
 refine o01 zz2 fun zz3 hgl => ?_
 clear zz2
 refine o01 zz3 fun zz4 hnd => ?_
 clear zz3
 refine o01 zz4 fun zz5 hvars => ?_
 clear zz4
 refine o01 zz5 fun zz6 hcell => ?_
 clear zz5
 refine o01 zz6 fun zz7 hgen => ?_
 clear zz6
 refine o01 zz7 fun hkind hco => ?_
 clear zz7
 have new : ∀ {h : Heap}, h.StaysIn s.heap → h.get? s.heap.objs.size = none := fun {h} k => by
  cases q : h.get? s.heap.objs.size with
  | none => rfl
  | some o => exact absurd (Heap.lt_size (k _ _ q)) (Nat.lt_irrefl _)
 have newS : s.heap.get? s.heap.objs.size = none := new fun _ _ e => e
 have nm : ∀ a ∈ madd (pre ++ pas ++ post), a ≠ s.heap.objs.size := fun a ha q => by
  have := (r.apart a ha).2.2.2.2
  rw [q, newS] at this; cases this
 have fzs : (fz c ⟨loc, pre ++ pas ++ post⟩ s.heap).StaysIn (fz (c.callee (c.A.deeper (callEnv fd s.heap.objs.size fa)) (callEnv fd s.heap.objs.size fa) vars globs [s.heap.objs.size] (madd pre ++ madd post)) ⟨loc0, pas⟩ h₁) := fun b o e => by
  refine o04 (fz_iff.mp e) fun e h1 h2 h3 h4 => ?_
  simp only [madd_append, List.mem_append, not_or] at h4
  refine fz_iff.mpr (i04 (hk b o e) ?_ ?_ ?_ h4.1.2)
  ·simp only [Cx.callee, List.mem_singleton]; exact Nat.ne_of_lt (Heap.lt_size e)
  ·simp only [Cx.callee, List.mem_append, not_or]; exact ⟨h1, h2⟩
  ·simp only [Cx.callee, List.mem_append, not_or]; exact i02 h3 h4.1.1 h4.2
 refine o32 hn fun oN es ep hoN hdN rN => ?_
 try clear hn
 have hsz : s.heap.objs.size < h₁.objs.size := Heap.lt_size hoN
 have old : ∀ a, a ∈ c.own ∨ a ∈ c.ctl ∨ a ∈ c.priv → a ≠ s.heap.objs.size := fun a h q => by
  have := r.live a h
  rw [q, newS] at this; cases this
 have hpas : ∀ a ∈ madd pas, a ∈ madd (pre ++ pas ++ post) := fun a h => by simp only [madd_append, List.mem_append]; exact .inl (.inr h)
 have hlt : ∀ a ∈ madd (pre ++ pas ++ post), a < s.heap.objs.size := fun a h => by
  refine o10 (Option.isSome_iff_exists.mp (r.apart a h).2.2.2.2) fun o ho => ?_
  exact Heap.lt_size ho
 have nd := r.nodup
 simp only [madd_append] at nd
 refine o02 (List.nodup_append.mp nd) fun nd1 ndp nd2 => ?_
 refine o02 (List.nodup_append.mp nd1) fun nda ndb nd3 => ?_
 have hcl : (callEnv fd s.heap.objs.size fa).cells = [] := hg.2.2
 have nocell : ∀ x ca, (callEnv fd s.heap.objs.size fa).cells.lookup x = some ca → False := fun x ca h => by rw [hcl] at h; cases h
 have hkd : ∀ x, (callEnv fd s.heap.objs.size fa).kindOf x = fd.scope.names.lookup x := fun x => rfl
 refine ⟨?_, fun b o e => hk b o (r.stay b o e), ?_, fun a h => ?_, ⟨m, oN, es, ep, hoN, hdN, rN⟩, fun x ca h => (nocell x ca h).elim, fun i x a h1 h2 => ?_, fun p hp => ?_, ndb, fun a ha => ?_⟩
 ·refine { base := r.ok.base, nodup := hnd, kinds := fun x hx => .inl (hvars x hx), locs := fun x hx _ _ => hvars x hx, cellsAt := fun x hx h => ?_, fn := hkind, glob := ⟨hg.1, hg.2.1⟩, globs := fun p hp => ?_, dbg := ⟨hdb, hcd⟩, loc := .head _, locBase := new r.stay, cellIn := fun x ca h => (nocell x ca h).elim, cellOwn := fun x ca h => (nocell x ca h).elim, cellNe := fun x ca h => (nocell x ca h).elim, cellInj := fun x y ca h => (nocell x ca h).elim, ownCtl := fun a ha => ?_, ownBase := fun a ha => ?_, ctlBase := fun a ha => ?_, privBase := fun a ha => ?_, handled := fun _ => r.ok.handled hhd, stack := ?_, frIn := ?_, depth := ?_, units := ?_ }
  ·have := hvars x hx
   rw [show fd.scope.names.lookup x = some .cell from h] at this; cases this
  ·exact glob_is r.ok.base (hgl p hp)
  ·obtain rfl : a = s.heap.objs.size := by simpa [Cx.callee] using ha
   simp only [Cx.callee, List.mem_append, not_or]
   exact i03 ⟨fun h => old _ (.inl h) rfl, fun h => old _ (.inr (.inl h)) rfl⟩ (fun h => old _ (.inr (.inr h)) rfl) (fun h => nm _ (by simp only [madd_append, List.mem_append]; exact .inl (.inl h)) rfl) (fun h => nm _ (by simp only [madd_append, List.mem_append]; exact .inr h) rfl)
  ·obtain rfl : a = s.heap.objs.size := by simpa [Cx.callee] using ha
   exact new r.stay
  ·rcases List.mem_append.mp ha with h | h
   ·exact r.ok.ownBase a h
   ·exact r.ok.ctlBase a h
  ·rcases List.mem_append.mp ha with h | h
   ·exact r.ok.privBase a h
   ·exact (r.apart a (by simp only [madd_append, List.mem_append]; exact (List.mem_append.mp h).elim (fun z => .inl (.inl z)) .inr)).2.2.2.1
  ·exact Around.frames_deeper r.ok.stack
  ·intro env he L hL
   rcases List.mem_cons.mp he with rfl | he
   ·left
    have : s.heap.objs.size = L := by simpa [callEnv, newEnv] using hL
    simp [Cx.callee, this]
   ·right
    exact List.mem_append.mpr (r.ok.frIn env he L hL)
  ·have := r.ok.depth
   simp only [Cx.callee, Around.deeper]
   exact dr1 hroom this
  ·have := r.ok.units
   simp only [Cx.callee, Around.deeper]
   exact dr8 hroom this
 ·refine ⟨?_, (i23 s.heap.objs.size oN rfl (new r.stay) hoN (fun vs q => by rw [hdN] at q; cases q)), ?_⟩
  ·show fd.scope.kind ≠ .module
   rw [hkind]; decide
  ·exact r.ff.of_keeps fun b o e _ => i11 o (hk b o e) rfl
 ·simp only [Cx.callee, List.mem_append, List.mem_singleton] at h
  show (h₁.get? a).isSome = true
  have up : ∀ a, (s.heap.get? a).isSome = true → (h₁.get? a).isSome = true := fun a h => by
   refine o10 (Option.isSome_iff_exists.mp h) fun o ho => ?_
   rw [hk a o ho]; rfl
  rcases h with h | (h | h) | (h | h | h)
  ·rw [h, hoN]; rfl
  ·exact up a (r.live a (.inl h))
  ·exact up a (r.live a (.inr (.inl h)))
  ·exact up a (r.live a (.inr (.inr h)))
  ·exact up a (r.apart a (by simp only [madd_append, List.mem_append]; exact .inl (.inl h))).2.2.2.2
  ·exact up a (r.apart a (by simp only [madd_append, List.mem_append]; exact .inr h)).2.2.2.2
 ·refine o11 (hm i x a h1 h2) fun v e q => ?_
  exact i11 v (.inl ⟨hvars x (List.mem_of_getElem? h1), m, ⟨oN, es, ep, hoN, hdN, rN⟩, e⟩) (q.keeps fzs)
 ·exact (r.muts p (by simp only [List.mem_append]; exact .inl (.inr hp))).lift fzs fun x _ o e => hk x o e
 ·refine o04 (r.apart a (hpas a ha)) fun h1 h2 h3 h4 h5 => ?_
  refine o10 (Option.isSome_iff_exists.mp h5) fun o ho => ?_
  refine i04 ?_ ?_ ?_ h4 (by show (h₁.get? a).isSome = true; rw [hk a o ho]; rfl)
  ·simp only [Cx.callee, List.mem_singleton]; exact Nat.ne_of_lt (hlt a (hpas a ha))
  ·simp only [Cx.callee, List.mem_append, not_or]; exact ⟨h1, h2⟩
  ·simp only [Cx.callee, List.mem_append, not_or]
   exact i02 h3 (fun q => nd3 a q a ha rfl) (fun q => nd2 a (List.mem_append_right _ ha) a q rfl)
end
end
section
section
variable {c : Cx} {st : St} {X : Flds → List (Option AV) → Prop}
theorem fz_change {loc : List (Option AV)} {s s' : Shared} {mu' : List (Addr × AO)} (keep : ∀ b o, s.heap.get? b = some o → b ∉ c.own → b ∉ c.ctl → b ∉ madd st.mu → s'.heap.get? b = some o)
  (fresh : ∀ a ∈ madd mu', a ∈ madd st.mu ∨ s.heap.get? a = none) : (fz c st s.heap).StaysIn (fz c ⟨loc, mu'⟩ s'.heap) := fun b o e => by
 refine o04 (fz_iff.mp e) fun e h1 h2 h3 h4 => ?_
 exact fz_iff.mpr (i04 (keep b o e h1 h2 h4) h1 h2 h3 (fun m => (fresh b m).elim h4 fun q => by rw [e] at q; cases q))
theorem Rel.change {s s' : Shared} {mu' : List (Addr × AO)} (r : Rel c st s) (keep : ∀ b o, s.heap.get? b = some o → b ∉ c.own → b ∉ c.ctl → b ∉ madd st.mu → s'.heap.get? b = some o)
  (slots : ∀ b o, s.heap.get? b = some o → b ∈ c.own ∨ b ∈ c.ctl → ∃ sl, s'.heap.get? b = some { o with slots := sl }) (alive : ∀ a, (s.heap.get? a).isSome = true → (s'.heap.get? a).isSome = true) (rest : s'.gens = s.gens ∧ s'.os = s.os)
  (fresh : ∀ a ∈ madd mu', (a ∈ madd st.mu ∨ s.heap.get? a = none) ∧ (s'.heap.get? a).isSome) (nd : (madd mu').Nodup)
  (hmu : (fz c st s.heap).StaysIn (fz c ⟨st.loc, mu'⟩ s'.heap) → ∀ p ∈ mu', MutRel c.w.params (fz c ⟨st.loc, mu'⟩ s'.heap) s'.heap p.1 p.2) : Rel c ⟨st.loc, mu'⟩ s' ∧ Tr c st s ⟨st.loc, mu'⟩ s' := by
 have fzs := fz_change (loc := st.loc) keep fun a m => (fresh a m).1
 have notMu : ∀ a ∈ madd st.mu, a ∉ c.own ∧ a ∉ c.ctl := fun a m => ⟨(r.apart a m).1, (r.apart a m).2.1⟩
 refine ⟨⟨r.ok, fun b o e => ?_, ?_, fun a h => alive a (r.live a h), ?_, fun x ca hx => ?_, fun i x a h1 h2 => ?_, hmu fzs, nd, fun a ha => ?_⟩, ⟨keep, fun b o e m => slots b o e (.inr m), fun a m => (fresh a m).1, alive, rest⟩⟩
 ·refine keep b o (r.stay b o e) (fun m => ?_) (fun m => ?_) fun m => ?_
  ·have := r.ok.ownBase b m; rw [e] at this; cases this
  ·have := r.ok.ctlBase b m; rw [e] at this; cases this
  ·have := (r.apart b m).2.2.2.1; rw [e] at this; cases this
 ·obtain ⟨fs, hf⟩ : ∃ l, l = c.frames := ⟨_, rfl⟩
  have hin := r.ok.frIn
  have hff := r.ff
  rw [← hf] at hin hff ⊢
  clear hf
  induction fs with
  | nil => trivial
  | cons env rest ih =>
   refine o02 hff fun hk zz1 hr => ?_
   try clear hff
   refine o23 zz1 fun L o hfr hn ho hd => ?_
   clear zz1
   refine o10 (slots L o ho (hin env (.head _) L hfr)) fun sl hs => ?_
   exact ⟨hk, (i23 L _ hfr hn hs hd), ih (fun e he => hin e (.tail _ he)) hr⟩
 ·refine o42 r.ns fun m o es ep ho hd q => ?_
  refine o10 (slots _ o ho (.inl r.ok.loc)) fun sl hs => ?_
  exact ⟨m, _, es, ep, hs, hd, q⟩
 ·refine o21 (r.cells x ca hx) fun v o ho hd => ?_
  refine o10 (slots _ o ho (r.ok.cellIn x ca hx)) fun sl hs => ?_
  exact ⟨v, _, hs, hd⟩
 ·refine o11 (r.names i x a h1 h2) fun v n q => ?_
  refine i11 v ?_ (q.keeps fzs)
  rcases n with ⟨n1, m, ⟨o, es, ep, ho, hd, z⟩, n3⟩ | ⟨n1, ca, n2, o, ho, hd⟩
  ·refine o10 (slots _ o ho (.inl r.ok.loc)) fun sl hs => ?_
   exact .inl ⟨n1, m, ⟨_, es, ep, hs, hd, z⟩, n3⟩
  ·refine o10 (slots _ o ho (r.ok.cellIn x ca n2)) fun sl hs => ?_
   exact .inr ⟨n1, ca, n2, _, hs, hd⟩
 ·refine o01 (fresh a ha) fun h alv => ?_
  rcases h with h | h
  ·refine o04 (r.apart a h) fun h1 h2 h3 h4 _ => ?_
   exact i04 h1 h2 h3 h4 alv
  ·refine i04 (fun m => ?_) (fun m => ?_) (fun m => ?_) ?_ alv
   ·have := r.live a (.inl m); rw [h] at this; cases this
   ·have := r.live a (.inr (.inl m)); rw [h] at this; cases this
   ·have := r.live a (.inr (.inr m)); rw [h] at this; cases this
   ·cases q : c.base.get? a with
    | none => rfl
    | some o => rw [r.stay a o q] at h; cases h
structure Cx.Fn (c : Cx) : Prop where
 top : ∃ rest, c.frames = c.env :: rest
 frame : c.env.frame = some c.env.locals
theorem data_mapFields' {o : Obj} {vs : Array Value} (f : Array Value → Array Value) (hd : o.data = .fields vs) : Obj.mapFields f o = { o with data := .fields (f vs) } := by
 obtain ⟨c, d, dt, sl⟩ := o
 simp only at hd
 subst hd
 rfl
theorem note_new {loc : List (Option AV)} {e dx : Addr} {fs : Flds} {tb : Option (Addr × Value)} {s : Shared} {head : Value} {had : Bool} {W : Unit → Shared → Prop} {E : Value → Shared → Prop} (r : Rel c ⟨loc, [(e, .inst dx fs tb)]⟩ s) (hf : c.Fn)
  (k : ∀ T s', Rel c ⟨loc, [(e, .inst dx fs (some (T, rawInt c.env.locals)))]⟩ s' → Tr c ⟨loc, [(e, .inst dx fs tb)]⟩ s ⟨loc, [(e, .inst dx fs (some (T, rawInt c.env.locals)))]⟩ s' → W () s') :
  wpAny c.M c.A (do let a ← frameOf c.env; let pl ← entryPlaceOf c.env.locals had; let b ← EntryCells.newEntry head a .none (rawInt c.env.locals) .none pl; setField (.ref e) 1 b) W E s := by
 obtain ⟨⟨rest, htop⟩, hfr⟩ := hf
 have hstack := r.ok.stack
 have hff := r.ff
 have hfi := r.ok.frIn
 rw [htop] at hstack hff hfi
 refine o03 (r.muts _ (.head _)) fun ne zz1 zz2 _ => ?_
 refine o12 zz1 fun vs he hsz h1 => ?_
 clear zz1
 refine o11 zz2 fun od hdx hdob => ?_
 clear zz2
 dsimp only at ne he hsz h1 hdx hdob
 have hmem : ∀ b, b ∈ (c.env :: rest).filterMap (·.frame) → b ∈ c.own ∨ b ∈ c.ctl := fun b hb => by
  refine o11 (List.mem_filterMap.mp hb) fun env h1 h2 => ?_
  exact hfi env h1 b h2
 have hein : e ∈ madd [(e, AO.inst dx fs tb)] := by cases tb <;> simp [madd, AO.addrs]
 have hdin : dx ∈ madd [(e, AO.inst dx fs tb)] := by cases tb <;> simp [madd, AO.addrs]
 have ae := r.apart e hein
 have ad := r.apart dx hdin
 refine wpAny_bind (wpAny_frameOf_fun hstack hff hfr fun h₁ hs₁ => ?_)
 refine wpAny_bind (wpAny_entryPlaceOf fun pl hpl => ?_)
 unfold EntryCells.newEntry newFields
 refine wpAny_bind (wpAny_newObj_type ?_ (hpl.sizeOk5 _ _ _ _ _))
 have same : ∀ b, b ∉ c.own → b ∉ c.ctl → h₁.get? b = s.heap.get? b := fun b q1 q2 => hs₁.2.1 b fun m => (hmem b m).elim q1 q2
 have he₁ := (same e ae.1 ae.2.1).trans he
 have hd₁ := (same dx ad.1 ad.2.1).trans hdx
 let ob : Obj := { cls := .type "traceback", dict := none, data := .fields ([head, .ref c.env.locals, .none, rawInt c.env.locals, .none] ++ (if pl.isEmpty then List.replicate 6 Value.none else pl)).toArray }
 have he₂ := Heap.get?_push_of_some ob he₁
 refine wpAny_setField he₂ rfl (by exact fg (.lt (.c 1) (.v 0)) [.le (.c 6) (.v 0)] [1,1] [] rfl [_] [] hsz) ?_
 have hup : ∀ b, b ≠ e → ((h₁.push ob).update e (Obj.mapFields (·.setIfInBounds 1 (Value.ref h₁.objs.size)))).get? b = (h₁.push ob).get? b := fun b q => Heap.get?_update_other _ _ (Ne.symm q)
 have heU : ((h₁.push ob).update e (Obj.mapFields (·.setIfInBounds 1 (Value.ref h₁.objs.size)))).get? e = some { cls := .ref 33, dict := some dx, data := .fields (vs.setIfInBounds 1 (Value.ref h₁.objs.size)) } := by
  rw [Heap.get?_update_self _ he₂ rfl]; rfl
 have hTe : h₁.objs.size ≠ e := Nat.ne_of_gt (Heap.lt_size he₁)
 have hTd : h₁.objs.size ≠ dx := Nat.ne_of_gt (Heap.lt_size hd₁)
 have hT : ((h₁.push ob).update e (Obj.mapFields (·.setIfInBounds 1 (Value.ref h₁.objs.size)))).get? h₁.objs.size = some ob := by
  rw [hup _ hTe]; exact Heap.get?_push_size _ rfl
 have hdxU : ((h₁.push ob).update e (Obj.mapFields (·.setIfInBounds 1 (Value.ref h₁.objs.size)))).get? dx = some od := by
  rw [hup _ (Ne.symm ne)]; exact Heap.get?_push_of_some _ hd₁
 have key := r.change (s' := { s with heap := (h₁.push ob).update e (Obj.mapFields (·.setIfInBounds 1 (Value.ref h₁.objs.size))) }) (mu' := [(e, .inst dx fs (some (h₁.objs.size, rawInt c.env.locals)))])
  (fun b o h q1 q2 q3 => by
   rw [hup b fun q => q3 (q ▸ hein)]
   exact Heap.get?_push_of_some _ ((same b q1 q2).trans h))
  (fun b o h q => by
   refine o10 (hs₁.2.2 b o h) fun sl hsl => ?_
   refine ⟨sl, ?_⟩
   rw [hup b fun z => q.elim (fun w => ae.1 (z ▸ w)) fun w => ae.2.1 (z ▸ w)]
   exact Heap.get?_push_of_some _ hsl)
  (fun a h => by
   show (((h₁.push ob).update e _).get? a).isSome = true
   by_cases q : a = e
   ·rw [q, heU]; rfl
   ·rw [hup a q]
    refine o10 (Option.isSome_iff_exists.mp h) fun o ho => ?_
    refine o10 (hs₁.2.2 a o ho) fun sl hsl => ?_
    rw [Heap.get?_push_of_some _ hsl]; rfl) ⟨rfl, rfl⟩
  (fun a ha => by
   simp only [madd, AO.addrs, List.flatMap_cons, List.flatMap_nil, List.append_nil, List.mem_cons, List.not_mem_nil, or_false] at ha
   rcases ha with rfl | rfl | rfl
   ·exact ⟨.inl hein, by rw [heU]; rfl⟩
   ·exact ⟨.inl hdin, by rw [hdxU]; rfl⟩
   ·refine ⟨.inr ?_, by rw [hT]; rfl⟩
    cases q : s.heap.get? h₁.objs.size with
    | none => rfl
    | some o => exact absurd (Heap.lt_size q) (by rw [hs₁.1]; exact Nat.lt_irrefl _))
  (by
   simp only [madd, AO.addrs, List.flatMap_cons, List.flatMap_nil, List.append_nil, List.nodup_cons, List.mem_cons, List.not_mem_nil, or_false, not_or, not_false_iff, List.nodup_nil, and_true]
   exact ⟨⟨ne, Ne.symm hTe⟩, Ne.symm hTd⟩)
  (fun fzs p hp => by
   obtain rfl := List.mem_singleton.mp hp
   refine ⟨ne, (i12 _ heU (by simpa using hsz) ?_), (i11 od hdxU (hdob.keeps fzs)), hTe, hTd, _, _, _, _, hT, ?_⟩
   ·simp only
    rw [Array.getElem?_setIfInBounds_self_of_lt (by exact fg (.lt (.c 1) (.v 0)) [.le (.c 6) (.v 0)] [1,1] [] rfl [_] [] hsz)]
   ·first | (simp; done) | (rcases hpl with rfl | ⟨_, _, _, _, _, _, _, rfl⟩ <;> simp))
 exact k _ _ key.1 key.2
theorem exc_mem {e dx : Addr} {fs : Flds} {tb : Option (Addr × Value)} : e ∈ madd [(e, AO.inst dx fs tb)] ∧ dx ∈ madd [(e, AO.inst dx fs tb)] := by cases tb <;> simp [madd, AO.addrs]
theorem set_fl {loc : List (Option AV)} {e dx T : Addr} {fs : Flds} {fl fl' : Value} {s : Shared} {W : Unit → Shared → Prop} {E : Value → Shared → Prop} (r : Rel c ⟨loc, [(e, .inst dx fs (some (T, fl)))]⟩ s)
  (k : ∀ s', Rel c ⟨loc, [(e, .inst dx fs (some (T, fl')))]⟩ s' → Tr c ⟨loc, [(e, .inst dx fs (some (T, fl)))]⟩ s ⟨loc, [(e, .inst dx fs (some (T, fl')))]⟩ s' → W () s') :
  wpAny c.M c.A (setField (.ref T) 3 fl') W E s := by
 refine o05 (r.muts _ (.head _)) fun ne zz1 zz2 hTe hTd zz3 => ?_
 refine o12 zz1 fun vs he hsz h1 => ?_
 clear zz1
 refine o11 zz2 fun od hdx hdob => ?_
 clear zz2
 refine o41 zz3 fun ts sl cl d hT h3 => ?_
 clear zz3
 dsimp only at ne he hsz h1 hdx hdob hTe hTd hT h3
 have hlt : 3 < ts.size := (Array.getElem?_eq_some_iff.mp h3).1
 refine wpAny_setField hT rfl hlt ?_
 have hup : ∀ b, b ≠ T → (s.heap.update T (Obj.mapFields (·.setIfInBounds 3 fl'))).get? b = s.heap.get? b := fun b q => Heap.get?_update_other _ _ (Ne.symm q)
 have hTU : (s.heap.update T (Obj.mapFields (·.setIfInBounds 3 fl'))).get? T = some ⟨cl, d, .fields (ts.setIfInBounds 3 fl'), sl⟩ := by
  rw [Heap.get?_update_self _ hT rfl]; rfl
 have hm : T ∈ madd [(e, AO.inst dx fs (some (T, fl)))] := by simp [madd, AO.addrs]
 have aT := r.apart T hm
 have key := r.change (s' := { s with heap := s.heap.update T (Obj.mapFields (·.setIfInBounds 3 fl')) }) (mu' := [(e, .inst dx fs (some (T, fl')))])
  (fun b o h q1 q2 q3 => (hup b fun q => q3 (q ▸ hm)).trans h)
  (fun b o h q => ⟨o.slots, (hup b fun z => q.elim (fun w => aT.1 (z ▸ w)) fun w => aT.2.1 (z ▸ w)).trans h⟩)
  (fun a h => by
   show ((s.heap.update T _).get? a).isSome = true
   by_cases q : a = T
   ·rw [q, hTU]; rfl
   ·rw [hup a q]; exact h) ⟨rfl, rfl⟩
  (fun a ha => by
   simp only [madd, AO.addrs, List.flatMap_cons, List.flatMap_nil, List.append_nil, List.mem_cons, List.not_mem_nil, or_false] at ha
   rcases ha with rfl | rfl | rfl
   ·exact ⟨.inl exc_mem.1, by rw [hup _ (Ne.symm hTe), he]; rfl⟩
   ·exact ⟨.inl exc_mem.2, by rw [hup _ (Ne.symm hTd), hdx]; rfl⟩
   ·exact ⟨.inl hm, by rw [hTU]; rfl⟩)
  (by
   simp only [madd, AO.addrs, List.flatMap_cons, List.flatMap_nil, List.append_nil, List.nodup_cons, List.mem_cons, List.not_mem_nil, or_false, not_or, not_false_iff, List.nodup_nil, and_true]
   exact ⟨⟨ne, Ne.symm hTe⟩, Ne.symm hTd⟩)
  (fun fzs p hp => by
   obtain rfl := List.mem_singleton.mp hp
   refine ⟨ne, (i12 vs ((hup _ (Ne.symm hTe)).trans he) hsz h1), (i11 od ((hup _ (Ne.symm hTd)).trans hdx) (hdob.keeps fzs)), hTe, hTd, _, _, _, _, hTU, ?_⟩
   rw [Array.getElem?_setIfInBounds_self_of_lt hlt])
 exact k _ key.1 key.2
theorem set_flight {loc : List (Option AV)} {e dx T : Addr} {fs : Flds} {fl : Value} {fr : Option Addr} {s : Shared} {W : Unit → Shared → Prop} {E : Value → Shared → Prop} (r : Rel c ⟨loc, [(e, .inst dx fs (some (T, fl)))]⟩ s)
  (k : ∀ s', Rel c ⟨loc, [(e, .inst dx fs (some (T, fr.elim .none fun f => rawInt f)))]⟩ s' → Tr c ⟨loc, [(e, .inst dx fs (some (T, fl)))]⟩ s ⟨loc, [(e, .inst dx fs (some (T, fr.elim .none fun f => rawInt f)))]⟩ s' → W () s') :
  wpAny c.M c.A (setFlight (.ref e) fr) W E s := by
 refine o02 (r.muts _ (.head _)) fun ne zz1 _ => ?_
 refine o12 zz1 fun vs he hsz h1 => ?_
 clear zz1
 dsimp only at he h1
 unfold setFlight
 refine wpAny_bind (wpAny_field he rfl h1 ?_)
 rw [if_pos (show (Value.ref T != Value.none) = true from by simp)]
 exact set_fl r k
theorem note_frame {loc : List (Option AV)} {e dx : Addr} {fs : Flds} {tb : Option (Addr × Value)} {s : Shared} {W : Unit → Shared → Prop} {E : Value → Shared → Prop} (r : Rel c ⟨loc, [(e, .inst dx fs tb)]⟩ s) (hf : c.Fn) (hfl : FlOk c tb)
  (k : ∀ T s', Rel c ⟨loc, [(e, .inst dx fs (some (T, rawInt c.env.locals)))]⟩ s' → Tr c ⟨loc, [(e, .inst dx fs tb)]⟩ s ⟨loc, [(e, .inst dx fs (some (T, rawInt c.env.locals)))]⟩ s' → W () s') :
  wpAny c.M c.A (noteFrame (.ref e) c.env) W E s := by
 refine o03 (r.muts _ (.head _)) fun ne zz1 _ h4 => ?_
 refine o12 zz1 fun vs he hsz h1 => ?_
 clear zz1
 dsimp only at he h1 h4
 unfold noteFrame
 simp only [hf.frame]
 refine wpAny_bind (wpAny_field he rfl h1 ?_)
 cases tb with
 | none =>
  rw [if_neg (by decide)]
  exact note_new r hf k
 | some p =>
  obtain ⟨T, fl⟩ := p
  refine o02 h4 fun hTe hTd zz1 => ?_
  try clear h4
  refine o41 zz1 fun ts sl cl d hT h3 => ?_
  clear zz1
  rw [if_pos (show (Value.ref T != Value.none) = true from by simp)]
  refine wpAny_bind (wpAny_field hT rfl h3 ?_)
  rcases hfl with rfl | ⟨L, hL, rfl⟩
  ·rw [if_neg (show ¬ ((Value.none == rawInt c.env.locals) = true) from by simp [rawInt])]
   refine wpAny_bind (set_fl (fl' := .none) r fun s1 r1 t1 => ?_)
   exact note_new r1 hf fun T' s2 r2 t2 => k T' s2 r2 (t1.trans t2)
  ·obtain rfl : L = c.env.locals := by rw [hf.frame] at hL; exact (Option.some.inj hL).symm
   rw [if_pos (show (rawInt c.env.locals == rawInt c.env.locals) = true from by simp)]
   exact wpAny_pure (k T s r (.refl ..))
theorem leave {loc : List (Option AV)} {e dx : Addr} {fs : Flds} {tb : Option (Addr × Value)} {s : Shared} {W : Unit → Shared → Prop} {E : Value → Shared → Prop} (r : Rel c ⟨loc, [(e, .inst dx fs tb)]⟩ s) (hf : c.Fn) (hfl : FlOk c tb)
  (k : ∀ T s', Rel c ⟨loc, [(e, .inst dx fs (some (T, .none)))]⟩ s' → Tr c ⟨loc, [(e, .inst dx fs tb)]⟩ s ⟨loc, [(e, .inst dx fs (some (T, .none)))]⟩ s' → W () s') :
  wpAny c.M c.A (leaving c.env (.ref e)) W E s := by
 unfold leaving
 exact wpAny_bind (note_frame r hf hfl fun T s1 r1 t1 => set_flight (fr := none) r1 fun s2 r2 t2 => k T s2 r2 (t1.trans t2))
end
end
section
structure Other where
 w : World
 A : Around
 env : Env
 frames : List Env
 base : Heap
 own : List Addr
 ctl : List Addr
 priv : List Addr
noncomputable abbrev mkCx (vars : List Str) (globs : List (Str × Value)) (room : Nat) (o : Other) (cv : List Str := []) : Cx :=
 { w := o.w, A := o.A, env := o.env, frames := o.frames, vars := vars, globs := globs, fr := [], base := o.base, own := o.own, ctl := o.ctl, priv := o.priv, room := room, hd := false, cv := cv }
noncomputable def RetQ (Q : AV → St → Prop) : AF → St → Prop
 | .ret a, st => Q a st
 | .next, st => Q (.d .none) st
 | _, _ => False
section
variable {c : Cx} {st : St} {X : Flds → List (Option AV) → Prop}
theorem get_new (h : Heap) : h.get? h.objs.size = none := by
 cases q : h.get? h.objs.size with
 | none => rfl
 | some o => exact absurd (Heap.lt_size q) (Nat.lt_irrefl _)
theorem madd_sub {l l' : List (Addr × AO)} (h : ∀ p ∈ l', p ∈ l) {a : Addr} (m : a ∈ madd l') : a ∈ madd l := by
 refine o11 (List.mem_flatMap.mp m) fun p hp hx => ?_
 exact List.mem_flatMap.mpr (i11 p (h p hp) hx)
theorem Rel.sub {s : Shared} {mu' : List (Addr × AO)} (r : Rel c st s) (h : ∀ p ∈ mu', p ∈ st.mu) (nd : (madd mu').Nodup) : Rel c ⟨st.loc, mu'⟩ s ∧ Tr c st s ⟨st.loc, mu'⟩ s :=
 r.change (fun _ _ e _ _ _ => e) (fun _ o e _ => ⟨o.slots, e⟩) (fun _ h => h) ⟨rfl, rfl⟩ (fun a m => ⟨.inl (madd_sub h m), (r.apart a (madd_sub h m)).2.2.2.2⟩) nd fun fzs p hp => (r.muts p (h p hp)).lift fzs fun _ _ _ e => e
theorem nodup_mid {a b d : List (Addr × AO)} (h : (madd (a ++ b ++ d)).Nodup) : (madd b).Nodup := by
 simp only [madd_append] at h
 exact (List.nodup_append.mp (List.nodup_append.mp h).1).2.1
theorem TC_def {pre pas post : List (Addr × AO)} {loc0 : List (Option AV)} {vars ps : List Str} {globs : List (Str × Value)} {as as' : List AV} {nm qual : Str} {f : Arguments × List Stmt × Scope} {fa : Addr} {dV pm cd : Value} {Q : AV → St → Prop}
  (hK : ∀ P, (KF P).lookup fa = some (fnO nm qual f dV pm cd)) (hcd : ∀ P, codeIn (KF P) cd qual = true) (hsc : ∀ P, scOk (KF P) f.2.2 vars globs = true) (hhd : c.hd = false) (hroom : 1 ≤ c.room) (hmu : st.mu = pre ++ pas ++ post)
  (hbind : ∀ s vs, Rel c st s → RVs (fz c st s.heap) as vs → ∃ ws, BindsTo s (fdO nm qual f dV pm cd) ⟨vs, []⟩ (ps.zip ws) ∧ RVs (fz c st s.heap) as' ws)
  (hps : ∃ xs, vars = ps ++ xs ∧ loc0 = as'.map some ++ xs.map fun _ => none) (hl : ps.length = as'.length)
  (body : ∀ o : Other, o.w = c.w → (mkCx vars globs (c.room - 1) o).Fn → TL (mkCx vars globs (c.room - 1) o) ⟨loc0, pas⟩ f.2.1 (RetQ fun a st' => Q a ⟨st.loc, pre ++ st'.mu ++ post⟩) (fun fs _ => X fs st.loc)) :
  TC c st (.ref fa) as Q X := by
 intro s vs r hv
 refine o11 (hbind s vs r hv) fun ws hb hws => ?_
 obtain ⟨stl, stm⟩ := st
 dsimp only at hmu
 subst hmu
 have hsc' := hsc c.w.params
 have hs := hsc'
 unfold scOk at hs
 simp only [Bool.and_eq_true, beq_iff_eq, Bool.not_eq_true', List.all_eq_true, decide_eq_true_eq, bne_iff_ne] at hs
 refine o01 hs fun zz1 hcdb => ?_
 try clear hs
 refine o01 zz1 fun zz2 hdb => ?_
 clear zz1
 refine o01 zz2 fun zz3 hgl => ?_
 clear zz2
 refine o01 zz3 fun zz4 hnd => ?_
 clear zz3
 refine o01 zz4 fun zz5 hvars => ?_
 clear zz4
 refine o01 zz5 fun zz6 hcell => ?_
 clear zz5
 refine o01 zz6 fun zz7 hgen => ?_
 clear zz6
 refine o01 zz7 fun hkind hco => ?_
 clear zz7
 refine o11 hps fun xs hv1 hl0 => ?_
 try clear hps
 have hB := r.ok.base
 have hget := r.stay _ _ (hB.K _ _ (hK c.w.params))
 have hpsv : ∀ x ∈ ps, f.2.2.names.lookup x = some .local := fun x hx => hvars x (by rw [hv1]; exact List.mem_append_left _ hx)
 have hwl : ws.length = ps.length := by rw [hws.length, hl]
 refine wpAny_call (codeAny_call_def (fd := fdO nm qual f dV pm cd) (body := f.2.1) (binds := ps.zip ws) (by have := r.ok.depth; show c.A.depth < 1000; exact fg (.lt (.v 0) (.c 1000)) [.lt (.a (.v 0) (.v 1)) (.c 800)] [1,1] [0,1] rfl [_,_] [] this) hget rfl (hB.nolimit.keeps r.stay) (codeRec_of (hB.K.keeps r.stay) (hcd c.w.params)) rfl hb
  (fun x hx => hcell x hx) (fun x hx => hpsv x.1 (List.of_mem_zip hx).1) (fun h₁ hns hk => ?_) hco hgen hkind)
 have hR := Rel.enter (fd := fdO nm qual f dV pm cd) (fa := fa) (loc0 := loc0) (vars := vars) (globs := globs) (tk := s.toks + (ps.zip ws).length) r hhd hroom hsc' (i02 rfl rfl rfl) hns hk fun i x a h1 h2 => by
  have hi : i < as'.length := by
   rcases Nat.lt_or_ge i as'.length with q | q
   ·exact q
   ·rw [hl0, List.getElem?_append_right (by simpa using q)] at h2
    simp at h2
  rw [hl0, List.getElem?_append_left (by simpa using hi), List.getElem?_map] at h2
  rw [hv1, List.getElem?_append_left (by exact fg (.lt (.v 2) (.v 0)) [.qe (.v 0) (.v 1),.lt (.v 2) (.v 1)] [1,1,1] [] rfl [_,_,_] [] hl hi)] at h1
  refine o11 (hws.at i (a := a) (by
   cases q : as'[i]? with
   | none => rw [q] at h2; cases h2
   | some y => rw [q] at h2; simpa using h2)) fun v hv2 hrv => ?_
  exact i11 v (zip_find i (by rw [hv1] at hnd; exact (List.nodup_append.mp hnd).1) h1 hv2) hrv
 have hFn : Cx.Fn (c.callee (c.A.deeper (callEnv (fdO nm qual f dV pm cd) s.heap.objs.size fa)) (callEnv (fdO nm qual f dV pm cd) s.heap.objs.size fa) vars globs [s.heap.objs.size] (madd pre ++ madd post)) := ⟨⟨_, rfl⟩, rfl⟩
 have hb2 := body ⟨c.w, c.A.deeper (callEnv (fdO nm qual f dV pm cd) s.heap.objs.size fa), callEnv (fdO nm qual f dV pm cd) s.heap.objs.size fa, callEnv (fdO nm qual f dV pm cd) s.heap.objs.size fa :: c.frames, c.base, [s.heap.objs.size], c.own ++ c.ctl, c.priv ++ (madd pre ++ madd post)⟩ rfl hFn _ hR
 have hown : ∀ a ∈ [s.heap.objs.size], s.heap.get? a = none := fun a ha => by
  rw [List.mem_singleton.mp ha]
  exact get_new _
 refine wpAny_mono hb2 (fun fl s' zm1 => o23 zm1 fun af st' q r' t' v' => ?_) fun ev s' zm0 => o54 zm0 fun e dx fs tb loc' he hx hfl r' t' => ?_
 ·refine o02 (Rel.back (s1 := { s with heap := h₁, toks := s.toks + (ps.zip ws).length }) r hk ⟨rfl, rfl⟩ hown rfl r' t') fun b1 b2 b3 => ?_
  cases af with
  | ret a =>
   refine o11 v' fun v zz1 hv => ?_
   try clear v'
   subst zz1
   exact ⟨a, _, q, b1, b2, hv.keeps b3⟩
  | next =>
   obtain rfl : fl = .next := v'
   exact ⟨_, _, q, b1, b2, .of_none⟩
  | brk => exact q.elim
  | cont => exact q.elim
 ·subst he
  refine leave r' hFn hfl fun T s'' r'' t'' => ?_
  refine o02 (Rel.back (s1 := { s with heap := h₁, toks := s.toks + (ps.zip ws).length }) r hk ⟨rfl, rfl⟩ hown rfl r'' (t'.trans t'')) fun b1 b2 b3 => ?_
  refine o01 (b1.sub (mu' := [(e, .inst dx fs (some (T, .none)))]) (fun p hp => by
   obtain rfl := List.mem_singleton.mp hp
   simp) (nodup_mid b1.nodup)) fun d1 d2 => ?_
  exact ⟨e, dx, fs, some (T, .none), _, rfl, hx, Or.inl rfl, d1, b2.trans d2⟩
end
end
section
section
variable {c : Cx} {st : St} {X : Flds → List (Option AV) → Prop} {pos pos' : Pos} {k : Nat}
noncomputable abbrev TA (c : Cx) (st : St) (pos : Pos) (es : List Expr) (Q : List AV → St → Prop) (X : Flds → List (Option AV) → Prop) : Prop := T RVs c st (spliced (backTo pos (starEach es c.env))) Q X
noncomputable abbrev CW (c : Cx) (st : St) (pos : Pos) (f : Value) (es : List Expr) (Q : AV → St → Prop) (X : Flds → List (Option AV) → Prop) : Prop := T RV c st (callWith pos f [] (backTo pos (starEach es c.env)) []) Q X
theorem TA_nil {Q : List AV → St → Prop} (h : Q [] st) : TA c st pos [] Q X := fun s r => args_nil (.here (R := RVs) r h rfl)
theorem TA_cons {e : Expr} {es : List Expr} {Q : List AV → St → Prop} (h : TE c st e (fun a st1 => TA c st1 pos es (fun as st2 => Q (a :: as) st2) X) X)
  (he : starEach (e :: es) c.env = (false, eval e c.env) :: starEach es c.env) : TA c st pos (e :: es) Q X := fun s r =>
 args_cons (h.then r (.refl ..) fun v a st1 s1 h1 r1 v1 t1 => h1.then r1 t1 fun vs as st2 s2 h2 r2 v2 t2 => (Post.here (R := RVs) r2 h2 ⟨v, vs, rfl, v1.keeps t2.fz, v2⟩).lift (t1.trans t2)) he
noncomputable def Keeps (f : Value) : Prop := (∃ id, f = .builtin id) ∨ (∃ T, f = .type T) ∨ ∀ P, keepIn (KF P) f = true
theorem callWith_T {f : Value} {first : List Value} {trees : List (Bool × Sem Value)} {s : Shared} {W : Value → Shared → Prop} {E : Value → Shared → Prop} (hk : Keeps f) (hb : BaseOk c.w c.base) (hp : trees.any (·.1) = false)
  (h : wpAny c.M c.A (evalArgs f true trees []) (fun a s₁ => c.base.StaysIn s₁.heap ∧ wpAny c.M c.A (call f (first ++ a.pos) a.kw) W E s₁) E s) : wpAny c.M c.A (callWith pos f first trees []) W E s := by
 rcases hk with ⟨id, rfl⟩ | ⟨T, rfl⟩ | hk
 ·exact callWith_builtin hp (wpAny_mono h (fun _ _ q => q.2) fun _ _ x => x)
 ·exact PyProof.Rows.callWith_type hp (wpAny_mono h (fun _ _ q => q.2) fun _ _ x => x)
 ·exact callWith_of (P := fun h => (KF c.w.params).In h) (by rw [hp]; rfl) (keeps_K (hk _)) (wpAny_mono h (fun _ _ q => ⟨hb.K.keeps q.1, q.2⟩) fun _ _ x => x)
theorem CW_nil {f : Value} {Q : AV → St → Prop} (hk : Keeps f) (h : TC c st f [] Q X) : CW c st pos f [] Q X := fun s r =>
 callWith_T hk r.ok.base rfl (PyProof.Rows.evalArgs_none ⟨r.stay, h s [] r rfl⟩)
theorem CW_cons {f : Value} {e : Expr} {es : List Expr} {Q : AV → St → Prop} (hk : Keeps f) (h : TA c st pos (e :: es) (fun as st1 => TC c st1 f as Q X) X)
  (he : starEach (e :: es) c.env = (false, eval e c.env) :: starEach es c.env) (hp : (backTo pos (starEach (e :: es) c.env)).any (·.1) = false) : CW c st pos f (e :: es) Q X := fun s r => by
 refine callWith_T hk r.ok.base hp ?_
 have hs : T RVs c st (spliced (backTo pos (starEach (e :: es) c.env))) (fun as st1 => TC c st1 f as Q X) X := h
 rw [he] at hs ⊢
 exact evalArgs_plain (hs.then r (.refl ..) fun vs as st1 s1 h1 r1 v1 t1 => ⟨r1.stay, wpAny_mono (h1 s1 vs r1 v1) (fun _ _ p => p.lift t1) fun _ _ p => p.lift t1⟩)
theorem TE_call {x : Str} {p : Pos} {es : List Expr} {f : Value} {Q : AV → St → Prop} (hl : (x, f) ∈ c.globs) (h : CW c st pos f es Q X)
  (he : eval (.Call (.Name x p) es [] pos) c.env = (do callWith pos (← eval (.Name x p) c.env) [] (backTo pos (starEach es c.env)) (backToKw pos (keywordEach [] c.env)))) : TE c st (.Call (.Name x p) es [] pos) Q X := fun s r =>
 Call_ ((TE_glob (X := X) (Q := fun a st1 => a = .v f ∧ st1 = st) hl ⟨rfl, rfl⟩).then r (.refl ..) fun v a st1 s1 h1 r1 v1 t1 => by
  refine o01 h1 fun zz1 zz2 => ?_
  try clear h1
  subst zz1
  subst zz2
  obtain rfl : v = f := v1
  exact T.last h r1 t1) he
structure Meth (st : St) (x : AV) (name : Str) (id : String) : Prop where
 run : ∀ (c : Cx) (s : Shared) (v : Value) (pl : Sem Bool) (W : Value × List Value → Shared → Prop) (E : Value → Shared → Prop), Rel c st s → RV (fz c st s.heap) x v →
 (∀ s', Gr s s' → W (.builtin id, [v]) s') → wpAny c.M c.A (getMethod v name pl) W E s
theorem TE_meth {o : Expr} {name : Str} {apos : Pos} {es : List Expr} {Q : AV → St → Prop}
  (h : TE c st o (fun x st1 => ∃ id, Meth st1 x name id ∧ match es with
   | [] => TC c st1 (.builtin id) [x] Q X
   | e :: es => TA c st1 pos (e :: es) (fun as st2 => TC c st2 (.builtin id) (x :: as) Q X) X) X)
  (hs : es = [] ∨ ∃ e rest, es = e :: rest ∧ starEach (e :: rest) c.env = (false, eval e c.env) :: starEach rest c.env) (hp : (backTo pos (starEach es c.env)).any (·.1) = false)
  (he : ∃ pl, eval (.Call (.Attribute o name apos) es [] pos) c.env = (do
   let ov ← eval o c.env
   standAt apos.atName
   let (f, first) ← holding [ov] (getMethod ov name pl)
   callWith pos f first (backTo pos (starEach es c.env)) [])) : TE c st (.Call (.Attribute o name apos) es [] pos) Q X := fun s r => by
 refine o10 he fun pl _ => ?_
 clear he
 rename_i he
 refine MethodCall_ (pl := pl) (h.then r (.refl ..) fun v x st1 s1 zm0 r1 v1 t1 => o11 zm0 fun id h1 h2 => h1.run c s1 v pl _ _ r1 v1 fun s2 g => ?_) he
 have r2 := r1.gr g
 have t2 := t1.trans (.gr g)
 have v2 := v1.keeps g.fz
 refine callWith_T (.inl ⟨id, rfl⟩) r.ok.base hp ?_
 rcases hs with rfl | ⟨e, rest, rfl, hs⟩
 ·exact PyProof.Rows.evalArgs_none ⟨r2.stay, wpAny_mono (h2 s2 [v] r2 ⟨v, [], rfl, v2, rfl⟩) (fun _ _ p => p.lift t2) fun _ _ p => p.lift t2⟩
 ·have hs' : T RVs c st1 (spliced (backTo pos (starEach (e :: rest) c.env))) (fun as st2 => TC c st2 (.builtin id) (x :: as) Q X) X := h2
  rw [hs] at hs' ⊢
  exact evalArgs_plain (hs'.then r2 t2 fun vs as st3 s3 h3 r3 v3 t3 => ⟨r3.stay, wpAny_mono (h3 s3 (v :: vs) r3 ⟨v, vs, rfl, v2.keeps t3.fz, v3⟩) (fun _ _ p => p.lift (t2.trans t3)) fun _ _ p => p.lift (t2.trans t3)⟩)
end
end
section
theorem GOp.of_toks {c : Cx} {st : St} {s : Shared} {t : Sem Value} {K : AV → Prop} {p : PyData} (hk : K (.d p))
  (h : ∀ (W : Value → Shared → Prop) (E : Value → Shared → Prop), (∀ v tk, RD (fz c st s.heap) p v → W v { s with toks := tk }) → wpAny c.M c.A t W E s) : GOp c st s t K :=
 ⟨h _ _ fun v tk hv => (i12 _ hk (.toks _ _) hv)⟩
section
variable {i j : Int} {x y : Str} {K : AV → Prop} {st : St}
theorem Bin.add_int (h : K (.d (.int (i + j)))) : Bin .Add (.d (.int i)) (.d (.int j)) K := fun c st s v w r hv hw => by
 refine o10 hv.int fun t zz1 => ?_
 subst zz1; refine o10 hw.int fun u zz1 => ?_; subst zz1
 exact .of_toks h fun W E k => by (with_reducible refine P.add_int ?_); exact k _ _ .of_int
theorem Bin.sub_int (h : K (.d (.int (i - j)))) : Bin .Sub (.d (.int i)) (.d (.int j)) K := fun c st s v w r hv hw => by
 refine o10 hv.int fun t zz1 => ?_
 subst zz1; refine o10 hw.int fun u zz1 => ?_; subst zz1
 exact .of_toks h fun W E k => by (with_reducible refine P.sub_int ?_); exact k _ _ .of_int
theorem Bin.mul_int (hm : IntMulOk i j) (h : K (.d (.int (i * j)))) : Bin .Mult (.d (.int i)) (.d (.int j)) K := fun c st s v w r hv hw => by
 refine o10 hv.int fun t zz1 => ?_
 subst zz1; refine o10 hw.int fun u zz1 => ?_; subst zz1
 exact .of_toks h fun W E k => by (with_reducible refine P.mul_int ?_ hm); exact k _ _ .of_int
theorem Bin.mod_int (hj : j ≠ 0) (h : K (.d (.int (i.fmod j)))) : Bin .Mod (.d (.int i)) (.d (.int j)) K := fun c st s v w r hv hw => by
 refine o10 hv.int fun t zz1 => ?_
 subst zz1; refine o10 hw.int fun u zz1 => ?_; subst zz1
 exact .of_toks h fun W E k => by (with_reducible refine PyProof.Rows.mod_int' hj ?_); exact k _ _ .of_int
theorem Bin.div_int (hj : j ≠ 0) (hp : Builtin.divisionGoesByPylong i j = false) (h : K (.d (.int (i.fdiv j)))) : Bin .FloorDiv (.d (.int i)) (.d (.int j)) K := fun c st s v w r hv hw => by
 refine o10 hv.int fun t zz1 => ?_
 subst zz1; refine o10 hw.int fun u zz1 => ?_; subst zz1
 exact .of_toks h fun W E k => by (with_reducible refine PyProof.Rows.floordiv_int hj ?_ (.inl hp)); exact k _ _ .of_int
theorem Bin.pow_int (hn : 0 ≤ j) (hsz : (Builtin.Int.intBits i : Int) * j ≤ 2 ^ 27) (h : K (.d (.int (i ^ j.toNat)))) : Bin .Pow (.d (.int i)) (.d (.int j)) K := fun c st s v w r hv hw => by
 refine o10 hv.int fun t zz1 => ?_
 subst zz1; refine o10 hw.int fun u zz1 => ?_; subst zz1
 exact .of_toks h fun W E k => by (with_reducible refine PyProof.Rows.pow_int hn hsz ?_); exact k _ _ .of_int
theorem IBin.add_int (h : K (.d (.int (i + j)))) : IBin .Add (.d (.int i)) (.d (.int j)) K := fun c st s v w r hv hw => by
 refine o10 hv.int fun t zz1 => ?_
 subst zz1; refine o10 hw.int fun u zz1 => ?_; subst zz1
 exact .of_toks h fun W E k => by (with_reducible refine P.iadd_int ?_); exact k _ _ .of_int
theorem IBin.sub_int (h : K (.d (.int (i - j)))) : IBin .Sub (.d (.int i)) (.d (.int j)) K := fun c st s v w r hv hw => by
 refine o10 hv.int fun t zz1 => ?_
 subst zz1; refine o10 hw.int fun u zz1 => ?_; subst zz1
 exact .of_toks h fun W E k => by (with_reducible refine P.isub_int ?_); exact k _ _ .of_int
theorem Un.neg_int (h : K (.d (.int (-i)))) : Un .USub (.d (.int i)) K := fun c st s v r hv => by
 refine o10 hv.int fun t zz1 => ?_
 subst zz1
 exact .of_toks h fun W E k => by (with_reducible refine P.neg_int ?_); exact k _ _ .of_int
theorem Un.not {a : AV} {b : Bool} (ht : Tru a b) (h : K (.d (.bool (!b)))) : Un .Not a K := fun c st s v r hv =>
 ⟨PyProof.Rows.not_of (wpAny_mono (ht.run c st s v r hv) (fun a s' zm3 => o01 zm3 fun e g => by subst e; exact i12 _ h g .of_bool) fun _ _ x => x)⟩
theorem Bin.add_str (hsz : x.length + y.length ≤ 1000000) (h : K (.d (.str (x ++ y)))) : Bin .Add (.d (.str x)) (.d (.str y)) K := fun c st s v w r hv hw => by
 refine o10 hv.str fun t zz1 => ?_
 subst zz1; refine o10 hw.str fun u zz1 => ?_; subst zz1
 refine .of_toks h fun W E k => ?_
 (with_reducible refine P.add_str ?_)
 by_cases hx : (x.length == 0) = true
 ·rw [if_pos hx]
  exact k (.str y u) s.toks (by rw [Str.append_left_empty hx]; exact .of_str)
 ·rw [if_neg hx]
  by_cases hy : (y.length == 0) = true
  ·rw [if_pos hy]
   exact k (.str x t) s.toks (by rw [Str.append_right_empty hy]; exact .of_str)
  ·rw [if_neg hy]
   exact ⟨by rw [Str.length_append, sizeLine_eq]; exact fg (.le (.a (.v 0) (.v 1)) (.c 16777216)) [.le (.a (.v 0) (.v 1)) (.c 1000000)] [1,1] [] rfl [_,_] [] hsz, k _ _ .of_str⟩
theorem Cmp.of {op : CmpOp} {a b : AV} {z : Bool} (h : ∀ c s v w, Rel c st s → RV (fz c st s.heap) a v → RV (fz c st s.heap) b w → ∀ (W : Value → Shared → Prop) (E : Value → Shared → Prop), (∀ tk, W (.bool z) { s with toks := tk }) → wpAny c.M c.A (compareOp op v w) W E s) : Cmp st op a b z :=
 ⟨fun c s v w r hv hw => ⟨h c s v w r hv hw _ _ fun tk => (i12 _ rfl (.toks _ _) .of_bool)⟩⟩
theorem Cmp.eq_int : Cmp st .Eq (.d (.int i)) (.d (.int j)) (i == j) := .of fun c s v w r hv hw W E k => by
 refine o10 hv.int fun t zz1 => ?_
 subst zz1; refine o10 hw.int fun u zz1 => ?_; subst zz1; (with_reducible refine P.eq_int ?_); exact k _
theorem Cmp.ne_int : Cmp st .NotEq (.d (.int i)) (.d (.int j)) (i != j) := .of fun c s v w r hv hw W E k => by
 refine o10 hv.int fun t zz1 => ?_
 subst zz1; refine o10 hw.int fun u zz1 => ?_; subst zz1; (with_reducible refine P.ne_int ?_); exact k _
theorem Cmp.lt_int : Cmp st .Lt (.d (.int i)) (.d (.int j)) (decide (i < j)) := .of fun c s v w r hv hw W E k => by
 refine o10 hv.int fun t zz1 => ?_
 subst zz1; refine o10 hw.int fun u zz1 => ?_; subst zz1; (with_reducible refine P.lt_int ?_); exact k _
theorem Cmp.le_int : Cmp st .LtE (.d (.int i)) (.d (.int j)) (decide (i ≤ j)) := .of fun c s v w r hv hw W E k => by
 refine o10 hv.int fun t zz1 => ?_
 subst zz1; refine o10 hw.int fun u zz1 => ?_; subst zz1; (with_reducible refine P.le_int ?_); exact k _
theorem Cmp.gt_int : Cmp st .Gt (.d (.int i)) (.d (.int j)) (decide (i > j)) := .of fun c s v w r hv hw W E k => by
 refine o10 hv.int fun t zz1 => ?_
 subst zz1; refine o10 hw.int fun u zz1 => ?_; subst zz1; (with_reducible refine P.gt_int ?_); exact k _
theorem Cmp.ge_int : Cmp st .GtE (.d (.int i)) (.d (.int j)) (decide (i ≥ j)) := .of fun c s v w r hv hw W E k => by
 refine o10 hv.int fun t zz1 => ?_
 subst zz1; refine o10 hw.int fun u zz1 => ?_; subst zz1; (with_reducible refine P.ge_int ?_); exact k _
theorem str_beq : (x.cps.toList == y.cps.toList) = (x == y) := by
 obtain ⟨⟨a⟩⟩ := x; obtain ⟨⟨b⟩⟩ := y
 by_cases h : a = b
 ·subst h; simp
 ·have : (Str.mk ⟨a⟩ == Str.mk ⟨b⟩) = false := by simp [h]
  rw [this]; simp [h]
theorem Cmp.eq_str : Cmp st .Eq (.d (.str x)) (.d (.str y)) (x == y) := .of fun c s v w r hv hw W E k => by
 refine o10 hv.str fun t zz1 => ?_
 subst zz1; refine o10 hw.str fun u zz1 => ?_; subst zz1; (with_reducible refine P.eq_str ?_); rw [str_beq]; exact k s.toks
theorem Cmp.ne_str : Cmp st .NotEq (.d (.str x)) (.d (.str y)) (x != y) := .of fun c s v w r hv hw W E k => by
 refine o10 hv.str fun t zz1 => ?_
 subst zz1; refine o10 hw.str fun u zz1 => ?_; subst zz1; (with_reducible refine P.ne_str ?_); rw [show (x.cps.toList != y.cps.toList) = (x != y) from by rw [bne, bne, str_beq]]; exact k s.toks
noncomputable def isNone : PyData → Bool
 | .none => true
 | _ => false
theorem RD.none_iff {G : Heap} {p : PyData} {v : Value} (h : RD G p v) : (v == .none) = isNone p := by
 refine o10 h fun as r => ?_
 try clear h
 cases r <;> rfl
theorem Cmp.is_none {p : PyData} : Cmp st .Is (.d p) (.d .none) (isNone p) := .of fun c s v w r hv hw W E k => by
 rw [hw.none]; (with_reducible refine PySem.is_none ?_); rw [RD.none_iff hv]; exact k s.toks
theorem Cmp.isNot_none {p : PyData} : Cmp st .IsNot (.d p) (.d .none) (!isNone p) := .of fun c s v w r hv hw W E k => by
 rw [hw.none]; (with_reducible refine PySem.isNot_none ?_); rw [RD.none_iff hv]; exact k s.toks
theorem Cmp.isNot_ref {a : Addr} : Cmp st .IsNot (.v (.ref a)) (.d .none) true := .of fun c s v w r hv hw W E k => by
 rw [hw.none, show v = .ref a from hv]; exact PySem.isNot_none (k s.toks)
theorem Cmp.is_ref {a : Addr} : Cmp st .Is (.v (.ref a)) (.d .none) false := .of fun c s v w r hv hw W E k => by
 rw [hw.none, show v = .ref a from hv]; exact PySem.is_none (k s.toks)
theorem fz_sub {c : Cx} {st : St} {h : Heap} : (fz c st h).StaysIn h := fun b o e => (fz_iff.mp e).1
theorem RD.up {c : Cx} {st : St} {h : Heap} {p : PyData} {v : Value} (r : RD (fz c st h) p v) : RD h p v := r.keeps fz_sub
theorem units_lt {c : Cx} {st : St} {s : Shared} (r : Rel c st s) : c.A.units < 4000 := by have := r.ok.units; exact fg (.lt (.v 0) (.c 4000)) [.lt (.a (.v 0) (.m 8 (.v 1))) (.c 4000)] [1,1] [0,8] rfl [_,_] [] this
noncomputable def strsIn (x : Str) (ys : List Str) : Bool := ys.any fun y => y == x
noncomputable def eqTo (x : Str) (v : Value) : Bool := match v with
 | .str y _ => y == x
 | _ => false
theorem strs_any {G : Heap} {x : Str} : ∀ {ys : List Str} {vs : List Value}, RDs G (ys.map .str) vs → vs.any (eqTo x) = strsIn x ys ∧ ∀ v ∈ vs, ∃ y t, v = .str y t
 | [], _, r => by rw [r.inv_nil]; exact ⟨rfl, fun _ h => nomatch h⟩
 | y :: ys, _, r => by
  refine o22 r.inv_cons fun v vs' zz1 a b => ?_
  subst zz1
  refine o10 a.str fun t zz1 => ?_
  subst zz1
  obtain ⟨h1, h2⟩ := strs_any b
  refine ⟨?_, fun v hv => ?_⟩
  ·rw [List.any_cons, h1]; rfl
  ·rcases List.mem_cons.mp hv with rfl | hv
   ·exact i20 _ _ rfl
   ·exact h2 v hv
theorem Cmp.in_strs {ys : List Str} : Cmp st .In (.d (.str x)) (.d (.tuple (ys.map .str))) (strsIn x ys) := .of fun c s v w r hv hw W E k => by
 refine o10 hv.str fun t zz1 => ?_
 subst zz1
 refine o44 hw.up.tuple fun a o vs n zz1 h1 h2 h3 h4 => ?_
 subst zz1
 refine o01 (strs_any (x := x) h4) fun e1 e2 => ?_
 have hl : s.heap.IsTuple a vs := ⟨o, h1, h2, n, h3⟩
 (with_reducible refine SeqAt.in_tupleAt (eqTo x) hl (fun y hy => ?_) ?_)
 ·refine o20 (e2 y (by simpa using hy)) fun z u zz1 => ?_
  subst zz1
  exact SeqAt.EqAt.str_str z u x t
 ·rw [← Array.any_toList, e1]; exact k s.toks
theorem Cmp.notIn_strs {ys : List Str} : Cmp st .NotIn (.d (.str x)) (.d (.tuple (ys.map .str))) (!strsIn x ys) := .of fun c s v w r hv hw W E k => by
 refine o10 hv.str fun t zz1 => ?_
 subst zz1
 refine o44 hw.up.tuple fun a o vs n zz1 h1 h2 h3 h4 => ?_
 subst zz1
 refine o01 (strs_any (x := x) h4) fun e1 e2 => ?_
 have hl : s.heap.IsTuple a vs := ⟨o, h1, h2, n, h3⟩
 (with_reducible refine SeqAt.notIn_tupleAt (eqTo x) hl (fun y hy => ?_) ?_)
 ·refine o20 (e2 y (by simpa using hy)) fun z u zz1 => ?_
  subst zz1
  exact SeqAt.EqAt.str_str z u x t
 ·rw [← Array.any_toList, e1]; exact k s.toks
theorem Cmp.notIn_list {ys : List Str} : Cmp st .NotIn (.d (.str x)) (.d (.list (ys.map .str))) (!strsIn x ys) := .of fun c s v w r hv hw W E k => by
 refine o10 hv.str fun t zz1 => ?_
 subst zz1
 refine o44 hw.up.list fun a o vs n zz1 h1 h2 h3 h4 => ?_
 subst zz1
 refine o01 (strs_any (x := x) h4) fun e1 e2 => ?_
 have hl : s.heap.IsList a vs := ⟨o, h1, h2, n, h3⟩
 (with_reducible refine SeqAt.notIn_listAt (eqTo x) hl (fun y hy => ?_) ?_)
 ·refine o20 (e2 y (by simpa using hy)) fun z u zz1 => ?_
  subst zz1
  exact SeqAt.EqAt.str_str z u x t
 ·rw [← Array.any_toList, e1]; exact k s.toks
theorem Cmp.eq_data {p q : PyData} (hp : p.canLay0 = true) (hq : q.canLay0 = true) (hd : p.depth ≤ 100) : Cmp st .Eq (.d p) (.d q) (PyData.eqv p q) := .of fun c s v w r hv hw W E k => by
 refine o10 hv.up fun _ a => ?_; refine o10 hw.up fun _ b => ?_
 (with_reducible refine SeqAt.compareEq_reads a b hp hq ?_ (k s.toks))
 exact Nat.lt_of_le_of_lt (Nat.add_le_add (Nat.le_of_lt (units_lt r)) (Nat.le_trans (Nat.min_le_left _ _) hd)) (show 4000 + 100 < cLine by decide)
theorem Cmp.ne_data {p q : PyData} (hp : p.canLay0 = true) (hq : q.canLay0 = true) (hd : p.depth ≤ 100) : Cmp st .NotEq (.d p) (.d q) (!PyData.eqv p q) := .of fun c s v w r hv hw W E k => by
 refine o10 hv.up fun _ a => ?_; refine o10 hw.up fun _ b => ?_
 (with_reducible refine SeqAt.compareNe_reads a b hp hq ?_ (k s.toks))
 exact Nat.lt_of_le_of_lt (Nat.add_le_add (Nat.le_of_lt (units_lt r)) (Nat.le_trans (Nat.min_le_left _ _) hd)) (show 4000 + 100 < cLine by decide)
theorem Tru.int : Tru (.d (.int i)) (i != 0) := ⟨fun c st s v r hv => by
 refine o10 hv.int fun t zz1 => ?_
 subst zz1; (with_reducible refine P.truthy_int ?_); exact ⟨rfl, .refl _⟩⟩
theorem Tru.none : Tru (.d .none) false := ⟨fun c st s v r hv => by
 rw [hv.none]; exact PyProof.Rows.truthy_none ⟨rfl, .refl _⟩⟩
theorem Tru.str (hx : x.length ≤ 1000000) : Tru (.d (.str x)) (x.length != 0) := .mk fun c st s v r hv => by
 refine o10 hv.str fun t zz1 => ?_
 subst zz1
 (with_reducible refine P.truthy_str (Int.not_le.mpr (nle63 hx)) ?_)
 refine ⟨?_, .toks _ _⟩
 generalize x.length = n
 cases n with
 | zero => rfl
 | succ n => rw [bne_iff_ne.mpr (Int.ofNat_ne_zero.mpr (Nat.succ_ne_zero n) : ((n + 1 : Nat) : Int) ≠ 0), bne_iff_ne.mpr (Nat.succ_ne_zero n : n + 1 ≠ 0)]
end
section
variable {c : Cx} {st : St} {X : Flds → List (Option AV) → Prop} {pos pos' : Pos} {k : Nat}
noncomputable def AVs (ps : List PyData) : List AV := ps.map .d
theorem RVs.data {G : Heap} : ∀ {ps : List PyData} {vs : List Value}, RVs G (AVs ps) vs → RDs G ps vs
 | [], _, e => by rw [show _ = [] from e]; exact .nil
 | _ :: _, _, ⟨v, vs', e, a, b⟩ => by subst e; exact .cons a (RVs.data b)
theorem not_mem_none {s : Shared} (r : Rel c st s) {a : Addr} (h : s.heap.get? a = none) : a ∉ c.own ∧ a ∉ c.ctl ∧ a ∉ c.priv ∧ a ∉ madd st.mu := by
 have key : ∀ P : Prop, (P → (s.heap.get? a).isSome = true) → ¬ P := fun P k p => by
  have := k p
  rw [h] at this; cases this
 exact i03 (key _ fun m => r.live _ (.inl m)) (key _ fun m => r.live _ (.inr (.inl m))) (key _ fun m => r.live _ (.inr (.inr m))) (key _ fun m => (r.apart _ m).2.2.2.2)
theorem TE_tuple {es : List Expr} {Q : AV → St → Prop} (h : TA c st pos es (fun as st1 => ∃ ps, as = AVs ps ∧ ps.length ≤ 1000000 ∧ Q (.d (.tuple ps)) st1) X) : TE c st (.Tuple es k pos) Q X := fun s r =>
 Tuple_ (h.then r (.refl ..) fun vs as st1 s1 zm2 r1 v1 t1 => o12 zm2 fun ps h1 h2 h3 => by
  subst h1
  have hv := v1.data
  have g := Gr.push s1 { cls := .type "tuple", data := .seq vs.toArray }
  refine wpAny_newObj_type ((Post.gr r1 g h3 ?_).lift t1) (by show vs.toArray.size ≤ sizeLine; rw [List.size_toArray, hv.length, sizeLine_eq]; exact fg (.le (.v 0) (.c 16777216)) [.le (.v 0) (.c 1000000)] [1,1] [] rfl [_] [] h2)
  refine RD.of_tuple (o := { cls := .type "tuple", data := .seq vs.toArray }) (fz_iff.mpr ⟨Heap.get?_push_size _ rfl, ?_⟩) rfl rfl (hv.keeps g.fz)
  exact not_mem_new r1)
where
 not_mem_new {c : Cx} {st : St} {s : Shared} (r : Rel c st s) : s.heap.objs.size ∉ c.own ∧ s.heap.objs.size ∉ c.ctl ∧ s.heap.objs.size ∉ c.priv ∧ s.heap.objs.size ∉ madd st.mu :=
  not_mem_none r (get_new _)
theorem TE_list {es : List Expr} {Q : AV → St → Prop} (h : TA c st pos es (fun as st1 => ∃ ps, as = AVs ps ∧ ps.length ≤ 1000000 ∧ Q (.d (.list ps)) st1) X) : TE c st (.List es pos) Q X := fun s r =>
 List_ (h.then r (.refl ..) fun vs as st1 s1 zm1 r1 v1 t1 => o12 zm1 fun ps h1 h2 h3 => by
  subst h1
  have hv := v1.data
  have g := Gr.push s1 { cls := .type "list", data := .seq vs.toArray }
  refine wpAny_newObj_type ((Post.gr r1 g h3 ?_).lift t1) (by show vs.toArray.size ≤ sizeLine; rw [List.size_toArray, hv.length, sizeLine_eq]; exact fg (.le (.v 0) (.c 16777216)) [.le (.v 0) (.c 1000000)] [1,1] [] rfl [_] [] h2)
  exact RD.of_list (o := { cls := .type "list", data := .seq vs.toArray }) (fz_iff.mpr ⟨Heap.get?_push_size _ rfl, TE_tuple.not_mem_new r1⟩) rfl rfl (hv.keeps g.fz))
theorem TE_list_mu {es : List Expr} {Q : AV → St → Prop} (h : TA c st pos es (fun as st1 => ∃ ps, as = AVs ps ∧ ps.length ≤ 1000000 ∧ ∀ a, Q (.v (.ref a)) ⟨st1.loc, (a, .list ps) :: st1.mu⟩) X) : TE c st (.List es pos) Q X := fun s r =>
 List_ (h.then r (.refl ..) fun vs as st1 s1 zm0 r1 v1 t1 => o12 zm0 fun ps h1 h2 h3 => by
  subst h1
  have hv := v1.data
  have g := Gr.push s1 { cls := .type "list", data := .seq vs.toArray }
  have nm := TE_tuple.not_mem_new r1
  refine wpAny_newObj_type ?_ (by show vs.toArray.size ≤ sizeLine; rw [List.size_toArray, hv.length, sizeLine_eq]; exact fg (.le (.v 0) (.c 16777216)) [.le (.v 0) (.c 1000000)] [1,1] [] rfl [_] [] h2)
  have key := r1.change (s' := { s1 with heap := s1.heap.push { cls := .type "list", data := .seq vs.toArray } }) (mu' := (s1.heap.objs.size, .list ps) :: st1.mu) (fun b o e _ _ _ => g.keep b o e) (fun b o e _ => ⟨o.slots, g.keep b o e⟩) g.alive ⟨rfl, rfl⟩
   (fun a m => by
    rcases List.mem_append.mp (show a ∈ [s1.heap.objs.size] ++ madd st1.mu from m) with m | m
    ·rw [List.mem_singleton.mp m]; exact ⟨.inr (get_new _), by rw [Heap.get?_push_size _ rfl]; rfl⟩
    ·refine ⟨.inl m, ?_⟩
     refine o10 (Option.isSome_iff_exists.mp (r1.apart a m).2.2.2.2) fun o ho => ?_
     rw [g.keep a o ho]; rfl)
   (by show (s1.heap.objs.size :: madd st1.mu).Nodup; exact List.nodup_cons.mpr ⟨nm.2.2.2, r1.nodup⟩)
   (fun fzs p hp => by
    rcases List.mem_cons.mp hp with rfl | hp
    ·exact ⟨vs.toArray, 0, Heap.get?_push_size _ rfl, by simpa using hv.keeps fzs, h2⟩
    ·exact (r1.muts p hp).lift fzs fun x _ o e => g.keep x o e)
  exact ⟨_, _, h3 s1.heap.objs.size, key.1, t1.trans key.2, rfl⟩)
end
end
section
section
variable {c : Cx} {st : St} {X : Flds → List (Option AV) → Prop} {pos pos' : Pos} {k : Nat}
theorem passes (hF : c.Fn) {st : St} {s : Shared} : PassesOwn c.M c.A c.env (EPost X c st s) := fun ev s' zm2 => o54 zm2 fun e dx fs tb loc he hx hfl r t => by
 subst he
 unfold notedBy
 refine note_frame r hF hfl fun T s1 r1 t1 => ?_
 unfold cameBackBy
 refine o02 (r1.muts _ (.head _)) fun ne zz1 _ => ?_
 refine o12 zz1 fun vs hg hsz h1 => ?_
 clear zz1
 dsimp only at hg h1
 refine wpAny_bind (wpAny_field hg rfl h1 ?_)
 rw [if_neg (show ¬ ((Value.ref T == Value.none) = true) from by simp)]
 refine set_flight r1 fun s2 r2 t2 => ?_
 refine ⟨e, dx, fs, some (T, _), loc, rfl, hx, ?_, r2, (t.trans t1).trans t2⟩
 rw [hF.frame]
 exact .inr (i11 _ hF.frame rfl)
inductive LeL : List (Option AV) → List (Option AV) → Prop
 | nil {l} : LeL [] l
 | none {a l l'} : LeL l l' → LeL (none :: l) (a :: l')
 | same {a l l'} : LeL l l' → LeL (a :: l) (a :: l')
theorem LeL.at {l l' : List (Option AV)} (h : LeL l l') : ∀ (i : Nat) a, l[i]? = some (some a) → l'[i]? = some (some a) := by
 induction h with
 | nil => intro i a e; simp at e
 | none _ ih =>
  intro i a e
  cases i with
  | zero => simp at e
  | succ i => simpa using ih i a (by simpa using e)
 | same _ ih =>
  intro i a e
  cases i with
  | zero => simpa using e
  | succ i => simpa using ih i a (by simpa using e)
structure Le (st' st : St) : Prop where
 loc : LeL st'.loc st.loc
 mu : st'.mu = st.mu
theorem LeL.refl : ∀ {l : List (Option AV)}, LeL l l
 | [] => .nil
 | _ :: _ => .same LeL.refl
theorem Le.refl {st : St} : Le st st := ⟨.refl, rfl⟩
theorem Rel.le {s : Shared} {st' : St} (r : Rel c st s) (h : Le st' st) : Rel c st' s ∧ Tr c st s st' s := by
 obtain ⟨l', m'⟩ := st'
 obtain ⟨l, m⟩ := st
 obtain ⟨h1, h2⟩ := h
 dsimp only at h1 h2
 subst h2
 exact ⟨⟨r.ok, r.stay, r.ff, r.live, r.ns, r.cells, fun i x a e1 e2 => r.names i x a e1 (h1.at i a e2), r.muts, r.nodup, r.apart⟩, ⟨fun _ _ e _ _ _ => e, fun _ o e _ => ⟨o.slots, e⟩, fun _ h => .inl h, fun _ h => h, rfl, rfl⟩⟩
theorem T.le {α β : Type} {R : Heap → β → α → Prop} {t : Sem α} {Q : β → St → Prop} {st' : St} (h : Le st' st) (p : T R c st' t Q X) : T R c st t Q X := fun s r =>
 let ⟨r', t'⟩ := r.le h; p.last r' t'
noncomputable abbrev WhileQ {σ : Type} (Q : AF → St → Prop) (S : σ → St) (I : σ → Prop) (m : σ → Nat) (a : σ) : AF → St → Prop
 | .next, st2 => ∃ a', Le (S a') st2 ∧ I a' ∧ m a' < m a
 | .cont, st2 => ∃ a', Le (S a') st2 ∧ I a' ∧ m a' < m a
 | .brk, st2 => Q .next st2
 | .ret v, st2 => Q (.ret v) st2
theorem TS_while {σ : Type} (S : σ → St) (I : σ → Prop) (m : σ → Nat) (a0 : σ) (hF : c.Fn) {test : Expr} {body : List Stmt} {Q : AF → St → Prop} (hle : Le (S a0) st) (h0 : I a0)
  (turn : ∀ a, I a → TB c (S a) test (fun b st1 => if b then TL c st1 body (WhileQ Q S I m a) X else Q .next st1) X) : TS c st (.While test body [] pos) Q X := T.le hle fun s r => by
 have pp := fun (st : St) (s : Shared) => passes (X := X) hF (st := st) (s := s)
 refine wpAny_While (codeAny_whileLoop (fun n s' => ∃ a, m a = n ∧ I a ∧ Rel c (S a) s' ∧ Tr c (S a0) s (S a) s') ?_ (m a0) (i13 a0 rfl h0 r (.refl ..)))
 intro n s' ⟨a, hn, hI, r1, t1⟩
 refine wpAny_mono (turn a hI s' r1) (fun b' s2 zm1 => o23 zm1 fun b st2 h2 r2 t2 hb => ?_) fun e s2 h => pp _ _ _ _ (h.lift t1)
 obtain rfl : b' = b := hb
 cases b' with
 | true =>
  rw [if_pos rfl] at h2 ⊢
  refine wpAny_mono (h2 s2 r2) (fun f s3 zm0 => o23 zm0 fun af st3 h3 r3 t3 hf => ?_) fun e s3 h => pp _ _ _ _ ((h.lift t2).lift t1)
  cases af with
  | next =>
   obtain rfl : f = .next := hf
   refine o12 h3 fun a' hle hi hm => ?_
   try clear h3
   refine o01 (r3.le hle) fun r4 t4 => ?_
   exact ⟨m a', hn ▸ hm, a', rfl, hi, r4, ((t1.trans t2).trans t3).trans t4⟩
  | cont =>
   obtain rfl : f = .cont := hf
   refine o12 h3 fun a' hle hi hm => ?_
   try clear h3
   refine o01 (r3.le hle) fun r4 t4 => ?_
   exact ⟨m a', hn ▸ hm, a', rfl, hi, r4, ((t1.trans t2).trans t3).trans t4⟩
  | brk =>
   obtain rfl : f = .brk := hf
   exact ⟨.next, st3, h3, r3, (t1.trans t2).trans t3, rfl⟩
  | ret v =>
   obtain ⟨w, rfl, q⟩ : ∃ w, f = .ret w ∧ RV _ v w := hf
   exact ⟨.ret v, st3, h3, r3, (t1.trans t2).trans t3, w, rfl, q⟩
 | false =>
  rw [if_neg Bool.false_ne_true] at h2 ⊢
  refine wpAny_execs_nil ?_
  exact ⟨.next, st2, h2, r2, t1.trans t2, rfl⟩
end
end
section
noncomputable abbrev Cx.rep (c : Cx) (p : List Addr) : Cx := { c with priv := p }
section
variable {c : Cx} {st : St} {X : Flds → List (Option AV) → Prop} {pos pos' : Pos} {k : Nat}
theorem Rel.rep {s s' : Shared} {it : Addr} {p : List Addr} (r : Rel c st s) (hs : ∀ b o, b ≠ it → s.heap.get? b = some o → s'.heap.get? b = some o) (hit : (it ∈ c.priv ∧ it ∉ c.ctl ∧ c.base.get? it = none) ∨ s.heap.get? it = none)
  (hp : ∀ a ∈ p, (a ∈ c.priv ∨ s.heap.get? a = none) ∧ (s'.heap.get? a).isSome = true) :
  Rel (c.rep p) st s' ∧ (fz c st s.heap).StaysIn (fz (c.rep p) st s'.heap) := by
 have dead : ∀ P : Prop, (P → (s.heap.get? it).isSome = true ∧ it ∉ c.priv) → ¬ P := fun P k q => by
  refine o01 (k q) fun h1 h2 => ?_
  rcases hit with ⟨h, _⟩ | h
  ·exact h2 h
  ·rw [h] at h1; cases h1
 have nOwn : it ∉ c.own := dead _ fun m => ⟨r.live _ (.inl m), (r.ok.ownCtl _ m).2⟩
 have nMu : it ∉ madd st.mu := dead _ fun m => ⟨(r.apart _ m).2.2.2.2, (r.apart _ m).2.2.1⟩
 have nCtl : it ∉ c.ctl := by
  rcases hit with ⟨_, h, _⟩ | h
  ·exact h
  ·exact fun m => by have := r.live _ (.inr (.inl m)); rw [h] at this; cases this
 have nBase : ∀ o, c.base.get? it ≠ some o := fun o e => by
  rcases hit with ⟨_, _, h⟩ | h
  ·rw [h] at e; cases e
  ·rw [r.stay _ _ e] at h; cases h
 have np : ∀ a, (s.heap.get? a).isSome = true → a ∉ c.priv → a ∉ p := fun a h1 h2 m => by
  rcases (hp a m).1 with h | h
  ·exact h2 h
  ·rw [h] at h1; cases h1
 have keep : ∀ b o, b ∉ c.priv → s.heap.get? b = some o → s'.heap.get? b = some o := fun b o hb e => hs b o (fun q => by
  rcases hit with ⟨h, _⟩ | h
  ·exact hb (q ▸ h)
  ·rw [q, h] at e; cases e) e
 have alive : ∀ a, a ≠ it → (s.heap.get? a).isSome = true → (s'.heap.get? a).isSome = true := fun a hb h => by
  refine o10 (Option.isSome_iff_exists.mp h) fun o ho => ?_
  rw [hs a o hb ho]; rfl
 have fzs : (fz c st s.heap).StaysIn (fz (c.rep p) st s'.heap) := fun b o e => by
  refine o04 (fz_iff.mp e) fun e h1 h2 h3 h4 => ?_
  exact fz_iff.mpr (i04 (keep b o h3 e) h1 h2 (np b (by rw [e]; rfl) h3) h4)
 have ownKeep : ∀ b o, b ∈ c.own ∨ b ∈ c.ctl → s.heap.get? b = some o → s'.heap.get? b = some o := fun b o h e => hs b o (fun q => h.elim (fun m => nOwn (q ▸ m)) fun m => nCtl (q ▸ m)) e
 refine ⟨⟨?_, fun b o e => hs b o (fun q => nBase o (q ▸ e)) (r.stay b o e), ?_, fun a h => ?_, ?_, fun x ca hx => ?_, fun i x a h1 h2 => ?_, fun q hq => ?_, r.nodup, fun a ha => ?_⟩, fzs⟩
 ·have k := r.ok
  exact { base := k.base, nodup := k.nodup, kinds := k.kinds, locs := k.locs, cellsAt := k.cellsAt, fn := k.fn, glob := k.glob, globs := k.globs, dbg := k.dbg, loc := k.loc, locBase := k.locBase, cellIn := k.cellIn, cellOwn := k.cellOwn, cellNe := k.cellNe, cellInj := k.cellInj, ownCtl := fun a m => ⟨(k.ownCtl a m).1, np a (r.live a (.inl m)) (k.ownCtl a m).2⟩, ownBase := k.ownBase, ctlBase := k.ctlBase, privBase := fun a m => (hp a m).1.elim (k.privBase a) (fun h => by
       cases q : c.base.get? a with
       | none => rfl
       | some o => rw [r.stay a o q] at h; cases h), handled := k.handled, stack := k.stack, frIn := k.frIn, depth := k.depth, units := k.units }
 ·have key : ∀ l : List Env, (∀ env ∈ l, ∀ L, env.frame = some L → L ∈ c.own ∨ L ∈ c.ctl) → s.heap.FunFrames c.base l → s'.heap.FunFrames c.base l := fun l => by
   induction l with
   | nil => intro _ _; trivial
   | cons env rest ih =>
    intro hin ⟨hk, ⟨L, o, hfr, hn, ho, hd⟩, hr⟩
    exact ⟨hk, (i23 L o hfr hn (ownKeep L o (hin env (.head _) L hfr) ho) hd), ih (fun e he => hin e (.tail _ he)) hr⟩
  exact key _ r.ok.frIn r.ff
 ·rcases h with h | h | h
  ·exact alive a (fun q => nOwn (q ▸ h)) (r.live a (.inl h))
  ·exact alive a (fun q => nCtl (q ▸ h)) (r.live a (.inr (.inl h)))
  ·exact (hp a h).2
 ·refine o41 r.ns fun m o es ep ho q => ?_
  exact ⟨m, o, es, ep, ownKeep _ o (.inl r.ok.loc) ho, q⟩
 ·refine o21 (r.cells x ca hx) fun v o ho q => ?_
  exact ⟨v, o, ownKeep _ o (r.ok.cellIn x ca hx) ho, q⟩
 ·refine o11 (r.names i x a h1 h2) fun v n q => ?_
  refine i11 v ?_ (q.keeps fzs)
  rcases n with ⟨n1, m, ⟨o, es, ep, ho, z⟩, n3⟩ | ⟨n1, ca, n2, o, ho, hd⟩
  ·exact .inl ⟨n1, m, ⟨o, es, ep, ownKeep _ o (.inl r.ok.loc) ho, z⟩, n3⟩
  ·exact .inr ⟨n1, ca, n2, o, ownKeep _ o (r.ok.cellIn x ca n2) ho, hd⟩
 ·exact (r.muts q hq).lift fzs fun x hx o e => hs x o (fun z => nMu (z ▸ List.mem_flatMap.mpr (i11 q hq hx))) e
 ·refine o04 (r.apart a ha) fun h1 h2 h3 h4 h5 => ?_
  exact i04 h1 h2 (np a h5 h3) h4 (alive a (fun z => nMu (z ▸ ha)) h5)
theorem Tr.but {st1 : St} {s s1 s2 : Shared} {it : Addr} (t : Tr c st s st1 s1) (hs : ∀ b o, b ≠ it → s1.heap.get? b = some o → s2.heap.get? b = some o) (hn : s.heap.get? it = none) (hr : s2.gens = s1.gens ∧ s2.os = s1.os) : Tr c st s st1 s2 where
 keep b o e h1 h2 h3 := hs b o (fun q => by rw [q, hn] at e; cases e) (t.keep b o e h1 h2 h3)
 ctl b o e m := let ⟨sl, q⟩ := t.ctl b o e m; ⟨sl, hs b _ (fun q => by rw [q, hn] at e; cases e) q⟩
 fresh := t.fresh
 alive a h := by
  refine o10 (Option.isSome_iff_exists.mp (t.alive a h)) fun o ho => ?_
  rw [hs a o (fun q => by rw [q, hn] at h; cases h) ho]; rfl
 rest := ⟨hr.1.trans t.rest.1, hr.2.trans t.rest.2⟩
theorem Tr.of_rep {p : List Addr} {st1 : St} {s s1 : Shared} (t : Tr (c.rep p) st s st1 s1) : Tr c st s st1 s1 := ⟨t.keep, t.ctl, t.fresh, t.alive, t.rest⟩
theorem Tr.to_rep {p : List Addr} {st1 : St} {s s1 : Shared} (t : Tr c st s st1 s1) : Tr (c.rep p) st s st1 s1 := ⟨t.keep, t.ctl, t.fresh, t.alive, t.rest⟩
theorem keyHash_eq (w : World) (k : Str) : PyData.keyHash w.params k = hashStr w k := rfl
theorem Ents.pairs {w : World} {G : Heap} : ∀ {es : List DictEntry} {kvs : List (Str × PyData)}, Ents w.params G es kvs →
  ∃ kvv : List (Str × Value), Pairs (PySem.strKind pw w) es kvv ∧ (∀ e ∈ es, ∃ k, (PySem.strKind pw w).is k e.key = true ∧ e.hash = (PySem.strKind pw w).hash k) ∧ kvv.map (·.1) = kvs.map (·.1) ∧ RDs G (kvs.map (·.2)) (kvv.map (·.2))
 | [], _, e => by rw [show _ = [] from e]; exact i13 [] .nil (fun _ h => (nomatch h)) rfl .nil
 | e :: es, _, ⟨k, p, kvs', t, rfl, h1, h2, h3, h4⟩ => by
  refine o13 (Ents.pairs h4) fun kvv a1 a2 a3 a4 => ?_
  have hk : (PySem.strKind pw w).is k e.key = true := by rw [h2]; exact strKind_is pw w k t
  refine i13 ((k, e.val) :: kvv) (.cons hk rfl a1) (fun e' he => ?_) (by simp [a3]) (.cons h3 a4)
  rcases List.mem_cons.mp he with rfl | he
  ·exact i11 k hk (by rw [h1, keyHash_eq]; rfl)
  ·exact a2 e' he
theorem Ents.of_pairs {w : World} {G : Heap} : ∀ {es : List DictEntry} {kvv : List (Str × Value)} {kvs : List (Str × PyData)}, Pairs (PySem.strKind pw w) es kvv → (∀ e ∈ es, ∃ k, (PySem.strKind pw w).is k e.key = true ∧ e.hash = (PySem.strKind pw w).hash k) →
  kvv.map (·.1) = kvs.map (·.1) → RDs G (kvs.map (·.2)) (kvv.map (·.2)) → Ents w.params G es kvs
 | _, _, [], .nil, _, _, _ => rfl
 | _, _, _ :: _, .nil, _, e, _ => by simp at e
 | _, _, [], .cons .., _, e, _ => by simp at e
 | e :: es, kv :: kvv, (k, p) :: kvs, .cons h1 h2 h3, hk, hm, hr => by
  simp only [List.map_cons, List.cons.injEq] at hm
  refine o22 hr.inv_cons fun v vs' q a b => ?_
  simp only [List.map_cons, List.cons.injEq] at q
  refine o01 q fun zz1 zz2 => ?_
  try clear q
  subst zz1
  subst zz2
  refine o10 (Value.isStrOf_shape h1) fun t ht => ?_
  refine o11 (hk e (.head _)) fun k' hk1 hk2 => ?_
  have : k' = kv.1 := Value.isStrOf_inj e.key k' kv.1 hk1 h1
  refine ⟨k, p, kvs, t, rfl, ?_, by rw [ht, hm.1], h2 ▸ a, Ents.of_pairs h3 (fun e' he => hk e' (.tail _ he)) hm.2 b⟩
  rw [hk2, this, hm.1, keyHash_eq]; rfl
theorem Ents.dictAt {w : World} {G h : Heap} {a : Addr} {es : List DictEntry} {n : Nat} {kvs : List (Str × PyData)} (e : Ents w.params G es kvs) (hg : h.get? a = some (dictOf es n)) (nd : (kvs.map (·.1)).Nodup) :
  ∃ kvv, h.DictAt (PySem.strKind pw w) a kvv n ∧ kvv.map (·.1) = kvs.map (·.1) ∧ RDs G (kvs.map (·.2)) (kvv.map (·.2)) := by
 refine o13 e.pairs fun kvv a1 a2 a3 a4 => ?_
 exact i12 kvv ⟨_, es.toArray, hg, ⟨rfl, rfl, rfl⟩, rfl, fun e he => a2 e (by simpa using he), by simpa using a1, by rw [a3]; exact nd⟩ a3 a4
theorem Heap.DictAt.ents {w : World} {G h : Heap} {a : Addr} {n : Nat} {kvv : List (Str × Value)} {kvs : List (Str × PyData)} (x : h.DictAt (PySem.strKind pw w) a kvv n) (hm : kvv.map (·.1) = kvs.map (·.1)) (hr : RDs G (kvs.map (·.2)) (kvv.map (·.2))) :
  ∃ es, h.get? a = some (dictOf es n) ∧ Ents w.params G es kvs ∧ (kvs.map (·.1)).Nodup := by
 refine o25 x fun o es ho zz1 hd hk hp hn => ?_
 try clear x
 refine o02 zz1 fun c1 c2 c3 => ?_
 clear zz1
 obtain ⟨ocls, od, odat, osl⟩ := o
 dsimp only at c1 c2 c3 hd
 subst c1 c2 c3 hd
 exact i12 es.toList ho (Ents.of_pairs hp (fun e he => hk e (by simpa using he)) hm hr) (by rw [← hm]; exact hn)
end
noncomputable def rangeL (x step : Int) : Nat → List PyData
 | 0 => []
 | n + 1 => .int x :: rangeL (x + step) step n
noncomputable def chars (x : Str) : List PyData := x.cps.toList.map fun c => .str ⟨#[c]⟩
inductive IterAt (w : World) (G h : Heap) (it : Addr) : List PyData → Prop
 | list {l i o vs n ps} : h.IsListIter it l i → G.get? l = some o → o.cls = .type "list" → o.data = .seq vs n → RDs G ps vs.toList → IterAt w G h it (ps.drop i)
 | tuple {l i o vs n ps} : h.IsTupleIter it l i → G.get? l = some o → o.cls = .type "tuple" → o.data = .seq vs n → RDs G ps vs.toList → IterAt w G h it (ps.drop i)
 | str {x t i} : h.IsStrIter it (strIterType x) x t i → IterAt w G h it ((chars x).drop i)
 | range {x n step} : IsRangeIter h it x (n : Nat) step → IterAt w G h it (rangeL x step n)
 | keys {d i kvs kvv ep} : h.IsKeyIter it d i kvv.length ep → G.DictAt (PySem.strKind pw w) d kvv ep → kvv.map (·.1) = kvs → IterAt w G h it ((kvs.map .str).drop i)
theorem IterAt.keep {w : World} {G G' h h' : Heap} {it : Addr} {xs : List PyData} (x : IterAt w G h it xs) (kG : G.StaysIn G') (k : ∀ o, h.get? it = some o → h'.get? it = some o) : IterAt w G' h' it xs := by
 cases x with
 | list a b c d e => refine o11 a fun o ho q => ?_; try clear a; exact .list ⟨o, k o ho, q⟩ (kG _ _ b) c d (e.keeps kG)
 | tuple a b c d e => refine o11 a fun o ho q => ?_; try clear a; exact .tuple ⟨o, k o ho, q⟩ (kG _ _ b) c d (e.keeps kG)
 | str a => refine o11 a fun o ho q => ?_; try clear a; exact .str ⟨o, k o ho, q⟩
 | range a => exact .range (k _ a)
 | keys a b c => refine o11 a fun o ho q => ?_; try clear a; exact .keys ⟨o, k o ho, q⟩ (b.keep kG) c
end
section
section
variable {c : Cx} {st : St} {X : Flds → List (Option AV) → Prop} {pos pos' : Pos} {k : Nat}
theorem drop_cons {α : Type} {ps xs : List α} {x : α} {i : Nat} (h : ps.drop i = x :: xs) : ps[i]? = some x ∧ ps.drop (i + 1) = xs := by
 have h1 : (ps.drop i)[0]? = some x := by rw [h]; rfl
 have h2 : (ps.drop i).drop 1 = xs := by rw [h]; rfl
 rw [List.getElem?_drop] at h1
 rw [List.drop_drop] at h2
 exact ⟨by simpa using h1, h2⟩
theorem drop_nil' {α : Type} {ps : List α} {i : Nat} (h : ps.drop i = []) : ps.length ≤ i := by
 simpa using h
noncomputable def goNames : List String := ["enumerate", "zip", "dict_itemiterator", "dict_reverseitemiterator", "odict_iterator", "itertools.zip_longest", "itertools.pairwise"]
theorem letGo {w : World} {A : Around} {s : Shared} {it : Addr} {target : Expr} {v : Value} {o : Obj} {n : String} {Q : Unit → Shared → Prop} {E : Value → Shared → Prop} (ho : s.heap.get? it = some o) (hc : o.cls = .type n) (hn : goNames.contains n = false) (hQ : Q () s) :
  wpAny (model pw w) A (letOwnedTupleGo target (.ref it) v) Q E s := by
 have core : ∀ a, wpAny (model pw w) A (do
   let o ← load it
   match o.cls, o.data with
   | .type n, .fields vs =>
    if goNames.contains n && vs[0]? == some (rawInt a) then do
     rule "for.unpacks-the-owned-tuple"
     updateField it 0 .none
   | _, _ => pure ()) Q E s := fun a => by
  refine wpAny_bind (wpAny_load ho ?_)
  rw [hc]
  cases o.data <;> first | exact wpAny_pure hQ | (simp only [hn, Bool.false_and, Bool.false_eq_true, if_false]; exact wpAny_pure hQ)
 cases target <;> first | exact wpAny_pure hQ | (cases v <;> first | exact wpAny_pure hQ | exact core _)
theorem getElem_of_RDs {G : Heap} {ps : List PyData} {vs : Array Value} {i : Nat} {x : PyData} (h : RDs G ps vs.toList) (hx : ps[i]? = some x) : ∃ v, vs[i]? = some v ∧ RD G x v := by
 refine o11 (h.at i hx) fun v a b => ?_
 exact i11 v (by simpa using a) b
theorem none_of_RDs {G : Heap} {ps : List PyData} {vs : Array Value} {i : Nat} (h : RDs G ps vs.toList) (hx : ps.length ≤ i) : vs[i]? = none := by
 have := h.length
 simp only [Array.length_toList] at this
 exact Array.getElem?_eq_none (by exact fg (.le (.v 2) (.v 1)) [.le (.v 0) (.v 1),.eq (.v 2) (.v 0)] [1,1,1] [] rfl [_,_,_] [] hx this)
theorem chars_len {x : Str} : (chars x).length = x.cps.size := by simp [chars]
theorem IterAt.item {w : World} {A : Around} {G : Heap} {s : Shared} {it : Addr} {xs0 xs : List PyData} {x : PyData} {W : Option Value → Shared → Prop} {E : Value → Shared → Prop} (hG : G.StaysIn s.heap) (h : IterAt w G s.heap it xs0) (hx : xs0 = x :: xs)
  (k : ∀ v s', Heap.SameBut it s.heap s'.heap → s'.gens = s.gens ∧ s'.os = s.os → RD G x v → IterAt w G s'.heap it xs → (∃ o n, s'.heap.get? it = some o ∧ o.cls = .type n ∧ goNames.contains n = false) → W (some v) s') : wpAny (model pw w) A (pyNext (.ref it)) W E s := by
 cases h with
 | list a b c d e =>
  refine o01 (drop_cons hx) fun h1 zz1 => ?_
  subst zz1
  refine o11 (getElem_of_RDs e h1) fun v hv hr => ?_
  exact wpAny_pyNext_list_item a ⟨_, hG _ _ b, c, _, d⟩ hv fun h' hi hs => k v _ hs ⟨rfl, rfl⟩ hr (.list hi b c d e) (by refine o12 hi fun o ho hc _ => ?_; try clear hi; exact i22 o _ ho hc (by decide))
 | tuple a b c d e =>
  refine o01 (drop_cons hx) fun h1 zz1 => ?_
  subst zz1
  refine o11 (getElem_of_RDs e h1) fun v hv hr => ?_
  exact wpAny_pyNext_tuple_item a ⟨_, hG _ _ b, c, _, d⟩ hv fun h' hi hs => k v _ hs ⟨rfl, rfl⟩ hr (.tuple hi b c d e) (by refine o12 hi fun o ho hc _ => ?_; try clear hi; exact i22 o _ ho hc (by decide))
 | @str y t i a =>
  refine o01 (drop_cons hx) fun h1 zz1 => ?_
  subst zz1
  obtain ⟨ch, hch, rfl⟩ : ∃ ch, y.cps[i]? = some ch ∧ x = .str ⟨#[ch]⟩ := by
   simp only [chars, List.getElem?_map, Array.getElem?_toList] at h1
   cases q : y.cps[i]? with
   | none => rw [q] at h1; cases h1
   | some z => rw [q] at h1; exact i11 z rfl (by simpa using h1.symm)
  have e : strIterType y = "str_ascii_iterator" ∨ strIterType y = "str_iterator" := by unfold strIterType; split <;> simp
  rcases e with e | e
  ·rw [e] at a
   exact wpAny_pyNext_ascii_item a hch fun h' hi hs => k _ _ hs ⟨rfl, rfl⟩ .of_str (.str (by rw [e]; exact hi)) (by refine o12 hi fun o ho hc _ => ?_; try clear hi; exact i22 o _ ho hc (by decide))
  ·rw [e] at a
   exact wpAny_pyNext_wide_item a hch fun h' hi hs => k _ _ hs ⟨rfl, rfl⟩ .of_str (.str (by rw [e]; exact hi)) (by refine o12 hi fun o ho hc _ => ?_; try clear hi; exact i22 o _ ho hc (by decide))
 | @range y n step a =>
  cases n with
  | zero => cases hx
  | succ n =>
   simp only [rangeL, List.cons.injEq] at hx
   refine o01 hx fun zz1 zz2 => ?_
   try clear hx
   subst zz1
   subst zz2
   exact wpAny_pyNext_range_item a (by exact fg (.ilt (.c 0) (.n (.a (.v 0) (.c 1)))) [] [1] [1] rfl [_] []) fun h' hi hs => k _ _ hs ⟨rfl, rfl⟩ .of_int (.range (by rwa [show ((n + 1 : Nat) : Int) - 1 = (n : Int) from by exact fi (.s (.n (.a (.v 0) (.c 1))) (.c 1)) (.n (.v 0)) [] [1] [] [1] [] rfl [_] []] at hi)) (i22 _ _ hi rfl (by decide))
 | @keys d i kvs kvv ep a b c =>
  refine o01 (drop_cons hx) fun h1 zz1 => ?_
  subst zz1
  obtain ⟨kk, hk, rfl⟩ : ∃ kk, kvs[i]? = some kk ∧ x = .str kk := by
   rw [List.getElem?_map] at h1
   cases q : kvs[i]? with
   | none => rw [q] at h1; cases h1
   | some z => rw [q] at h1; exact i11 z rfl (by simpa using h1.symm)
  obtain ⟨v, hv⟩ : ∃ v, kvv[i]? = some (kk, v) := by
   rw [← c, List.getElem?_map] at hk
   cases q : kvv[i]? with
   | none => rw [q] at hk; cases hk
   | some z => rw [q] at hk; exact ⟨z.2, by rw [← show z.1 = kk by simpa using hk]⟩
  exact wpAny_pyNext_dict_item a (b.keep hG) hv fun key h' hk' hi hs => by
   refine o10 (Value.isStrOf_shape hk') fun t zz1 => ?_
   subst zz1
   exact k _ _ hs ⟨rfl, rfl⟩ .of_str (.keys hi b c) (by refine o12 hi fun o ho hc _ => ?_; try clear hi; exact i22 o _ ho hc (by decide))
theorem IterAt.done {w : World} {A : Around} {G : Heap} {s : Shared} {it : Addr} {xs : List PyData} {W : Option Value → Shared → Prop} {E : Value → Shared → Prop} (hh : A.handled = none) (hG : G.StaysIn s.heap) (h : IterAt w G s.heap it xs) (hx : xs = [])
  (k : ∀ s', Heap.ExtBut it s.heap s'.heap → s'.gens = s.gens ∧ s'.os = s.os → W none s') : wpAny (model pw w) A (pyNext (.ref it)) W E s := by
 cases h with
 | list a b c d e => exact wpAny_pyNext_list_end hh a ⟨_, hG _ _ b, c, _, d⟩ (none_of_RDs e (drop_nil' hx)) fun h' hs => k _ hs ⟨rfl, rfl⟩
 | tuple a b c d e => exact wpAny_pyNext_tuple_end hh a ⟨_, hG _ _ b, c, _, d⟩ (none_of_RDs e (drop_nil' hx)) fun h' hs => k _ hs ⟨rfl, rfl⟩
 | @str y t i a =>
  have hn : y.cps[i]? = none := by
   have := drop_nil' hx
   rw [chars_len] at this
   exact Array.getElem?_eq_none this
  have e : strIterType y = "str_ascii_iterator" ∨ strIterType y = "str_iterator" := by unfold strIterType; split <;> simp
  rcases e with e | e
  ·rw [e] at a; exact wpAny_pyNext_ascii_end hh a hn fun h' hs => k _ hs ⟨rfl, rfl⟩
  ·rw [e] at a; exact wpAny_pyNext_wide_end hh a hn fun h' hs => k _ hs ⟨rfl, rfl⟩
 | @range y n step a =>
  cases n with
  | zero => exact wpAny_pyNext_range_end hh a (by exact fg (.ile (.n (.c 0)) (.c 0)) [] [1] [] rfl [] []) fun h' hs => k _ hs ⟨rfl, rfl⟩
  | succ n => cases hx
 | @keys d i kvs kvv ep a b c =>
  exact wpAny_pyNext_dict_end hh a (b.keep hG) (by
   have := drop_nil' hx
   rw [List.length_map, ← c, List.length_map] at this
   exact List.getElem?_eq_none this) fun h' hs => k _ hs ⟨rfl, rfl⟩
noncomputable def Iters (w : World) (a : AV) (xs : List PyData) : Prop := ∀ (c : Cx) (st : St) (s : Shared) (v : Value) (W : Value → Shared → Prop) (E : Value → Shared → Prop), c.w = w → Rel c st s → RV (fz c st s.heap) a v →
 (∀ o, IterAt c.w (fz c st s.heap) (s.heap.push o) s.heap.objs.size xs → o.isFreed = false → W (.ref s.heap.objs.size) { s with heap := s.heap.push o }) → wpAny c.M c.A (pyIter v) W E s
variable {w : World}
theorem Iters.list {ps : List PyData} : Iters w (.d (.list ps)) ps := fun c st s v W E _ r hv k => by
 refine o44 hv.list fun a o vs n zz1 h1 h2 h3 h4 => ?_
 subst zz1
 exact wpAny_pyIter_list ⟨_, fz_sub _ _ h1, h2, _, h3⟩ (k _ (.list (i := 0) ⟨_, Heap.get?_push_size _ rfl, rfl, rfl⟩ h1 h2 h3 h4) rfl)
theorem Iters.tuple {ps : List PyData} : Iters w (.d (.tuple ps)) ps := fun c st s v W E _ r hv k => by
 refine o44 hv.tuple fun a o vs n zz1 h1 h2 h3 h4 => ?_
 subst zz1
 exact wpAny_pyIter_tuple ⟨_, fz_sub _ _ h1, h2, _, h3⟩ (k _ (.tuple (i := 0) ⟨_, Heap.get?_push_size _ rfl, rfl, rfl⟩ h1 h2 h3 h4) rfl)
theorem Iters.str {x : Str} : Iters w (.d (.str x)) (chars x) := fun c st s v W E _ r hv k => by
 refine o10 hv.str fun t zz1 => ?_
 subst zz1
 exact wpAny_pyIter_strU (k _ (.str (i := 0) ⟨_, Heap.get?_push_size _ rfl, rfl, rfl⟩) rfl)
theorem Iters.rng {a b d : Int} {n : Nat} (hs : Builtin.Range.small a b d = true) (hn : Builtin.Range.rangeSize a b d = n) : Iters w (.rng a b d) (rangeL a d n) := fun c st s v W E _ r hv k => by
 refine o41 hv fun q t u z zz1 h => ?_
 try clear hv
 subst zz1
 refine wpAny_pyIter_range (fz_sub _ _ h) hs ?_
 rw [hn]
 exact k _ (.range (Heap.get?_push_size _ rfl)) rfl
theorem Iters.fd {kvs : List (Str × PyData)} : Iters w (.fd w.params kvs) ((kvs.map (·.1)).map .str) := fun c st s v W E hw r hv k => by
 subst hw
 refine o35 hv fun a es n zz1 h0 h1 h2 h3 h4 => ?_
 try clear hv
 subst zz1
 refine o12 (h2.dictAt h1 h3) fun kvv d e1 _ => ?_
 exact wpAny_pyIter_dict (beq_eq_false_iff_ne.mpr h0) (d.keep fz_sub) (k _ (.keys (i := 0) ⟨_, Heap.get?_push_size _ rfl, rfl, rfl⟩ d e1) rfl)
noncomputable def TT (c : Cx) (st : St) (target : Expr) (a : AV) (K : St → Prop) (X : Flds → List (Option AV) → Prop) : Prop := ∀ s v, Rel c st s → RV (fz c st s.heap) a v →
 wpAny c.M c.A (assign target c.env v) (fun _ s' => ∃ st', K st' ∧ Rel c st' s' ∧ Tr c st s st' s') (EPost X c st s) s
noncomputable def TTs (c : Cx) (st : St) (es : List Expr) (ps : List PyData) (K : St → Prop) (X : Flds → List (Option AV) → Prop) : Prop := ∀ s vs, Rel c st s → RDs (fz c st s.heap) ps vs →
 wpAny c.M c.A (assignInOrder ((assignEach es c.env).map (·.2)) vs) (fun _ s' => ∃ st', K st' ∧ Rel c st' s' ∧ Tr c st s st' s') (EPost X c st s) s
theorem TT_name {x : Str} {a : AV} {K : St → Prop} {loc' : List (Option AV)} (hl : StoreAt c.vars st.loc x a loc') (h : K ⟨loc', st.mu⟩) (hfr : c.fr = []) : TT c st (.Name x pos) a K X := fun s v r hv =>
 PySem.wpAny_assign_Name (wp_store r hl hv hfr fun s' r' t' => i12 _ h r' t')
theorem TTs_nil {K : St → Prop} (h : K st) : TTs c st [] [] K X := fun s vs r hv => by
 rw [hv.inv_nil]
 exact wpAny_pure (i12 _ h r (.refl ..))
theorem TTs_cons {e : Expr} {es : List Expr} {p : PyData} {ps : List PyData} {K : St → Prop} (h : TT c st e (.d p) (fun st1 => TTs c st1 es ps K X) X)
  (he : (assignEach (e :: es) c.env).map (·.2) = assign e c.env :: (assignEach es c.env).map (·.2)) : TTs c st (e :: es) (p :: ps) K X := fun s vs r hv => by
 refine o22 hv.inv_cons fun v vs' zz1 h1 h2 => ?_
 subst zz1
 rw [he]
 refine assignInOrder_cons (wpAny_mono (h s v r h1) (fun _ s1 zm1 => o12 zm1 fun st1 k1 r1 t1 => ?_) fun _ _ x => x)
 exact wpAny_mono (k1 s1 vs' r1 (h2.keeps t1.fz)) (fun _ s2 zm0 => o12 zm0 fun st2 k2 r2 t2 => i12 st2 k2 r2 (t1.trans t2)) fun _ _ x => x.lift t1
theorem Gr.ext {s : Shared} {h' : Heap} (he : Heap.ExtBut s.heap.objs.size s.heap h') : Gr s { s with heap := h' } := ⟨fun b o e => he b o (Nat.ne_of_lt (Heap.lt_size e)) e, rfl, rfl⟩
theorem TT_tuple {es : List Expr} {x1} {ps : List PyData} {K : St → Prop} (h : TTs c st es ps K X) (hn : (assignEach es c.env).length = ps.length) (hs : (assignEach es c.env).findIdx? (·.1) = none) (hhd : c.hd = false) : TT c st (.Tuple es x1 pos) (.d (.tuple ps)) K X := fun s v r hv => by
 refine o44 hv.tuple fun a o vs n zz1 h1 h2 h3 h4 => ?_
 subst zz1
 refine PySem.wpAny_assign_Tuple (r.ok.handled hhd) ⟨o, fz_sub _ _ h1, h2, n, h3⟩ (by have := h4.length; simp only [Array.length_toList] at this; exact fe (.v 0) (.v 2) [.eq (.v 0) (.v 1),.qe (.v 0) (.v 1),.eq (.v 2) (.v 1),.qe (.v 2) (.v 1)] [1,0,1,1,0] [] [1,1,0,0,1] [] rfl [_,_,_] [] hn hn this this) hs fun h' he => ?_
 have g := Gr.ext he
 exact wpAny_mono (h _ _ (r.gr g) (h4.keeps g.fz)) (fun _ s2 zm8 => o12 zm8 fun st2 k2 r2 t2 => i12 st2 k2 r2 ((Tr.gr g).trans t2)) fun _ _ x => x.lift (.gr g)
theorem TS_assign_tuple {es : List Expr} {x1} {tpos : Pos} {e : Expr} {Q : AF → St → Prop} (h : TE c st e (fun a st1 => TT c st1 (.Tuple es x1 tpos) a (Q .next) X) X)
  (hs : swapsWithSole [.Tuple es x1 tpos] e pos.line c.env = pure false)
  (hw : swappedStores [.Tuple es x1 tpos] e c.env = pure none) : TS c st (.Assign [.Tuple es x1 tpos] e pos) Q X := fun s r =>
 PyProof.Rows.Assign_Tuple (h.then r (.refl ..) fun v a st1 s1 h1 r1 v1 t1 => wpAny_mono (h1 s1 v r1 v1) (fun _ s2 zm7 => o12 zm7 fun st2 k2 r2 t2 => (Post.here (R := RF) r2 k2 rfl).lift (t1.trans t2)) fun _ _ x => x.lift t1) hs hw
noncomputable def TNs (c : Cx) (st : St) : List Str → List PyData → (St → Prop) → Prop
 | [], ps, K => ps = [] ∧ K st
 | x :: xs, ps, K => ∃ p ps' loc', ps = p :: ps' ∧ StoreAt c.vars st.loc x (.d p) loc' ∧ TNs c ⟨loc', st.mu⟩ xs ps' K
theorem TNs.run {K : St → Prop} {E : Value → Shared → Prop} (hfr : c.fr = []) : ∀ {xs : List Str} {ps : List PyData} {st : St} {s : Shared} {vs : List Value}, TNs c st xs ps K → Rel c st s → RDs (fz c st s.heap) ps vs →
  wpAny c.M c.A (assignInOrder (xs.map fun n => bindName c.env n) vs) (fun _ s' => ∃ st', K st' ∧ Rel c st' s' ∧ Tr c st s st' s') E s
 | [], _, st, s, _, ⟨rfl, h⟩, r, hv => by
  rw [hv.inv_nil]
  exact wpAny_pure (i12 _ h r (.refl ..))
 | x :: xs, _, st, s, _, ⟨p, ps', loc', rfl, h1, h2⟩, r, hv => by
  refine o22 hv.inv_cons fun v vs' zz1 a b => ?_
  subst zz1
  exact assignInOrder_cons (wpAny_bindName (wp_store r h1 a hfr fun s1 r1 t1 => wpAny_mono (TNs.run hfr h2 r1 (b.keeps t1.fz)) (fun _ s2 zm6 => o12 zm6 fun st2 k2 r2 t2 => i12 st2 k2 r2 (t1.trans t2)) fun _ _ x => x))
theorem RDs.reverse {G : Heap} : ∀ {ps : List PyData} {vs : List Value}, RDs G ps vs → RDs G ps.reverse vs.reverse
 | [], _, r => by rw [r.inv_nil]; exact .nil
 | p :: ps, _, r => by
  refine o22 r.inv_cons fun v vs' zz1 a b => ?_
  subst zz1
  rw [List.reverse_cons, List.reverse_cons]
  exact b.reverse.append (.cons a .nil)
theorem swap_none {es vs : List Expr} {x1 x2} {tpos vpos : Pos} {env : Env} (h : vs.all (foldedForSure 8) = true) : swappedStores [.Tuple es x1 tpos] (.Tuple vs x2 vpos) env = pure none := by
 unfold swappedStores
 dsimp only
 split
 ·rfl
 ·split
  ·rfl
  ·split
   ·rfl
   ·first | rfl | rw [if_pos h]
noncomputable def starred : Expr → Bool
 | .Starred .. => true
 | _ => false
theorem fm_two {f : Expr → Option Str} {x y : Expr} {a b : Str} (hx : f x = some a) (hy : f y = some b) : [x, y].filterMap f = [a, b] := by simp [hx, hy]
theorem any_two {f : Expr → Bool} {x y : Expr} (hx : f x = false) (hy : f y = false) : [x, y].any f = false := by simp [hx, hy]
theorem swap_some {a b : Str} {v1 v2 : Expr} {x1 x2} {pa pb tpos vpos : Pos} {env : Env} (hk : env.scope.kind = .function) (ha : env.kindOf a = some .local) (hb : env.kindOf b = some .local)
  (hl : pb.line = pa.line) (hab : a ≠ b) (hs1 : starred v1 = false) (hs2 : starred v2 = false) (hf : [v1, v2].all (foldedForSure 8) = false) (hc : [v1, v2].all (constantsAlone 8) = false) :
  swappedStores [.Tuple [.Name a pa, .Name b pb] x1 tpos] (.Tuple [v1, v2] x2 vpos) env = pure (some [a, b]) := by
 have hbk : env.blockKind = .function := by unfold Env.blockKind; rw [hk]; rfl
 have hst : ∀ v : Expr, starred v = false → (match v with | .Starred .. => true | _ => false) = false := fun v h => by
  cases v <;> first | rfl | cases h
 unfold swappedStores
 dsimp only
 rw [hbk]
 rw [if_neg (by show ¬ (false = true); decide)]
 rw [any_two (hst v1 hs1) (hst v2 hs2)]
 rw [if_neg (by decide)]
 rw [fm_two (x := .Name a pa) (y := .Name b pb) (a := a) (b := b)
  (by show (if (env.kindOf a == some .local && pa.line == pa.line) = true then some a else none) = some a; rw [ha]; simp)
  (by show (if (env.kindOf b == some .local && pb.line == pa.line) = true then some b else none) = some b; rw [hb, hl]; simp)]
 have hd : [a, b].eraseDups.length = 2 := by
  simp [List.eraseDups_cons, Ne.symm hab]
 rw [hd]
 rw [if_neg (by show ¬ (false = true); decide), hf, hc]
 rfl
theorem swI {vs cv : List Str} {env : Env} {a b : Str} {v1 v2 : Expr} {x1 x2} {pa pb tpos vpos : Pos} (m1 : a ∈ vs) (n1 : ¬ a ∈ cv) (m2 : b ∈ vs) (n2 : ¬ b ∈ cv) (hl : pb.line = pa.line) (hab : (a == b) = false)
  (hs1 : starred v1 = false) (hs2 : starred v2 = false) (hf : [v1, v2].all (foldedForSure 8) = false) (hc : [v1, v2].all (constantsAlone 8) = false) : env.scope.kind = .function → (∀ x ∈ vs, x ∉ cv → env.kindOf x = some .local) →
  swappedStores [.Tuple [.Name a pa, .Name b pb] x1 tpos] (.Tuple [v1, v2] x2 vpos) env = pure (some [a, b]) := fun hk hL => swap_some hk (hL _ m1 n1) (hL _ m2 n2) hl (ne_of_beq_false hab) hs1 hs2 hf hc
theorem TS_assign_swap {es : List Expr} {x1} {tpos : Pos} {e : Expr} {names : List Str} {Q : AF → St → Prop} (h : TE c st e (fun a st1 => ∃ ps, a = .d (.tuple ps) ∧ ps.length = names.length ∧ TNs c st1 names.reverse ps.reverse (Q .next)) X)
  (hw : c.env.scope.kind = .function → (∀ x ∈ c.vars, x ∉ c.cv → c.env.kindOf x = some .local) → swappedStores [.Tuple es x1 tpos] e c.env = pure (some names))
  (hs : swapsWithSole [.Tuple es x1 tpos] e pos.line c.env = pure false) (hfr : c.fr = []) (hhd : c.hd = false) : TS c st (.Assign [.Tuple es x1 tpos] e pos) Q X := fun s r =>
 PyProof.Rows.Assign_Tuple_swapped (h.then r (.refl ..) fun v a st1 s1 zm5 r1 v1 t1 => o12 zm5 fun ps e1 e2 h1 => by
  subst e1
  refine o44 v1.tuple fun a o vs n zz1 g1 g2 g3 g4 => ?_
  subst zz1
  have hl := g4.length
  simp only [Array.length_toList] at hl
  rw [show names.length = vs.size by exact fe (.v 1) (.v 2) [.eq (.v 0) (.v 1),.qe (.v 0) (.v 1),.eq (.v 2) (.v 0),.qe (.v 2) (.v 0)] [1,1,0,1,0] [] [1,0,1,0,1] [] rfl [_,_,_] [] e2 e2 hl hl]
  refine PyProof.Rows.unpackItems_tuple (r1.ok.handled hhd) ⟨o, fz_sub _ _ g1, g2, n, g3⟩ fun h' he => ?_
  have g := Gr.ext he
  exact wpAny_mono (TNs.run hfr h1 (r1.gr g) (g4.keeps g.fz).reverse) (fun _ s2 zm4 => o12 zm4 fun st2 k2 r2 t2 => (Post.here (R := RF) r2 k2 rfl).lift ((t1.trans (.gr g)).trans t2)) fun _ _ x => x) hs (hw r.ok.fn fun x hx hn => r.ok.locs x hx hn (by rw [hfr]; exact fun q => nomatch q))
theorem EPost.of_rep {it : Addr} {s0 s' : Shared} {st : St} {v : Value} (h : EPost X (c.rep (it :: c.priv)) st s0 v s') (hc : it ∉ c.ctl) (hb : c.base.get? it = none) : EPost X c st s0 v s' := by
 refine o54 h fun e dx fs tb loc he hx hfl r t => ?_
 try clear h
 have := (r.rep (it := it) (s' := s') (p := c.priv) (fun _ _ _ e => e) (.inl (i02 (.head _) hc hb)) fun a m => ⟨.inl (.tail _ m), r.live a (.inr (.inr (.tail _ m)))⟩).1
 exact ⟨e, dx, fs, tb, loc, he, hx, hfl, this, t.of_rep⟩
noncomputable abbrev ForQ {σ : Type} (Q : AF → St → Prop) (S : σ → St) (I : List PyData → σ → Prop) (xs : List PyData) : AF → St → Prop
 | .next, st2 => ∃ a', Le (S a') st2 ∧ I xs a'
 | .cont, st2 => ∃ a', Le (S a') st2 ∧ I xs a'
 | .brk, st2 => Q .next st2
 | .ret v, st2 => Q (.ret v) st2
theorem TS_for {vars : List Str} {globs : List (Str × Value)} {room : Nat} {o : Other} {cv : List Str} {σ : Type} (S : σ → St) (I : List PyData → σ → Prop) (hF : (mkCx vars globs room o cv).Fn) {target iter : Expr} {body : List Stmt} {Q : AF → St → Prop}
  (h : TE (mkCx vars globs room o cv) st iter (fun a st1 => ∃ xs a0, Iters o.w a xs ∧ Le (S a0) st1 ∧ I xs a0 ∧
   (∀ o' : Other, o'.w = o.w → (mkCx vars globs room o' cv).Fn → ∀ x xs a, I (x :: xs) a → TT (mkCx vars globs room o' cv) (S a) target (.d x) (fun st2 => TL (mkCx vars globs room o' cv) st2 body (ForQ Q S I xs) X) X) ∧
   ∀ a, I [] a → Q .next (S a)) X)
  (hs : ∀ x, foldedSetIterable iter (mkCx vars globs room o cv).env x = pure x) : TS (mkCx vars globs room o cv) st (.For target iter body [] pos) Q X := fun s0 r0 => by
 generalize hc : mkCx vars globs room o cv = c at *
 refine PySem.wpAny_For (h.then r0 (.refl ..) fun v a st1 s1 zm3 r1 v1 t1 => o24 zm3 fun xs a0 hI hle h0 turn done => ?_) hs
 refine o01 (r1.le hle) fun r1' t1' => ?_
 refine hI c st1 s1 v _ _ (by rw [← hc]) r1 v1 fun ob hit hfree => ?_
 have new := get_new s1.heap
 have newS : s0.heap.get? s1.heap.objs.size = none := none_of t1.alive new
 generalize hit0 : s1.heap.objs.size = it at *
 have nc : it ∉ c.ctl := fun m => by have := r1.live _ (.inr (.inl m)); rw [new] at this; cases this
 have nb : c.base.get? it = none := by
  cases q : c.base.get? it with
  | none => rfl
  | some o => rw [r1.stay _ _ q] at new; cases new
 have g := Gr.push s1 ob
 have hpush : (s1.heap.push ob).get? it = some ob := by rw [← hit0]; exact Heap.get?_push_size _ hfree
 refine o01 (r1'.rep (s' := { s1 with heap := s1.heap.push ob }) (it := it) (p := it :: c.priv) (fun b o _ e => g.keep b o e) (.inr new) fun a m => by
  rcases List.mem_cons.mp m with rfl | m
  ·exact ⟨.inr new, by rw [hpush]; rfl⟩
  ·exact ⟨.inl m, g.alive a (r1.live a (.inr (.inr m)))⟩) fun r2 f2 => ?_
 have t2 : Tr c st s0 (S a0) { s1 with heap := s1.heap.push ob } := (t1.trans t1').but (it := it) (fun b o _ e => g.keep b o e) newS ⟨rfl, rfl⟩
 have pc := fun (st : St) (s : Shared) => passes (X := X) hF (st := st) (s := s)
 have hit2 : IterAt c.w (fz (c.rep (it :: c.priv)) (S a0) (s1.heap.push ob)) (s1.heap.push ob) it xs := hit.keep (fun b o e => f2 b o (t1'.fz b o e)) fun _ e => e
 refine codeAny_forLoop_any (fun n s' => ∃ xs a, xs.length = n ∧ I xs a ∧ Rel (c.rep (it :: c.priv)) (S a) s' ∧ Tr c st s0 (S a) s' ∧ IterAt c.w (fz (c.rep (it :: c.priv)) (S a) s'.heap) s'.heap it xs) ?_ xs.length (i24 xs a0 rfl h0 r2 t2 hit2)
 intro n s' ⟨xs, a, hn, hI, r, t, hit⟩
 cases xs with
 | nil =>
  refine IterAt.done (r.ok.handled (by rw [← hc])) fz_sub hit rfl fun s2 hs2 hr2 => ?_
  refine o01 (r.rep (s' := s2) (it := it) (p := c.priv) (fun b o hb e => hs2 b o hb e) (.inl (i02 (.head _) nc nb)) fun b m => ⟨.inl (.tail _ m), by
   refine o10 (Option.isSome_iff_exists.mp (r.live b (.inr (.inr (.tail _ m))))) fun ob2 ho2 => ?_
   have hbn : b ≠ it := fun q => by have := r1.live b (.inr (.inr m)); rw [q, new] at this; cases this
   rw [hs2 b ob2 hbn ho2]; rfl⟩) fun r3 f3 => ?_
  have t3 := t.but (it := it) (fun b o hb e => hs2 b o hb e) newS hr2
  refine wpAny_execs_nil ?_
  exact ⟨.next, _, done a hI, r3, t3, rfl⟩
 | cons x xs =>
  refine IterAt.item fz_sub hit rfl fun v s2 hs2 hr2 hx hit2 hgo => ?_
  refine o22 hgo fun ob2 n2 ho2 hc2 hg2 => ?_
  try clear hgo
  have alive2 : ∀ b, (s'.heap.get? b).isSome = true → (s2.heap.get? b).isSome = true := fun b hb => by
   by_cases q : b = it
   ·rw [q, ho2]; rfl
   ·rw [hs2.2 b q]; exact hb
  refine o01 (r.rep (s' := s2) (it := it) (p := it :: c.priv) (fun b o hb e => hs2.extBut b o hb e) (.inl (i02 (.head _) nc nb)) fun b m => ⟨.inl m, alive2 b (r.live b (.inr (.inr m)))⟩) fun r3 f3 => ?_
  have t3 := t.but (it := it) (fun b o hb e => hs2.extBut b o hb e) newS hr2
  refine letGo ho2 hc2 hg2 ?_
  have hF' : (mkCx vars globs room { o with priv := it :: c.priv } cv).Fn := by
   have := hF
   rw [← hc] at this
   exact ⟨this.1, this.2⟩
  have hturn := turn { o with priv := it :: c.priv } rfl hF' x xs a hI
  have hcc : mkCx vars globs room { o with priv := it :: c.priv } cv = c.rep (it :: c.priv) := by rw [← hc]
  rw [hcc] at hturn
  have up : ∀ {st2 : St} {s3 : Shared} {ev : Value} {s4 : Shared}, Tr c st s0 st2 s3 → EPost X (c.rep (it :: c.priv)) st2 s3 ev s4 → EPost X c st s0 ev s4 := fun tt hh => (hh.of_rep nc nb).lift tt
  refine wpAny_mono (hturn s2 v r3 (hx.keeps f3)) (fun _ s3 zm2 => o12 zm2 fun st3 k3 r4 t4 => ?_) fun e s3 hh => pc _ _ _ _ (up t3 hh)
  have t5 := t3.trans t4.of_rep
  refine wpAny_mono (k3 s3 r4) (fun f s4 zm1 => o23 zm1 fun af st4 h4 r5 t6 hf => ?_) fun e s4 hh => pc _ _ _ _ (up t5 hh)
  have t7 := t5.trans t6.of_rep
  have again : (∃ a', Le (S a') st4 ∧ I xs a') → ∃ m, m < n ∧ ∃ xs a, xs.length = m ∧ I xs a ∧ Rel (c.rep (it :: c.priv)) (S a) s4 ∧ Tr c st s0 (S a) s4 ∧ IterAt c.w (fz (c.rep (it :: c.priv)) (S a) s4.heap) s4.heap it xs := fun zm0 => o11 zm0 fun a' hle hI' => by
   refine o01 (r5.le hle) fun r6 t8 => ?_
   have t46 := t4.trans (t6.trans t8)
   refine i11 xs.length (by rw [← hn]; exact Nat.lt_succ_self _) (i24 xs a' rfl hI' r6 (t7.trans t8.of_rep) (hit2.keep (fun b o e => t46.fz b o (f3 b o e)) fun o2 e => t46.keep it o2 e (fun m => (r3.ok.ownCtl it m).2 (.head _)) nc fun m => (r3.apart it m).2.2.1 (.head _)))
  have drop := r5.rep (it := it) (s' := s4) (p := c.priv) (fun _ _ _ e => e) (.inl (i02 (.head _) nc nb)) fun a m => ⟨.inl (.tail _ m), r5.live a (.inr (.inr (.tail _ m)))⟩
  cases af with
  | next =>
   obtain rfl : f = .next := hf
   exact again h4
  | cont =>
   obtain rfl : f = .cont := hf
   exact again h4
  | brk =>
   obtain rfl : f = .brk := hf
   exact ⟨.next, st4, h4, drop.1, t7, rfl⟩
  | ret v =>
   obtain ⟨w, rfl, q⟩ : ∃ w, f = .ret w ∧ RV _ v w := hf
   exact ⟨.ret v, st4, h4, drop.1, t7, w, rfl, q.keeps drop.2⟩
end
end
section
section
variable {c : Cx} {st : St} {X : Flds → List (Option AV) → Prop} {pos pos' : Pos} {k : Nat}
theorem GOp.of_gr {c : Cx} {st : St} {s : Shared} {t : Sem Value} {K : AV → Prop}
  (h : ∀ (W : Value → Shared → Prop) (E : Value → Shared → Prop), (∀ z v s', K z → Gr s s' → RV (fz c st s'.heap) z v → W v s') → wpAny c.M c.A t W E s) : GOp c st s t K :=
 ⟨h _ _ fun z v s' a b d => (i12 z a b d)⟩
noncomputable def Item (st : St) (x y : AV) (K : AV → Prop) : Prop := ∀ c s v w, Rel c st s → RV (fz c st s.heap) x v → RV (fz c st s.heap) y w → ∃ T id, s.TypeIs v T ∧ typeLookup (.type T) "__getitem__" = pure (some (.builtin id)) ∧ GOp c st s (getItem v w) K
theorem sub_tail {M : Model} {A : Around} {s : Shared} {w : World} {value slice : Expr} {o i : Value} {T id : String} {ops : List Value} {Q : Value → Shared → Prop} {E : Value → Shared → Prop} (hT : s.TypeIs o T)
  (hl : typeLookup (.type T) "__getitem__" = pure (some (.builtin id))) (h : wpAny (model pw w) A (getItem o i) Q E s) (hs : subscripted slice false o i = operate ops (getItem o i)) : wpAny (model pw w) A (subscriptTail value slice o i) Q E s := by
 unfold subscriptTail
 refine wpAny_bind ?_
 rw [getitemInPython_of_ne hT.not_modules]
 refine wpAny_bind (wpAny_specialOf hT hl ?_)
 have fin : wpAny (model pw w) A (subscripted slice false o i) (fun r s₃ => wpAny (model pw w) A (letTemporaryGo value o r >>= fun _ => pure r) Q E s₃) E s := by
  rw [hs]
  exact wpAny_operating (wpAny_mono h (fun r s₃ h₃ => wpAny_bind (wpAny_letTemporaryGo (wpAny_pure h₃))) fun _ _ x => x)
 first
  | exact wpAny_pure (wpAny_bind fin)
  | exact wpAny_bind (wpAny_pure (wpAny_bind fin))
  | exact wpAny_bind fin
theorem TE_sub {value slice : Expr} {Q : AV → St → Prop} (h : TE c st value (fun x st1 => TE c st1 slice (fun y st2 => Item st2 x y fun z => Q z st2) X) X)
  (hs : ∀ o i, ∃ ops, subscripted slice false o i = operate ops (getItem o i)) : TE c st (.Subscript value slice pos) Q X := fun s r =>
 PyProof.Rows.Subscript_ (h.then r (.refl ..) fun v x st1 s1 h1 r1 v1 t1 => h1.then r1 t1 fun w y st2 s2 h2 r2 v2 t2 => by
  refine o22 (h2 c s2 v w r2 (v1.keeps t2.fz) v2) fun T id hT hl g => ?_
  refine o10 (hs v w) fun ops ho => ?_
  exact sub_tail (M := c.M) hT hl (g.post r2 (t1.trans t2) fun z q => q) ho)
noncomputable def TP (c : Cx) (st : St) (e : Option Expr) (Q : Option Int → St → Prop) (X : Flds → List (Option AV) → Prop) : Prop := T (fun _ (z : Option Int) v => ∃ p : Option (Int × Tok), v = partValue p ∧ p.map (·.1) = z) c st (evalPart e c.env) Q X
theorem TP_none {Q : Option Int → St → Prop} (h : Q none st) : TP c st none Q X := fun s r => PySem.wpAny_evalPart_none (Post.here (R := fun _ (z : Option Int) v => ∃ p : Option (Int × Tok), v = partValue p ∧ p.map (·.1) = z) r h (i11 none rfl rfl))
theorem TP_some {e : Expr} {Q : Option Int → St → Prop} (h : TE c st e (fun x st1 => ∃ i, x = .d (.int i) ∧ Q (some i) st1) X) : TP c st (some e) Q X := fun s r =>
 PySem.wpAny_evalPart_some (h.then r (.refl ..) fun v x st1 s1 zm3 r1 v1 t1 => o11 zm3 fun i e h1 => by
  subst e
  refine o10 v1.int fun t zz1 => ?_
  subst zz1
  exact ⟨some i, st1, h1, r1, t1, some (i, t), rfl, rfl⟩)
theorem TE_slice {l u k : Option Expr} {Q : AV → St → Prop} (h : TP c st l (fun l' st1 => TP c st1 u (fun u' st2 => TP c st2 k (fun k' st3 => Q (.slc l' u' k') st3) X) X) X) : TE c st (.Slice l u k pos) Q X := fun s r =>
 PySem.wpAny_Slice (h.then r (.refl ..) fun v1 z1 st1 s1 h1 r1 zm2 t1 => o11 zm2 fun p1 e1 f1 => h1.then r1 t1 fun v2 z2 st2 s2 h2 r2 zm1 t2 => o11 zm1 fun p2 e2 f2 => h2.then r2 (t1.trans t2) fun v3 z3 st3 s3 h3 r3 zm0 t3 => o11 zm0 fun p3 e3 f3 => by
  subst e1 e2 e3
  have g := Gr.push s3 { cls := .type "slice", data := .fields #[partValue p1, partValue p2, partValue p3] }
  refine (Post.gr r3 g h3 ?_).lift ((t1.trans t2).trans t3)
  exact ⟨_, p1, p2, p3, rfl, ⟨_, fz_iff.mpr ⟨Heap.get?_push_size _ rfl, TE_tuple.not_mem_new r3⟩, rfl, rfl⟩, f1, f2, f3⟩)
theorem Item.str {x : Str} {i : Int} {ch : Nat} {K : AV → Prop} (h0 : 0 ≤ i) (hx : x.cps[i.toNat]? = some ch) (hl : x.length ≤ 1000000) (h : K (.d (.str ⟨#[ch]⟩))) : Item st (.d (.str x)) (.d (.int i)) K := fun c s v w r hv hw => by
 refine o10 hv.str fun t zz1 => ?_
 subst zz1; refine o10 hw.int fun u zz1 => ?_; subst zz1
 refine o10 (Int.eq_ofNat_of_zero_le h0) fun j zz1 => ?_
 subst zz1
 have hj : j < x.length := by
  have := (Array.getElem?_eq_some_iff.mp hx).1
  simpa [Str.length] using this
 refine i22 ("str") _ (typeIs_str _ _ _) F.slot_str_getitem.lookup (GOp.of_toks h fun W E k => ?_)
 (with_reducible refine PySem.P.getItem_str (c := ch) ?_ ?_ ?_)
 ·have : (j : Int) < 2 ^ 63 := nlt63 hj hl
  simp; exact fg (.ilt (.n (.v 1)) (.c 9223372036854775808)) [.le (.v 0) (.c 1000000),.lt (.v 1) (.v 0)] [1,1,1] [] rfl [_,_] [] hl hj
 ·have e : seqIndex? ((j : Nat) : Int) x.length = some j := by
   unfold seqIndex?
   simp
   exact ixo (i := j) h0 hj
  rw [e]; simpa using hx
 ·exact k _ _ .of_str
theorem Item.str_slice {x : Str} {l u : Option Int} {K : AV → Prop} (hl : x.length ≤ 1000000) (h : K (.d (.str (Txt.slice x l u)))) : Item st (.d (.str x)) (.slc l u none) K := fun c s v w r hv hw => by
 refine o10 hv.str fun t zz1 => ?_
 subst zz1
 refine o44 hw fun a l' u' k' zz1 h1 zz2 zz3 h4 => ?_
 try clear hw
 subst zz1
 subst zz2
 subst zz3
 have hk : k' = none := by cases k' with | none => rfl | some p => cases h4
 subst hk
 refine i22 ("str") _ (typeIs_str _ _ _) F.slot_str_getitem.lookup (GOp.of_toks h fun W E k => ?_)
 (with_reducible refine wpAny_getItem_str_slice (l := l') (u := u') (st := none) ?_ rfl ?_)
 ·refine o11 h1 fun o ho hq => ?_
  try clear h1
  exact ⟨o, fz_sub _ _ ho, hq⟩
 ·exact post_val_or_str ⟨Nat.le_trans (Txt.slice_le x _ _) (by rw [sizeLine_eq]; exact fg (.le (.v 0) (.c 16777216)) [.le (.v 0) (.c 1000000)] [1,1] [] rfl [_] [] hl), fun t' tk => k _ _ .of_str⟩
theorem Item.list {ps : List PyData} {i : Int} {p : PyData} {K : AV → Prop} (h0 : 0 ≤ i) (hx : ps[i.toNat]? = some p) (hl : ps.length ≤ 1000000) (h : K (.d p)) : Item st (.d (.list ps)) (.d (.int i)) K := fun c s v w r hv hw => by
 refine o10 hw.int fun u zz1 => ?_
 subst zz1
 refine o44 hv.list fun a o vs n zz1 h1 h2 h3 h4 => ?_
 subst zz1
 have hi : i.toNat < ps.length := (List.getElem?_eq_some_iff.mp hx).1
 refine o11 (getElem_of_RDs h4 hx) fun v hv1 hv2 => ?_
 have hL : s.heap.IsList a vs := ⟨o, fz_sub _ _ h1, h2, n, h3⟩
 exact i22 ("list") _ hL.typeIs list_getitem_lookup (GOp.of_gr fun W E k => wpAny_getItem_list hL h0 (ilt63 hi hl) hv1 (k _ _ _ h (.refl _) hv2))
theorem Item.list_last {ps : List PyData} {i : Int} {p : PyData} {K : AV → Prop} (h0 : i < 0) (h1' : -(ps.length : Int) ≤ i) (hx : ps[(i + ps.length).toNat]? = some p) (hl : ps.length ≤ 1000000) (h : K (.d p)) : Item st (.d (.list ps)) (.d (.int i)) K := fun c s v w r hv hw => by
 refine o10 hw.int fun u zz1 => ?_
 subst zz1
 refine o44 hv.list fun a o vs n zz1 h1 h2 h3 h4 => ?_
 subst zz1
 refine o11 (getElem_of_RDs h4 hx) fun v hv1 hv2 => ?_
 have hn : vs.size = ps.length := by simpa using h4.length
 have hL : s.heap.IsList a vs := ⟨o, fz_sub _ _ h1, h2, n, h3⟩
 exact i22 ("list") _ hL.typeIs list_getitem_lookup (GOp.of_gr fun W E k => wpAny_getItem_list_neg hL h0 (by exact fg (.ile (.g (.n (.v 1))) (.v 0)) [.ile (.g (.n (.v 0))) (.v 0),.qe (.v 1) (.v 0)] [1,1,1] [] rfl [_,_] [_] h1' hn) (Int.le_trans (by decide) (Int.le_trans (Int.neg_le_neg (Int.ofNat_le.mpr hl)) h1')) (by rw [hn]; exact hv1) (k _ _ _ h (.refl _) hv2))
theorem Item.tuple {ps : List PyData} {i : Int} {p : PyData} {K : AV → Prop} (h0 : 0 ≤ i) (hx : ps[i.toNat]? = some p) (hl : ps.length ≤ 1000000) (h : K (.d p)) : Item st (.d (.tuple ps)) (.d (.int i)) K := fun c s v w r hv hw => by
 refine o10 hw.int fun u zz1 => ?_
 subst zz1
 refine o44 hv.tuple fun a o vs n zz1 h1 h2 h3 h4 => ?_
 subst zz1
 have hi : i.toNat < ps.length := (List.getElem?_eq_some_iff.mp hx).1
 refine o11 (getElem_of_RDs h4 hx) fun v hv1 hv2 => ?_
 have hn : vs.size = ps.length := by simpa using h4.length
 have hL : IsTup s.heap a vs := ⟨o, fz_sub _ _ h1, h2, n, h3⟩
 refine i22 ("tuple") _ hL.typeIs F.slot_tuple_getitem.lookup (GOp.of_gr fun W E k => PyProof.Rows.getItem_tuple (j := i.toNat) hL (Int.le_trans (by decide) h0) (ilt63 hi hl) ?_ hv1 (k _ _ _ h (.refl _) hv2))
 unfold seqIndex?
 simp
 rw [hn]; exact ixo h0 hi
noncomputable def pickD (ps : List PyData) (lo hi k : Option Int) : List PyData := (sliceRange (sliceBounds lo hi k ps.length).1 (sliceBounds lo hi k ps.length).2.1 (sliceBounds lo hi k ps.length).2.2).filterMap (ps[·]?)
theorem RDs.pick {G : Heap} {ps : List PyData} {vs : Array Value} (h : RDs G ps vs.toList) (is : List Nat) : RDs G (is.filterMap (ps[·]?)) (is.filterMap (vs[·]?)) := by
 induction is with
 | nil => exact .nil
 | cons i is ih =>
  rw [List.filterMap_cons, List.filterMap_cons]
  cases q : ps[i]? with
  | none =>
   have : vs[i]? = none := none_of_RDs h (List.getElem?_eq_none_iff.mp q)
   rw [this]; exact ih
  | some p =>
   refine o11 (getElem_of_RDs h q) fun v hv hr => ?_
   rw [hv]; exact .cons hr ih
theorem part_is (p : Option (Int × Tok)) : IsPart (partValue p) (p.map (·.1)) := by cases p with | none => exact .none | some q => exact .int _ _
theorem Item.list_slice {ps : List PyData} {l u k' : Option Int} {K : AV → Prop} (hk : k' ≠ some 0) (hl : ps.length ≤ 1000000) (h : K (.d (.list (pickD ps l u k')))) : Item st (.d (.list ps)) (.slc l u k') K := fun c s v w r hv hw => by
 refine o44 hv.list fun a o vs n zz1 h1 h2 h3 h4 => ?_
 subst zz1
 refine o44 hw fun b l' u' kk zz1 zz2 zz3 zz4 zz5 => ?_
 try clear hw
 subst zz1
 refine o12 zz2 fun ob hb hb1 hb2 => ?_
 clear zz2
 subst zz3
 subst zz4
 subst zz5
 have hn : vs.size = ps.length := by simpa using h4.length
 have hL : s.heap.IsList a vs := ⟨o, fz_sub _ _ h1, h2, n, h3⟩
 refine i22 ("list") _ hL.typeIs list_getitem_lookup (GOp.of_gr fun W E k => ?_)
 refine wpAny_getItem_list_slice hL ⟨ob, fz_sub _ _ hb, hb1, hb2⟩ (part_is _) (part_is _) (part_is _) hk ?_ (by rw [hn, sizeLine_eq]; exact fg (.le (.v 0) (.c 16777216)) [.le (.v 0) (.c 1000000)] [1,1] [] rfl [_] [] hl)
 have g := Gr.push s { cls := .type "list", data := .seq (slicePick vs (l'.map (·.1)) (u'.map (·.1)) (kk.map (·.1))) }
 refine k _ _ _ h g (RD.of_list (fz_iff.mpr ⟨Heap.get?_push_size _ rfl, TE_tuple.not_mem_new r⟩) rfl rfl (RDs.keeps g.fz ?_))
 have := RDs.pick h4 (sliceRange (sliceBounds (l'.map (·.1)) (u'.map (·.1)) (kk.map (·.1)) ps.length).1 (sliceBounds (l'.map (·.1)) (u'.map (·.1)) (kk.map (·.1)) ps.length).2.1 (sliceBounds (l'.map (·.1)) (u'.map (·.1)) (kk.map (·.1)) ps.length).2.2)
 unfold slicePick pickD
 rw [hn]
 exact this
end
end
section
inductive MuSet : List (Addr × AO) → Addr → AO → AO → List (Addr × AO) → Prop
 | here {a o o' l} : MuSet ((a, o) :: l) a o o' ((a, o') :: l)
 | there {p l a o o' l'} : MuSet l a o o' l' → MuSet (p :: l) a o o' (p :: l')
inductive MuAt : List (Addr × AO) → Addr → AO → Prop
 | here {a o l} : MuAt ((a, o) :: l) a o
 | there {p l a o} : MuAt l a o → MuAt (p :: l) a o
inductive MuOut : List (Addr × AO) → Addr → AO → List (Addr × AO) → Prop
 | here {a o l} : MuOut ((a, o) :: l) a o l
 | there {p l a o l'} : MuOut l a o l' → MuOut (p :: l) a o (p :: l')
theorem MuSet.split {m m' : List (Addr × AO)} {a : Addr} {o o' : AO} (h : MuSet m a o o' m') : ∃ l1 l2, m = l1 ++ (a, o) :: l2 ∧ m' = l1 ++ (a, o') :: l2 := by
 induction h with
 | here => exact i21 [] _ rfl rfl
 | there _ ih => refine o21 ih fun l1 l2 e1 e2 => ?_; try clear ih; exact i21 (_ :: l1) l2 (by rw [e1]; rfl) (by rw [e2]; rfl)
theorem MuOut.split {m m' : List (Addr × AO)} {a : Addr} {o : AO} (h : MuOut m a o m') : ∃ l1 l2, m = l1 ++ (a, o) :: l2 ∧ m' = l1 ++ l2 := by
 induction h with
 | here => exact i21 [] _ rfl rfl
 | there _ ih => refine o21 ih fun l1 l2 e1 e2 => ?_; try clear ih; exact i21 (_ :: l1) l2 (by rw [e1]; rfl) (by rw [e2]; rfl)
theorem MuAt.mem {m : List (Addr × AO)} {a : Addr} {o : AO} (h : MuAt m a o) : (a, o) ∈ m := by
 induction h with
 | here => exact .head _
 | there _ ih => exact .tail _ ih
theorem MuSet.mem {m m' : List (Addr × AO)} {a : Addr} {o o' : AO} (h : MuSet m a o o' m') : (a, o) ∈ m := by
 refine o21 h.split fun l1 l2 zz1 _ => ?_
 subst zz1
 simp
section
variable {c : Cx} {st : St} {X : Flds → List (Option AV) → Prop} {pos pos' : Pos} {k : Nat}
theorem Rel.set1 {s : Shared} {h' : Heap} {tk : Nat} {a d : Addr} {o o' : AO} {mu' : List (Addr × AO)} (r : Rel c st s) (hm : MuSet st.mu a o o' mu') (ha : o'.addrs a = o.addrs a) (hd : d ∈ o.addrs a) (hs : Heap.SameBut d s.heap h') (hl : (h'.get? d).isSome = true)
  (ho : (fz c st s.heap).StaysIn (fz c ⟨st.loc, mu'⟩ h') → (∀ x ∈ o.addrs a, x ≠ d → h'.get? x = s.heap.get? x) → MutRel c.w.params (fz c ⟨st.loc, mu'⟩ h') h' a o') : Rel c ⟨st.loc, mu'⟩ { s with heap := h', toks := tk } ∧ Tr c st s ⟨st.loc, mu'⟩ { s with heap := h', toks := tk } := by
 refine o21 hm.split fun l1 l2 e1 e2 => ?_
 have hmm : madd mu' = madd st.mu := by rw [e1, e2]; simp [madd, ha]
 have hdm : d ∈ madd st.mu := List.mem_flatMap.mpr (i11 (a, o) hm.mem hd)
 have ad := r.apart d hdm
 have alive : ∀ x, (s.heap.get? x).isSome = true → (h'.get? x).isSome = true := fun x h => by
  by_cases q : x = d
  ·rw [q]; exact hl
  ·rw [hs.2 x q]; exact h
 refine r.change (s' := { s with heap := h', toks := tk }) (fun b ob e _ _ q => (hs.2 b fun z => q (z ▸ hdm)).trans e) (fun b ob e q => ⟨ob.slots, (hs.2 b fun z => q.elim (fun m => ad.1 (z ▸ m)) fun m => ad.2.1 (z ▸ m)).trans e⟩) alive ⟨rfl, rfl⟩
  (fun x m => ⟨.inl (hmm ▸ m), alive x (r.apart x (hmm ▸ m)).2.2.2.2⟩) (hmm ▸ r.nodup) fun fzs p hp => ?_
 have nd := r.nodup
 rw [e1] at nd
 simp only [madd, List.flatMap_append, List.flatMap_cons] at nd
 refine o02 (List.nodup_append.mp nd) fun _ nd2 nd3 => ?_
 refine o02 (List.nodup_append.mp nd2) fun _ _ nd4 => ?_
 rw [e2] at hp
 have old : ∀ q, q ∈ l1 ∨ q ∈ l2 → MutRel c.w.params (fz c ⟨st.loc, mu'⟩ h') h' q.1 q.2 := fun q hq => by
  have hqm : q ∈ st.mu := by rw [e1]; rcases hq with h | h <;> simp [h]
  refine (r.muts q hqm).lift fzs fun x hx ob e => (hs.2 x fun z => ?_).trans e
  subst z
  rcases hq with h | h
  ·exact nd3 x (List.mem_flatMap.mpr (i11 q h hx)) x (List.mem_append_left _ hd) rfl
  ·exact nd4 x hd x (List.mem_flatMap.mpr (i11 q h hx)) rfl
 rcases List.mem_append.mp hp with h | h
 ·exact old p (.inl h)
 ·rcases List.mem_cons.mp h with rfl | h
  ·exact ho fzs fun x hx q => hs.2 x q
  ·exact old p (.inr h)
theorem Rel.out {s : Shared} {a : Addr} {o : AO} {mu' : List (Addr × AO)} (r : Rel c st s) (hm : MuOut st.mu a o mu') : Rel c ⟨st.loc, mu'⟩ s ∧ Tr c st s ⟨st.loc, mu'⟩ s ∧ ∀ x ob, x ∈ o.addrs a → s.heap.get? x = some ob → (fz c ⟨st.loc, mu'⟩ s.heap).get? x = some ob := by
 refine o21 hm.split fun l1 l2 e1 e2 => ?_
 have nd := r.nodup
 rw [e1] at nd
 simp only [madd, List.flatMap_append, List.flatMap_cons] at nd
 refine o02 (List.nodup_append.mp nd) fun ndl nd2 nd3 => ?_
 refine o02 (List.nodup_append.mp nd2) fun ndo ndr nd4 => ?_
 have nd' : (madd mu').Nodup := by
  rw [e2]
  simp only [madd, List.flatMap_append]
  exact List.nodup_append.mpr (i02 ndl ndr (fun x hx y hy => nd3 x hx y (List.mem_append_right _ hy)))
 refine o01 (r.sub (mu' := mu') (fun p hp => by rw [e1]; rw [e2] at hp; simp only [List.mem_append, List.mem_cons] at hp ⊢; exact hp.imp id .inr) nd') fun r1 t1 => ?_
 refine i02 r1 t1 (fun x ob hx e => ?_)
 have hxm : x ∈ madd st.mu := List.mem_flatMap.mpr (i11 (a, o) (by rw [e1]; simp) hx)
 refine o03 (r.apart x hxm) fun h1 h2 h3 _ => ?_
 refine fz_iff.mpr (i04 e h1 h2 h3 (fun m => ?_))
 rw [e2] at m
 simp only [madd, List.flatMap_append, List.mem_append] at m
 rcases m with m | m
 ·exact nd3 x m x (List.mem_append_left _ hx) rfl
 ·exact nd4 x hx x m rfl
theorem out_list {s : Shared} {a : Addr} {ps : List PyData} {mu' : List (Addr × AO)} (r : Rel c st s) (hm : MuOut st.mu a (.list ps) mu') : Rel c ⟨st.loc, mu'⟩ s ∧ Tr c st s ⟨st.loc, mu'⟩ s ∧ RV (fz c ⟨st.loc, mu'⟩ s.heap) (.d (.list ps)) (.ref a) := by
 refine o02 (r.out hm) fun r1 t1 k => ?_
 refine o21 hm.split fun l1 l2 e1 _ => ?_
 refine o22 (r.muts (a, .list ps) (by rw [e1]; simp)) fun vs n hg hr _ => ?_
 exact i02 r1 t1 (RD.of_list (k a _ (.head _) hg) rfl rfl (hr.keeps t1.fz))
theorem out_dict {s : Shared} {a : Addr} {kvs : List (Str × PyData)} {mu' : List (Addr × AO)} (r : Rel c st s) (hm : MuOut st.mu a (.dict kvs) mu') : Rel c ⟨st.loc, mu'⟩ s ∧ Tr c st s ⟨st.loc, mu'⟩ s ∧ RV (fz c ⟨st.loc, mu'⟩ s.heap) (.fd c.w.params kvs) (.ref a) := by
 refine o02 (r.out hm) fun r1 t1 k => ?_
 refine o21 hm.split fun l1 l2 e1 _ => ?_
 refine o01 (r.muts (a, .dict kvs) (by rw [e1]; simp)) fun ne zz1 => ?_
 refine o23 zz1 fun es n hg hr nd hl => ?_
 clear zz1
 exact i02 r1 t1 ⟨a, es, n, rfl, ne, k a _ (.head _) hg, hr.keeps t1.fz, nd, hl⟩
theorem TE_freeze {e : Expr} {Q : AV → St → Prop} (h : TE c st e (fun x st1 => ∃ a ps mu', x = .v (.ref a) ∧ MuOut st1.mu a (.list ps) mu' ∧ Q (.d (.list ps)) ⟨st1.loc, mu'⟩) X) : TE c st e Q X := fun s r =>
 wpAny_mono (h s r) (fun v s1 zm1 => o23 zm1 fun x st1 zz51 r1 t1 hv => o32 zz51 fun a ps mu' e1 e2 e3 => by
  subst e1
  obtain rfl : v = .ref a := hv
  refine o02 (out_list r1 e2) fun r2 t2 q => ?_
  exact ⟨_, _, e3, r2, t1.trans t2, q⟩) fun _ _ x => x
theorem TE_freeze_dict {e : Expr} {Q : AV → St → Prop} (h : TE c st e (fun x st1 => ∃ a kvs mu', x = .v (.ref a) ∧ MuOut st1.mu a (.dict kvs) mu' ∧ Q (.fd c.w.params kvs) ⟨st1.loc, mu'⟩) X) : TE c st e Q X := fun s r =>
 wpAny_mono (h s r) (fun v s1 zm0 => o23 zm0 fun x st1 zz51 r1 t1 hv => o32 zz51 fun a kvs mu' e1 e2 e3 => by
  subst e1
  obtain rfl : v = .ref a := hv
  refine o02 (out_dict r1 e2) fun r2 t2 q => ?_
  exact ⟨_, _, e3, r2, t1.trans t2, q⟩) fun _ _ x => x
theorem TS_expr {e : Expr} {Q : AF → St → Prop} (h : TE c st e (fun _ st1 => Q .next st1) X) (hs : swapsWith e none pos.line c.env = pure false) : TS c st (.Expr e pos) Q X := fun s r => by
 have hi : interactive c.env = false := by unfold interactive; rw [r.ok.fn]; rfl
 have e0 : exec (.Expr e pos) c.env = (do standAt pos; let v ← eval e c.env; dropValue e pos v) := PySem.exec_Expr _ e pos hi hs
 rw [e0]
 exact wpAny_bind (wpAny_standAt (wpAny_bind (h.then r (.refl ..) fun v x st1 s1 h1 r1 v1 t1 => wpAny_dropValue ((Post.here (R := RF) r1 h1 rfl).lift t1))))
end
end
section
section
variable {c : Cx} {st : St} {X : Flds → List (Option AV) → Prop} {pos pos' : Pos} {k : Nat} {Q : AV → St → Prop}
theorem RVs.one {G : Heap} {a : AV} {vs : List Value} (h : RVs G [a] vs) : ∃ v, vs = [v] ∧ RV G a v := by
 refine o22 h fun v vs' zz1 h1 h2 => ?_
 try clear h
 subst zz1
 exact i11 v (by rw [show vs' = [] from h2]) h1
theorem RVs.two {G : Heap} {a b : AV} {vs : List Value} (h : RVs G [a, b] vs) : ∃ v w, vs = [v, w] ∧ RV G a v ∧ RV G b w := by
 refine o22 h fun v vs' zz1 h1 h2 => ?_
 try clear h
 subst zz1
 refine o11 h2.one fun w zz1 h3 => ?_
 subst zz1
 exact i22 v w rfl h1 h3
theorem RVs.three {G : Heap} {a b d : AV} {vs : List Value} (h : RVs G [a, b, d] vs) : ∃ v w u, vs = [v, w, u] ∧ RV G a v ∧ RV G b w ∧ RV G d u := by
 refine o22 h fun v vs' zz1 h1 h2 => ?_
 try clear h
 subst zz1
 refine o21 h2.two fun w u zz1 h3 => ?_
 subst zz1
 exact i32 v w u rfl h1 h3
theorem TC.gr {f : Value} {as : List AV} (h : ∀ s vs, Rel c st s → RVs (fz c st s.heap) as vs → ∀ (W : Value → Shared → Prop) (E : Value → Shared → Prop), (∀ z v s', Q z st → Gr s s' → RV (fz c st s'.heap) z v → W v s') → wpAny c.M c.A (call f vs) W E s) : TC c st f as Q X :=
 fun s vs r hv => h s vs r hv _ _ fun z v s' q g hz => Post.gr r g q hz
theorem RD.isList {s : Shared} {ps : List PyData} {v : Value} (h : RD (fz c st s.heap) (.list ps) v) : ∃ a vs, v = .ref a ∧ s.heap.IsList a vs ∧ RDs (fz c st s.heap) ps vs.toList := by
 refine o44 h.list fun a o vs n zz1 h1 h2 h3 h4 => ?_
 subst zz1
 exact i22 a vs rfl ⟨o, fz_sub _ _ h1, h2, n, h3⟩ h4
theorem RD.isTuple {s : Shared} {ps : List PyData} {v : Value} (h : RD (fz c st s.heap) (.tuple ps) v) : ∃ a vs, v = .ref a ∧ s.heap.IsTuple a vs ∧ RDs (fz c st s.heap) ps vs.toList := by
 refine o44 h.tuple fun a o vs n zz1 h1 h2 h3 h4 => ?_
 subst zz1
 exact i22 a vs rfl ⟨o, fz_sub _ _ h1, h2, n, h3⟩ h4
theorem RDs.size {G : Heap} {ps : List PyData} {vs : Array Value} (h : RDs G ps vs.toList) : vs.size = ps.length := by simpa using h.length
theorem TC_len_str {x : Str} (hl : x.length ≤ 1000000) (h : Q (.d (.int x.length)) st) : TC c st (.builtin "len") [.d (.str x)] Q X := .gr fun s vs r hv W E k => by
 refine o11 hv.one fun v zz1 h1 => ?_
 subst zz1
 refine o10 h1.str fun t zz1 => ?_
 subst zz1
 (with_reducible refine PySem.P.len_str (Int.not_le.mpr (nle63 hl)) ?_)
 exact k _ _ _ h (.toks _ _) .of_int
theorem TC_len_list {ps : List PyData} (hl : ps.length ≤ 1000000) (h : Q (.d (.int ps.length)) st) : TC c st (.builtin "len") [.d (.list ps)] Q X := .gr fun s vs r hv W E k => by
 refine o11 hv.one fun v zz1 h1 => ?_
 subst zz1
 refine o22 h1.isList fun a ws zz1 h2 h3 => ?_
 subst zz1
 have hn := h3.size
 (with_reducible refine PySem.Calls.call_len_list h2 (nle63 (Nat.le_trans (Nat.le_of_eq hn) hl)) ?_)
 rw [hn]
 exact k _ _ _ h (.toks _ _) .of_int
theorem TC_len_mu {a : Addr} {ps : List PyData} (hm : MuAt st.mu a (.list ps)) (h : Q (.d (.int ps.length)) st) : TC c st (.builtin "len") [.v (.ref a)] Q X := .gr fun s vs r hv W E k => by
 refine o11 hv.one fun v zz1 h1 => ?_
 subst zz1
 obtain rfl : v = .ref a := h1
 refine o22 (r.muts _ hm.mem) fun ws n h2 h3 h4 => ?_
 have hn := h3.size
 have hL : s.heap.IsList a ws := ⟨_, h2, rfl, _, rfl⟩
 (with_reducible refine PySem.Calls.call_len_list hL (nle63 (Nat.le_trans (Nat.le_of_eq hn) h4)) ?_)
 rw [hn]
 exact k _ _ _ h (.toks _ _) .of_int
theorem TC_ord {x : Str} (hl : x.length = 1) (h : Q (.d (.int (x.cps.getD 0 0 : Nat))) st) : TC c st (.builtin "ord") [.d (.str x)] Q X := .gr fun s vs r hv W E k => by
 refine o11 hv.one fun v zz1 h1 => ?_
 subst zz1
 refine o10 h1.str fun t zz1 => ?_
 subst zz1
 exact PyProof.Rows.ord_of_one hl (k _ _ _ h (.toks _ _) .of_int)
theorem TC_chr {i : Int} (h0 : 0 ≤ i) (h1 : i ≤ 1114111) (h : Q (.d (.str ⟨#[i.toNat]⟩)) st) : TC c st (.builtin "chr") [.d (.int i)] Q X := .gr fun s vs r hv W E k => by
 refine o11 hv.one fun v zz1 h1 => ?_
 subst zz1
 refine o10 h1.int fun t zz1 => ?_
 subst zz1
 exact PyProof.Rows.chr_of_range h0 (by assumption) (k _ _ _ h (.toks _ _) .of_str)
theorem TC_str_int {i : Int} (h0 : i.natAbs.log2 < 1920) (h : Q (.d (.str (toString i))) st) : TC c st (.type "str") [.d (.int i)] Q X := .gr fun s vs r hv W E k => by
 refine o11 hv.one fun v zz1 h1 => ?_
 subst zz1
 refine o10 h1.int fun t zz1 => ?_
 subst zz1
 exact PySem.P.str_of_int h0 (k _ _ _ h (.toks _ _) .of_str)
theorem TC_isi_tuple {ps : List PyData} (h : Q (.d (.bool true)) st) : TC c st (.builtin "isinstance") [.d (.tuple ps), .v (.type "tuple")] Q X := .gr fun s vs r hv W E k => by
 refine o22 hv.two fun v w zz1 h1 h2 => ?_
 subst zz1
 obtain rfl : w = _ := h2
 refine o22 h1.isTuple fun a ws zz1 h3 h4 => ?_
 subst zz1
 exact call_isinstance (isinstance_true (Tx := "tuple") (by kernel_rfl) (by kernel_rfl)) ⟨h3.typeIs, k _ _ _ h (.refl _) .of_bool⟩
theorem TC_isi_str {x : Str} (h : Q (.d (.bool false)) st) : TC c st (.builtin "isinstance") [.d (.str x), .v (.type "tuple")] Q X := .gr fun s vs r hv W E k => by
 refine o22 hv.two fun v w zz1 h1 h2 => ?_
 subst zz1
 obtain rfl : w = _ := h2
 refine o10 h1.str fun t zz1 => ?_
 subst zz1
 exact call_isinstance (isinstance_false_str (by decide) (by kernel_rfl) (by kernel_rfl)) (k _ _ _ h (.toks _ _) .of_bool)
theorem TC_range1 {n : Int} (h : Q (.rng 0 n 1) st) : TC c st (.type "range") [.d (.int n)] Q X := .gr fun s vs r hv W E k => by
 refine o11 hv.one fun v zz1 h1 => ?_
 subst zz1
 refine o10 h1.int fun t zz1 => ?_
 subst zz1
 refine PySem.call_range_1 ?_
 have g : Gr s { s with heap := s.heap.push { cls := .type "range", data := .fields #[.int 0 s.toks, .int n t, .int 1 (s.toks + 1)] }, toks := s.toks + 1 + 1 } := ⟨fun _ _ e => Heap.get?_push_of_some _ e, rfl, rfl⟩
 exact k _ _ _ h g ⟨_, _, _, _, rfl, fz_iff.mpr ⟨Heap.get?_push_size _ rfl, TE_tuple.not_mem_new r⟩⟩
theorem TC_range3 {a b d : Int} (hd : d ≠ 0) (hp : Builtin.divisionGoesByPylong (b - a) d = false) (h : Q (.rng a b d) st) : TC c st (.type "range") [.d (.int a), .d (.int b), .d (.int d)] Q X := .gr fun s vs r hv W E k => by
 refine o33 hv.three fun v w u zz1 h1 h2 h3 => ?_
 subst zz1
 refine o10 h1.int fun t1 zz1 => ?_
 subst zz1; refine o10 h2.int fun t2 zz1 => ?_; subst zz1; refine o10 h3.int fun t3 zz1 => ?_; subst zz1
 refine PySem.call_range_3 hd ?_ (.inl hp)
 have g : Gr s { s with heap := s.heap.push { cls := .type "range", data := .fields #[.int a t1, .int b t2, .int d t3] }, toks := s.toks } := ⟨fun _ _ e => Heap.get?_push_of_some _ e, rfl, rfl⟩
 exact k _ _ _ h g ⟨_, _, _, _, rfl, fz_iff.mpr ⟨Heap.get?_push_size _ rfl, TE_tuple.not_mem_new r⟩⟩
theorem TC_list_list {ps : List PyData} (hl : ps.length ≤ 1000000) (h : Q (.d (.list ps)) st) : TC c st (.type "list") [.d (.list ps)] Q X := .gr fun s vs r hv W E k => by
 refine o11 hv.one fun v zz1 h1 => ?_
 subst zz1
 refine o22 h1.isList fun a ws zz1 zz2 h3 => ?_
 subst zz1
 refine o12 zz2 fun o ho hc zz3 => ?_
 clear zz2
 refine o10 zz3 fun n hd => ?_
 clear zz3
 have hn := h3.size
 refine call_list_seq a (.inl rfl) ho hc hd (fun h' c' hk hg => ?_) (by rw [hn, sizeLine_eq]; exact fg (.le (.v 0) (.c 16777216)) [.le (.v 0) (.c 1000000)] [1,1] [] rfl [_] [] hl)
 have g : Gr s { s with heap := h' } := ⟨hk, rfl, rfl⟩
 exact k _ _ _ h g (RD.of_list (fz_iff.mpr ⟨hg, TE_tuple.not_mem_new r⟩) rfl rfl (h3.keeps g.fz))
theorem TC_tuple_list {ps : List PyData} (hl : ps.length ≤ 1000000) (h : Q (.d (.tuple ps)) st) : TC c st (.type "tuple") [.d (.list ps)] Q X := .gr fun s vs r hv W E k => by
 refine o11 hv.one fun v zz1 h1 => ?_
 subst zz1
 refine o22 h1.isList fun a ws zz1 h2 h3 => ?_
 subst zz1
 have hn := h3.size
 refine call_tuple_list h2 (fun h' hk => ?_) (by rw [hn, sizeLine_eq]; exact fg (.le (.v 0) (.c 16777216)) [.le (.v 0) (.c 1000000)] [1,1] [] rfl [_] [] hl)
 have g1 : Gr s { s with heap := h' } := ⟨hk, rfl, rfl⟩
 have r1 := r.gr g1
 have g2 := Gr.push { s with heap := h' } { cls := .type "tuple", data := .seq ws }
 exact k _ _ _ h (g1.trans g2) (RD.of_tuple (fz_iff.mpr ⟨Heap.get?_push_size _ rfl, TE_tuple.not_mem_new r1⟩) rfl rfl ((h3.keeps g1.fz).keeps g2.fz))
theorem Meth.str {x : Str} {name : Str} {id : String} (h : ∀ (M : Model) (A : Around) (s : Shared) (t : Tok) (pl : Sem Bool) (W : Value × List Value → Shared → Prop) (E : Value → Shared → Prop), W (.builtin id, [.str x t]) s → wpAny M A (getMethod (.str x t) name pl) W E s) : Meth st (.d (.str x)) name id := .mk fun c s v pl W E r hv k => by
 refine o10 hv.str fun t zz1 => ?_
 subst zz1
 exact h _ _ _ _ _ _ _ (k s (.refl s))
theorem Meth.find {x : Str} : Meth st (.d (.str x)) "find" "str.find" := .str fun M A s t pl W E h => getMethod_builtin (typeIs_str s x t) F.plainAttrs_str F.slot_str_find F.type_str_find (fun a e => nomatch e) h
theorem Meth.join {x : Str} : Meth st (.d (.str x)) "join" "str.join" := .str fun M A s t pl W E h => getMethod_builtin (typeIs_str s x t) F.plainAttrs_str F.slot_str_join F.type_str_join (fun a e => nomatch e) h
theorem Meth.mu {a : Addr} {ps : List PyData} {name : Str} {id : String} (hm : MuAt st.mu a (.list ps)) (slot : Slot "list" name id) (hty : typeOf (.builtin id) = pure (.type "method_descriptor")) : Meth st (.v (.ref a)) name id := .mk fun c s v pl W E r hv k => by
 obtain rfl : v = .ref a := hv
 refine o22 (r.muts _ hm.mem) fun ws n h2 h3 h4 => ?_
 exact getMethod_builtin ⟨_, h2, rfl⟩ F.plainAttrs_list slot hty (fun b e => by cases e; exact i11 _ h2 rfl) (k s (.refl s))
theorem Meth.append {a : Addr} {ps : List PyData} (hm : MuAt st.mu a (.list ps)) : Meth st (.v (.ref a)) "append" "list.append" := .mu hm F.slot_list_append F.type_list_append
theorem Meth.extend {a : Addr} {ps : List PyData} (hm : MuAt st.mu a (.list ps)) : Meth st (.v (.ref a)) "extend" "list.extend" := .mu hm F.slot_list_extend F.type_list_extend
theorem Meth.pop {a : Addr} {ps : List PyData} (hm : MuAt st.mu a (.list ps)) : Meth st (.v (.ref a)) "pop" "list.pop" := .mu hm F.slot_list_pop F.type_list_pop
theorem Meth.get {P : Params} {kvs : List (Str × PyData)} : Meth st (.fd P kvs) "get" "dict.get" := .mk fun c s v pl W E r hv k => by
 refine o33 hv fun a es n zz1 h0 h1 _ => ?_
 try clear hv
 subst zz1
 exact getMethod_builtin ⟨_, fz_sub _ _ h1, rfl⟩ F.plainAttrs_dict F.slot_dict_get F.type_dict_get (fun b e => by cases e; exact i11 _ (fz_sub _ _ h1) rfl) (k s (.refl s))
end
end
section
noncomputable def putS (kvs : List (Str × PyData)) (k : Str) (v : PyData) : List (Str × PyData) :=
 if kvs.any (fun kv => kv.1 = k) then kvs.map (fun kv => if kv.1 = k then (kv.1, v) else kv) else kvs ++ [(k, v)]
inductive KV (G : Heap) : List (Str × PyData) → List (Str × Value) → Prop
 | nil : KV G [] []
 | cons {k p v a b} : RD G p v → KV G a b → KV G ((k, p) :: a) ((k, v) :: b)
theorem KV.of {G : Heap} : ∀ {kvs : List (Str × PyData)} {kvv : List (Str × Value)}, kvv.map (·.1) = kvs.map (·.1) → RDs G (kvs.map (·.2)) (kvv.map (·.2)) → KV G kvs kvv
 | [], [], _, _ => .nil
 | [], _ :: _, e, _ => by simp at e
 | _ :: _, [], e, _ => by simp at e
 | (k, p) :: a, (k', v) :: b, e, r => by
  simp only [List.map_cons, List.cons.injEq] at e
  refine o01 e fun zz1 _ => ?_
  clear e
  rename_i e
  subst zz1
  refine o22 r.inv_cons fun w ws q h1 h2 => ?_
  simp only [List.map_cons, List.cons.injEq] at q
  refine o01 q fun zz1 zz2 => ?_
  try clear q
  subst zz1
  subst zz2
  exact .cons h1 (KV.of e h2)
theorem KV.keys {G : Heap} {kvs : List (Str × PyData)} {kvv : List (Str × Value)} (h : KV G kvs kvv) : kvv.map (·.1) = kvs.map (·.1) := by
 induction h with
 | nil => rfl
 | cons _ _ ih => simp [ih]
theorem KV.vals {G : Heap} {kvs : List (Str × PyData)} {kvv : List (Str × Value)} (h : KV G kvs kvv) : RDs G (kvs.map (·.2)) (kvv.map (·.2)) := by
 induction h with
 | nil => exact .nil
 | cons a _ ih => exact .cons a ih
theorem KV.keeps {G G' : Heap} (k : G.StaysIn G') {kvs : List (Str × PyData)} {kvv : List (Str × Value)} (h : KV G kvs kvv) : KV G' kvs kvv := by
 induction h with
 | nil => exact .nil
 | cons a _ ih => exact .cons (a.keeps k) ih
theorem KV.look {G : Heap} {kvs : List (Str × PyData)} {kvv : List (Str × Value)} (h : KV G kvs kvv) (k : Str) : (Mine.look kvs k = none ∧ valueAt kvv k = none) ∨ ∃ p v, Mine.look kvs k = some p ∧ valueAt kvv k = some v ∧ RD G p v := by
 induction h with
 | nil => exact .inl ⟨rfl, rfl⟩
 | @cons k' p v a b hr _ ih =>
  unfold Mine.look valueAt at ih ⊢
  simp only [List.find?_cons]
  by_cases q : k' = k
  ·subst q; simp only [decide_true]; exact .inr (i22 p v rfl rfl hr)
  ·simp only [q, decide_false]; exact ih
theorem KV.any {G : Heap} {kvs : List (Str × PyData)} {kvv : List (Str × Value)} (h : KV G kvs kvv) (k : Str) : (kvs.any fun kv => kv.1 = k) = (kvv.any fun kv => kv.1 = k) := by
 induction h with
 | nil => rfl
 | cons _ _ ih => simp [ih]
theorem KV.map {G : Heap} {kvs : List (Str × PyData)} {kvv : List (Str × Value)} (h : KV G kvs kvv) (k : Str) {p : PyData} {v : Value} (hv : RD G p v) : KV G (kvs.map fun kv => if kv.1 = k then (kv.1, p) else kv) (kvv.map fun kv => if kv.1 = k then (kv.1, v) else kv) := by
 induction h with
 | nil => exact .nil
 | @cons k' _ _ _ _ hr _ ih =>
  simp only [List.map_cons]
  by_cases q : k' = k
  ·rw [if_pos q, if_pos q]; exact .cons hv ih
  ·rw [if_neg q, if_neg q]; exact .cons hr ih
theorem KV.append {G : Heap} {kvs kvs' : List (Str × PyData)} {kvv kvv' : List (Str × Value)} (h : KV G kvs kvv) (h' : KV G kvs' kvv') : KV G (kvs ++ kvs') (kvv ++ kvv') := by
 induction h with
 | nil => exact h'
 | cons a _ ih => exact .cons a ih
theorem KV.put {G : Heap} {kvs : List (Str × PyData)} {kvv : List (Str × Value)} (h : KV G kvs kvv) (k : Str) {p : PyData} {v : Value} (hv : RD G p v) : KV G (putS kvs k p) (stored kvv k v) := by
 unfold putS stored
 rw [h.any k]
 split
 ·exact h.map k hv
 ·exact h.append (.cons hv .nil)
section
variable {c : Cx} {st : St} {X : Flds → List (Option AV) → Prop} {pos pos' : Pos} {k : Nat} {Q : AV → St → Prop}
theorem fd_at {s : Shared} {P : Params} {w : World} {kvs : List (Str × PyData)} {v : Value} (hP : P = w.params) (h : RV (fz c st s.heap) (.fd P kvs) v) : ∃ a kvv n, v = .ref a ∧ (a == sysModules) = false ∧ s.heap.DictAt (PySem.strKind pw w) a kvv n ∧ KV (fz c st s.heap) kvs kvv := by
 subst hP
 refine o35 h fun a es n zz1 h0 h1 h2 h3 h4 => ?_
 try clear h
 subst zz1
 refine o12 (h2.dictAt h1 h3) fun kvv d e1 e2 => ?_
 exact i33 a kvv n rfl (beq_eq_false_iff_ne.mpr h0) (d.keep fz_sub) (KV.of e1 e2)
theorem TC_get {kvs : List (Str × PyData)} {key : Str} {d : PyData} (h : Q (.d ((look kvs key).getD d)) st) : TC c st (.builtin "dict.get") [.fd c.w.params kvs, .d (.str key), .d d] Q X := .gr fun s vs r hv W E k => by
 refine o33 hv.three fun v w u zz1 h1 h2 h3 => ?_
 subst zz1
 refine o33 (fd_at rfl h1) fun a kvv n zz1 ha hd hkv => ?_
 subst zz1
 refine o10 h2.str fun t zz1 => ?_
 subst zz1
 refine call_meetsIn PySem.F.slot_dict_get hd.dictOf.typeIs PySem.F.entry_dict_get (PySem.F.args_dict_get_3 _ _ _) (meets_dict_get_default (PySem.strKind pw c.w) a (strKind_is pw c.w key t) ha u) (i11 _ hd.dictOf.mapOf ?_)
 rcases hkv.look key with ⟨e1, e2⟩ | ⟨p, v, e1, e2, e3⟩
 ·rw [e2]; rw [e1] at h; exact k _ _ _ h (.toks _ _) h3
 ·rw [e2]; rw [e1] at h; exact k _ _ _ h (.toks _ _) e3
theorem Cmp.in_fd {P : Params} {w : World} {kvs : List (Str × PyData)} {key : Str} (hP : ∀ c : Cx, c.w = w → P = c.w.params) : (∀ c s v u, c.w = w → Rel c st s → RV (fz c st s.heap) (.d (.str key)) v → RV (fz c st s.heap) (.fd P kvs) u → GOp c st s (compareOp .In v u) fun z => z = .d (.bool (look kvs key).isSome)) := fun c s v u hw r hv hu => by
 refine o10 hv.str fun t zz1 => ?_
 subst zz1
 refine o33 (fd_at (hP c hw) hu) fun a kvv n zz1 ha hd hkv => ?_
 subst zz1
 refine ⟨wpAny_in_of (strKind_is pw c.w key t) ha hd.dictOf.mapOf (i12 _ rfl (.toks _ _) ?_)⟩
 rcases hkv.look key with ⟨e1, e2⟩ | ⟨p, v, e1, e2, e3⟩
 ·rw [e1, e2]; exact .of_bool
 ·rw [e1, e2]; exact .of_bool
theorem TB_in_fd {l r : Expr} {Q : Bool → St → Prop} (h : TE c st l (fun x st1 => TE c st1 r (fun y st2 => ∃ key kvs, x = .d (.str key) ∧ y = .fd c.w.params kvs ∧ Q (look kvs key).isSome st2) X) X) (hm : behindInMarks .In r = false) : TB c st (.Compare l [.In] [r] pos) Q X := fun s hs =>
 wpAny_isTrue_Compare1 (h.then hs (.refl ..) fun va x st1 s1 h1 r1 v1 t1 => h1.then r1 t1 fun vb y st2 s2 zm2 r2 v2 t2 => o22 zm2 fun key kvs e1 e2 h3 => by
  subst e1 e2
  exact wpAny_mono (Cmp.in_fd (w := c.w) (fun c' e => by rw [e]) c s2 va vb rfl r2 (v1.keeps t2.fz) v2).out (fun v s' zm1 => o12 zm1 fun z e g q => by subst e; exact truth Tru.bool (r2.gr g) q ((t1.trans t2).trans (.gr g)) h3) fun _ _ x => x.elim) hm
theorem Item.fd {kvs : List (Str × PyData)} {key : Str} {p : PyData} {K : AV → Prop} (hl : look kvs key = some p) (h : K (.d p)) {c : Cx} {s : Shared} {v u : Value} (r : Rel c st s) (hv : RV (fz c st s.heap) (.fd c.w.params kvs) v) (hu : RV (fz c st s.heap) (.d (.str key)) u) :
  ∃ T id, s.TypeIs v T ∧ typeLookup (.type T) "__getitem__" = pure (some (.builtin id)) ∧ GOp c st s (getItem v u) K := by
 refine o10 hu.str fun t zz1 => ?_
 subst zz1
 refine o33 (fd_at rfl hv) fun a kvv n zz1 ha hd hkv => ?_
 subst zz1
 rcases hkv.look key with ⟨e1, e2⟩ | ⟨p', v, e1, e2, e3⟩
 ·rw [e1] at hl; cases hl
 ·rw [e1] at hl; cases hl
  exact i22 ("dict") _ hd.dictOf.typeIs slot_dict_getitem.lookup (.of_gr fun W E k => wpAny_getItem_of (strKind_is pw c.w key t) hd.dictOf.mapOf e2 (k _ _ _ h (.toks _ _) e3))
theorem TE_sub_fd {value slice : Expr} (h : TE c st value (fun x st1 => TE c st1 slice (fun y st2 => ∃ key kvs p, y = .d (.str key) ∧ x = .fd c.w.params kvs ∧ look kvs key = some p ∧ Q (.d p) st2) X) X)
  (hs : ∀ o i, ∃ ops, subscripted slice false o i = operate ops (getItem o i)) : TE c st (.Subscript value slice pos) Q X := fun s r =>
 PyProof.Rows.Subscript_ (h.then r (.refl ..) fun v x st1 s1 h1 r1 v1 t1 => h1.then r1 t1 fun w y st2 s2 zm0 r2 v2 t2 => o33 zm0 fun key kvs p e1 e2 e3 e4 => by
  subst e1 e2
  refine o22 (Item.fd (K := fun z => Q z st2) e3 e4 r2 (v1.keeps t2.fz) v2) fun T id hT hl g => ?_
  refine o10 (hs v w) fun ops ho => ?_
  exact sub_tail (M := c.M) hT hl (g.post r2 (t1.trans t2) fun z q => q) ho)
theorem Txt_find_eq : True := trivial
theorem TC_find {x y : Str} (h : Q (.d (.int (Txt.find x y))) st) : TC c st (.builtin "str.find") [.d (.str x), .d (.str y)] Q X := .gr fun s vs r hv W E k => by
 refine o22 hv.two fun v w zz1 h1 h2 => ?_
 subst zz1
 refine o10 h1.str fun t zz1 => ?_
 subst zz1; refine o10 h2.str fun u zz1 => ?_; subst zz1
 exact call_meets F.slot_str_find (typeIs_str _ _ _) F.entry_str_find (F.args_str_find_2 _ _) (gives_str_find x y t u).meets (k _ _ _ h (.toks _ _) .of_int)
noncomputable def strsOf : List PyData → List Str
 | .str x :: ps => x :: strsOf ps
 | _ => []
theorem strsAre_of {G : Heap} : ∀ {ys : List Str} {vs : List Value}, RDs G (ys.map .str) vs → StrsAre vs ys
 | [], _, r => by rw [r.inv_nil]; exact .nil
 | y :: ys, _, r => by
  refine o22 r.inv_cons fun v vs' zz1 a b => ?_
  subst zz1
  refine o10 a.str fun t zz1 => ?_
  subst zz1
  exact .cons _ _ (strsAre_of b)
theorem TC_join {x : Str} {ys : List Str} (hl : (ys.map (·.length)).sum + ys.length * x.length ≤ 16777216) (h : Q (.d (.str (Txt.join x ys))) st) : TC c st (.builtin "str.join") [.d (.str x), .d (.list (ys.map .str))] Q X := .gr fun s vs r hv W E k => by
 refine o22 hv.two fun v w zz1 h1 h2 => ?_
 subst zz1
 refine o10 h1.str fun t zz1 => ?_
 subst zz1
 refine o22 h2.isList fun a ws zz1 h3 h4 => ?_
 subst zz1
 exact PyProof.Rows.join_list h3 (strsAre_of h4) hl fun t' tk => k _ _ _ h (.toks _ _) .of_str
theorem Bin.add_list {xs ys : List PyData} {K : AV → Prop} (hl : xs.length + ys.length ≤ 1000000) (h : K (.d (.list (xs ++ ys)))) : Bin .Add (.d (.list xs)) (.d (.list ys)) K := fun c st s v w r hv hw => by
 refine o44 hv.list fun a o vs n zz1 h1 h2 h3 h4 => ?_
 subst zz1
 refine o44 hw.list fun b o' vs' n' zz1 h1' h2' h3' h4' => ?_
 subst zz1
 obtain ⟨cls, dd, data, sl⟩ := o
 obtain ⟨cls', dd', data', sl'⟩ := o'
 simp only at h2 h3 h2' h3'
 subst h2 h3 h2' h3'
 have e := h4.size; have e' := h4'.size
 have g := Gr.push s { cls := .type "list", data := .seq (vs ++ vs') }
 exact .of_gr fun W E k => concat_meets ⟨_, fz_sub _ _ h1, rfl⟩ ⟨_, fz_sub _ _ h1', rfl⟩ noFill_list_add seq_list_add PySem.F.slot_list_add PySem.F.entry_list_add (PySem.F.args_list_add_2 _ _) (list_addW a b vs vs' n n' dd dd' sl sl' (by rw [sizeLine_eq]; exact fg (.le (.a (.v 2) (.v 3)) (.c 16777216)) [.le (.a (.v 0) (.v 1)) (.c 1000000),.eq (.v 2) (.v 0),.eq (.v 3) (.v 1)] [1,1,1,1] [] rfl [_,_,_,_] [] hl e e')) (i02 (fz_sub _ _ h1) (fz_sub _ _ h1') (k _ _ _ h g (RD.of_list (fz_iff.mpr ⟨Heap.get?_push_size _ rfl, TE_tuple.not_mem_new r⟩) rfl rfl (by simpa using (h4.keeps g.fz).append (h4'.keeps g.fz)))))
theorem Bin.add_tuple {xs ys : List PyData} {K : AV → Prop} (hl : xs.length + ys.length ≤ 1000000) (h : K (.d (.tuple (xs ++ ys)))) : Bin .Add (.d (.tuple xs)) (.d (.tuple ys)) K := fun c st s v w r hv hw => by
 refine o44 (id hv.tuple) fun a o vs n zz1 h1 h2 h3 h4 => ?_
 subst zz1
 refine o44 (id hw.tuple) fun b o' vs' n' zz1 h1' h2' h3' h4' => ?_
 subst zz1
 obtain ⟨cls, dd, data, sl⟩ := o
 obtain ⟨cls', dd', data', sl'⟩ := o'
 simp only at h2 h3 h2' h3'
 subst h2 h3 h2' h3'
 have e := h4.size; have e' := h4'.size
 have g := Gr.push s { cls := .type "tuple", data := .seq (vs ++ vs') }
 refine .of_gr fun W E k => ?_
 by_cases hx : vs.isEmpty = true
 ·have hx0 : xs = [] := by
   have : vs.size = 0 := by simpa using hx
   exact List.length_eq_zero_iff.mp (by exact fe (.v 1) (.c 0) [.qe (.v 0) (.v 1),.eq (.v 0) (.c 0)] [1,0,0] [0,1] [1,1,1] [] rfl [_,_] [] e this)
  subst hx0
  exact concat_meets ⟨_, fz_sub _ _ h1, rfl⟩ ⟨_, fz_sub _ _ h1', rfl⟩ noFill_tuple_add seq_tuple_add PySem.F.slot_tuple_add PySem.F.entry_tuple_add (PySem.F.args_tuple_add_2 _ _) (tuple_addW0 a b vs vs' n n' dd dd' sl sl' hx) (i02 (fz_sub _ _ h1) (fz_sub _ _ h1') (k _ _ _ h (.refl _) hw))
 ·by_cases hy : vs'.isEmpty = true
  ·have hy0 : ys = [] := by
    have : vs'.size = 0 := by simpa using hy
    exact List.length_eq_zero_iff.mp (by exact fe (.v 1) (.c 0) [.qe (.v 0) (.v 1),.eq (.v 0) (.c 0)] [1,0,0] [0,1] [1,1,1] [] rfl [_,_] [] e' this)
   subst hy0
   exact concat_meets ⟨_, fz_sub _ _ h1, rfl⟩ ⟨_, fz_sub _ _ h1', rfl⟩ noFill_tuple_add seq_tuple_add PySem.F.slot_tuple_add PySem.F.entry_tuple_add (PySem.F.args_tuple_add_2 _ _) (tuple_addW1 a b vs vs' n n' dd dd' sl sl' hx hy) (i02 (fz_sub _ _ h1) (fz_sub _ _ h1') (k _ _ _ h (.refl _) (by simpa using hv)))
  ·exact concat_meets ⟨_, fz_sub _ _ h1, rfl⟩ ⟨_, fz_sub _ _ h1', rfl⟩ noFill_tuple_add seq_tuple_add PySem.F.slot_tuple_add PySem.F.entry_tuple_add (PySem.F.args_tuple_add_2 _ _) (tuple_addW2 a b vs vs' n n' dd dd' sl sl' hx hy (by rw [sizeLine_eq]; exact fg (.le (.a (.v 2) (.v 3)) (.c 16777216)) [.le (.a (.v 0) (.v 1)) (.c 1000000),.eq (.v 2) (.v 0),.eq (.v 3) (.v 1)] [1,1,1,1] [] rfl [_,_,_,_] [] hl e e')) (i02 (fz_sub _ _ h1) (fz_sub _ _ h1') (k _ _ _ h g (RD.of_tuple (fz_iff.mpr ⟨Heap.get?_push_size _ rfl, TE_tuple.not_mem_new r⟩) rfl rfl (by simpa using (h4.keeps g.fz).append (h4'.keeps g.fz)))))
end
end
section
section
variable {c : Cx} {st : St} {X : Flds → List (Option AV) → Prop} {pos pos' : Pos} {k : Nat} {Q : AV → St → Prop}
theorem mapSeq_list (vs : Array Value) (n : Nat) (f : Array Value → Array Value) : ∃ n', Obj.mapSeq f { cls := .type "list", data := .seq vs n } = { cls := .type "list", data := .seq (f vs) n' } := ⟨_, rfl⟩
theorem set_list {s : Shared} {a : Addr} {vs : Array Value} {n tk : Nat} {f : Array Value → Array Value} {ps qs : List PyData} {mu' : List (Addr × AO)} (r : Rel c st s) (hm : MuSet st.mu a (.list ps) (.list qs) mu') (hg : s.heap.get? a = some { cls := .type "list", data := .seq vs n })
  (hq : ∀ {G' : Heap}, (fz c st s.heap).StaysIn G' → RDs G' qs (f vs).toList) (hl : qs.length ≤ 1000000) : Rel c ⟨st.loc, mu'⟩ { s with heap := s.heap.update a (Obj.mapSeq f), toks := tk } ∧ Tr c st s ⟨st.loc, mu'⟩ { s with heap := s.heap.update a (Obj.mapSeq f), toks := tk } := by
 refine o10 (mapSeq_list vs n f) fun n' e => ?_
 have hu : (s.heap.update a (Obj.mapSeq f)).get? a = some { cls := .type "list", data := .seq (f vs) n' } := by
  rw [Heap.get?_update_self _ hg (by rw [e]; rfl), e]
 exact r.set1 hm rfl (.head _) (Heap.SameBut.update ..) (by rw [hu]; rfl) fun fzs _ => ⟨f vs, n', hu, hq fzs, hl⟩
theorem mu_list {s : Shared} {a : Addr} {ps : List PyData} (r : Rel c st s) (hm : (a, AO.list ps) ∈ st.mu) : ∃ vs n, s.heap.get? a = some { cls := .type "list", data := .seq vs n } ∧ RDs (fz c st s.heap) ps vs.toList ∧ vs.size = ps.length ∧ ps.length ≤ 1000000 := by
 refine o22 (r.muts _ hm) fun ws n h2 h3 h4 => ?_
 exact i23 ws n h2 h3 h3.size h4
theorem TC_append {a : Addr} {ps : List PyData} {p : PyData} {mu' : List (Addr × AO)} (hm : MuSet st.mu a (.list ps) (.list (ps ++ [p])) mu') (hl : ps.length < 1000000) (h : Q (.d .none) ⟨st.loc, mu'⟩) : TC c st (.builtin "list.append") [.v (.ref a), .d p] Q X := fun s vs r hv => by
 refine o22 hv.two fun v w zz1 h1 h2 => ?_
 subst zz1
 obtain rfl : v = .ref a := h1
 refine o23 (mu_list r hm.mem) fun ws n g1 g2 g3 _ => ?_
 refine call_meets F.slot_list_append ⟨_, g1, rfl⟩ F.entry_list_append (F.args_list_append_2 _ _) (list_append a ws n w (by rw [sizeLine_eq]; exact fg (.le (.v 1) (.c 16777216)) [.lt (.v 0) (.c 1000000),.eq (.v 1) (.v 0)] [1,1,1] [] rfl [_,_] [] hl g3)) ⟨g1, ?_⟩
 refine o01 (set_list (tk := s.toks) r hm g1 (f := fun x => x.push w) (fun k => by simpa using (g2.keeps k).append (.cons (RD.keeps k h2) .nil)) (by simp; exact fg (.le (.v 0) (.c 999999)) [.lt (.v 0) (.c 1000000)] [1,1] [] rfl [_] [] hl)) fun r1 t1 => ?_
 exact ⟨_, _, h, r1, t1, .of_none⟩
theorem TC_pop {a : Addr} {ps qs : List PyData} {p : PyData} {i : Int} {mu' : List (Addr × AO)} (hm : MuSet st.mu a (.list ps) (.list qs) mu') (h0 : 0 ≤ i) (hp : ps[i.toNat]? = some p) (hq : qs = ps.eraseIdx i.toNat) (h : Q (.d p) ⟨st.loc, mu'⟩) : TC c st (.builtin "list.pop") [.v (.ref a), .d (.int i)] Q X := fun s vs r hv => by
 refine o22 hv.two fun v w zz1 h1 h2 => ?_
 subst zz1
 obtain rfl : v = .ref a := h1
 refine o10 (RD.int h2) fun t zz1 => ?_
 subst zz1
 refine o23 (mu_list r hm.mem) fun ws n g1 g2 g3 g4 => ?_
 have hi : i.toNat < ps.length := (List.getElem?_eq_some_iff.mp hp).1
 refine o11 (getElem_of_RDs g2 hp) fun y hy1 hy2 => ?_
 refine call_meets F.slot_list_pop ⟨_, g1, rfl⟩ F.entry_list_pop (F.args_list_pop_2 _ _) (PySem.MeetsSeq.list_pop_at a ws n i t i.toNat y ?_ ?_ hy1 (by rw [sizeLine_eq]; exact fg (.le (.v 0) (.c 16777216)) [.eq (.v 0) (.v 1),.le (.v 1) (.c 1000000)] [1,1,1] [] rfl [_,_] [] g3 g4)) ⟨g1, ?_⟩
 ·unfold Builtin.List.listFitsIndex
  simp; exact ⟨Int.le_trans (by decide) h0, ilt63 hi g4⟩
 ·unfold seqIndex?
  simp
  rw [g3]; exact ixo h0 hi
 refine o01 (set_list (tk := s.toks) r hm g1 (f := fun xs => xs.eraseIdxIfInBounds i.toNat) (fun k => by
  subst hq
  have e : (ws.eraseIdxIfInBounds i.toNat).toList = ws.toList.eraseIdx i.toNat := by simp
  rw [e]
  exact erase (g2.keeps k) _) (by subst hq; have := List.length_eraseIdx_le ps i.toNat; exact fg (.le (.v 1) (.c 1000000)) [.le (.v 0) (.c 1000000),.le (.v 1) (.v 0)] [1,1,1] [] rfl [_,_] [] g4 this)) fun r1 t1 => ?_
 exact ⟨_, _, h, r1, t1, hy2.keeps t1.fz⟩
where
 erase {G : Heap} : ∀ {ps : List PyData} {vs : List Value}, RDs G ps vs → ∀ i : Nat, RDs G (ps.eraseIdx i) (vs.eraseIdx i)
  | [], _, r, _ => by rw [r.inv_nil]; simpa using RDs.nil
  | _ :: _, _, r, 0 => by refine o22 r.inv_cons fun v vs' zz1 a b => ?_; subst zz1; simpa using b
  | _ :: _, _, r, i + 1 => by refine o22 r.inv_cons fun v vs' zz1 a b => ?_; subst zz1; simpa using RDs.cons a (erase b i)
theorem TC_extend {a b : Addr} {ps qs : List PyData} {mu1 mu' : List (Addr × AO)} (hb : MuOut st.mu b (.list qs) mu1) (hm : MuSet mu1 a (.list ps) (.list (ps ++ qs)) mu') (hl : ps.length + qs.length ≤ 1000000) (h : Q (.d .none) ⟨st.loc, mu'⟩) : TC c st (.builtin "list.extend") [.v (.ref a), .v (.ref b)] Q X := fun s vs r hv => by
 refine o22 hv.two fun v w zz1 h1 h2 => ?_
 subst zz1
 obtain rfl : v = .ref a := h1
 obtain rfl : w = .ref b := h2
 refine o21 hb.split fun l1 l2 e1 e2 => ?_
 refine o23 (mu_list r (a := b) (ps := qs) (by rw [e1]; simp)) fun us m f1 f2 f3 _ => ?_
 refine o02 (r.out hb) fun r0 t0 _ => ?_
 refine o23 (mu_list r0 hm.mem) fun ws n g1 g2 g3 _ => ?_
 refine call_meets F.slot_list_extend ⟨_, g1, rfl⟩ F.entry_list_extend (F.args_list_extend_2 _ _) (AutoSeq1.list_extend_list_list_0 a ws n b us m ?_ (by rw [sizeLine_eq]; exact fg (.le (.v 2) (.c 16777216)) [.le (.a (.v 0) (.v 1)) (.c 1000000),.eq (.v 2) (.v 0)] [1,1,1] [0,1] rfl [_,_,_] [] hl g3) (by rw [sizeLine_eq]; exact fg (.le (.a (.v 3) (.v 2)) (.a (.c 16777216) (.c 1))) [.le (.a (.v 0) (.v 1)) (.c 1000000),.eq (.v 2) (.v 1),.eq (.v 3) (.v 0)] [1,1,1,1] [] rfl [_,_,_,_] [] hl f3 g3)) (i02 g1 f1 ?_)
 ·have : Builtin.List.listTooLong (ws.size + us.size) = false := by
   unfold Builtin.List.listTooLong
   rw [sizeLine_eq]; simp; exact fg (.le (.a (.v 3) (.v 2)) (.c 16777216)) [.le (.a (.v 0) (.v 1)) (.c 1000000),.eq (.v 2) (.v 1),.eq (.v 3) (.v 0)] [1,1,1,1] [] rfl [_,_,_,_] [] hl f3 g3
  rw [this]; simp
 refine o01 (set_list (tk := s.toks) r0 hm g1 (f := fun x => x ++ us) (fun k => by simpa using (g2.keeps k).append (f2.keeps fun b o e => k b o (t0.fz b o e))) (by simp; exact fg (.le (.a (.v 0) (.v 1)) (.c 1000000)) [.le (.a (.v 0) (.v 1)) (.c 1000000)] [1,1] [] rfl [_,_] [] hl)) fun r1 t1 => ?_
 exact ⟨_, _, h, r1, t0.trans t1, .of_none⟩
theorem Item.mu {a : Addr} {ps : List PyData} {i : Int} {p : PyData} {K : AV → Prop} (hm : MuAt st.mu a (.list ps)) (h0 : 0 ≤ i) (hx : ps[i.toNat]? = some p) (h : K (.d p)) : Item st (.v (.ref a)) (.d (.int i)) K := fun c s v w r hv hw => by
 refine o10 hw.int fun u zz1 => ?_
 subst zz1
 obtain rfl : v = .ref a := hv
 refine o23 (mu_list r hm.mem) fun ws n g1 g2 g3 g4 => ?_
 have hi : i.toNat < ps.length := (List.getElem?_eq_some_iff.mp hx).1
 refine o11 (getElem_of_RDs g2 hx) fun v hv1 hv2 => ?_
 have hL : s.heap.IsList a ws := ⟨_, g1, rfl, n, rfl⟩
 exact i22 ("list") _ hL.typeIs list_getitem_lookup (GOp.of_gr fun W E k => wpAny_getItem_list hL h0 (ilt63 hi g4) hv1 (k _ _ _ h (.refl _) hv2))
theorem Cmp.notIn_mu {a : Addr} {x : Str} {ys : List Str} (hm : MuAt st.mu a (.list (ys.map .str))) : Cmp st .NotIn (.d (.str x)) (.v (.ref a)) (!strsIn x ys) := .of fun c s v w r hv hw W E k => by
 refine o10 hv.str fun t zz1 => ?_
 subst zz1
 obtain rfl : w = .ref a := hw
 refine o23 (mu_list r hm.mem) fun ws n g1 g2 g3 g4 => ?_
 refine o01 (strs_any (x := x) g2) fun e1 e2 => ?_
 have hl : s.heap.IsList a ws := ⟨_, g1, rfl, n, rfl⟩
 (with_reducible refine SeqAt.notIn_listAt (eqTo x) hl (fun y hy => ?_) ?_)
 ·refine o20 (e2 y (by simpa using hy)) fun z u zz1 => ?_
  subst zz1
  exact SeqAt.EqAt.str_str z u x t
 ·rw [← Array.any_toList, e1]; exact k s.toks
theorem TS_setitem {o i e : Expr} {Q : AF → St → Prop} (h : TE c st e (fun z st1 => TE c st1 o (fun x st2 => TE c st2 i (fun y st3 => ∀ s v w u, Rel c st3 s → RV (fz c st3 s.heap) x v → RV (fz c st3 s.heap) y w → RV (fz c st3 s.heap) z u →
   wpAny c.M c.A (setItem v w u) (fun _ s' => ∃ st', Q .next st' ∧ Rel c st' s' ∧ Tr c st3 s st' s') (EPost X c st3 s) s) X) X) X)
  (hs : swapsWith e (some (.Subscript o i pos')) pos.line c.env = pure false) : TS c st (.Assign [.Subscript o i pos'] e pos) Q X := fun s r =>
 wpAny_Assign_Subscript (h.then r (.refl ..) fun u z st1 s1 h1 r1 v1 t1 => h1.then r1 t1 fun v x st2 s2 h2 r2 v2 t2 => h2.then r2 (t1.trans t2) fun w y st3 s3 h3 r3 v3 t3 =>
  wpAny_mono (h3 s3 v w u r3 (v2.keeps t3.fz) v3 ((v1.keeps t2.fz).keeps t3.fz)) (fun _ s4 zm0 => o12 zm0 fun st4 q r4 t4 => (Post.here (R := RF) r4 q rfl).lift (((t1.trans t2).trans t3).trans t4)) fun _ _ x => x.lift ((t1.trans t2).trans t3)) hs
theorem setitem_list {a : Addr} {ps qs : List PyData} {i : Int} {p : PyData} {mu' : List (Addr × AO)} {K : St → Prop} (hm : MuSet st.mu a (.list ps) (.list qs) mu') (h0 : 0 ≤ i) (hi : i.toNat < ps.length) (hq : qs = ps.set i.toNat p) (h : K ⟨st.loc, mu'⟩) :
  ∀ s v w u, Rel c st s → RV (fz c st s.heap) (.v (.ref a)) v → RV (fz c st s.heap) (.d (.int i)) w → RV (fz c st s.heap) (.d p) u → wpAny c.M c.A (setItem v w u) (fun _ s' => ∃ st', K st' ∧ Rel c st' s' ∧ Tr c st s st' s') (EPost X c st s) s := fun s v w u r hv hw hu => by
 obtain rfl : v = .ref a := hv
 refine o10 hw.int fun t zz1 => ?_
 subst zz1
 refine o23 (mu_list r hm.mem) fun ws n g1 g2 g3 g4 => ?_
 refine wpAny_setItem_list' g1 h0 (ilt63 hi g4) (by rw [g3]; exact ixl h0 hi) ?_
 refine o01 (set_list (tk := s.toks) r hm g1 (f := fun xs => xs.setIfInBounds i.toNat u) (fun k => by
  subst hq
  have e : (ws.setIfInBounds i.toNat u).toList = ws.toList.set i.toNat u := by simp
  rw [e]
  exact setRD (g2.keeps k) _ (RD.keeps k hu)) (by subst hq; simpa using g4)) fun r1 t1 => ?_
 exact i12 _ h r1 t1
where
 setRD {G : Heap} : ∀ {ps : List PyData} {vs : List Value} {p : PyData} {u : Value}, RDs G ps vs → ∀ i : Nat, RD G p u → RDs G (ps.set i p) (vs.set i u)
  | [], _, _, _, r, _, _ => by rw [r.inv_nil]; simpa using RDs.nil
  | _ :: _, _, _, _, r, 0, h => by refine o22 r.inv_cons fun v vs' zz1 a b => ?_; subst zz1; simpa using RDs.cons h b
  | _ :: _, _, _, _, r, i + 1, h => by refine o22 r.inv_cons fun v vs' zz1 a b => ?_; subst zz1; simpa using RDs.cons a (setRD b i h)
 wpAny_setItem_list' {w : World} {A : Around} {s : Shared} {a : Addr} {ws : Array Value} {n : Nat} {i : Int} {t : Tok} {u : Value} {W : Unit → Shared → Prop} {E : Value → Shared → Prop} (g1 : s.heap.get? a = some { cls := .type "list", data := .seq ws n }) (h0 : 0 ≤ i) (hfit : i < 2 ^ 63) (hn : i < ws.size)
   (h : W () { s with heap := s.heap.update a (Obj.mapSeq fun xs => xs.setIfInBounds i.toNat u) }) : wpAny (model pw w) A (setItem (.ref a) (.int i t) u) W E s := by
  have hl : s.heap.IsList a ws := ⟨_, g1, rfl, n, rfl⟩
  unfold setItem
  try with_reducible refine wpAny_holding ?_
  first | refine wpAny_bind (wpAny_pure ?_) | skip
  refine wpAny_bind (wpAny_sequenceKey hl.typeIs (by decide) ?_)
  refine wpAny_bind (wpAny_callSpecial?_slot (name := Str.ofString "__setitem__") hl.typeIs slot_list_setitem
   (wpAny_call_entry slot_list_setitem hl.typeIs entry_list_setitem ?_ (args_list_setitem _ _ _)))
  show wpAny _ _ (Builtin.List.listSubscript? (.int i t) >>= _) _ _ s
  refine wpAny_bind (wpAny_listSubscript_int (fitsIndex_of h0 hfit) ?_)
  clear hfit
  refine o10 (Int.eq_ofNat_of_zero_le h0) fun j zz1 => ?_
  subst zz1
  have hj : j < ws.size := by exact fg (.lt (.v 0) (.v 1)) [.ilt (.n (.v 0)) (.n (.v 1))] [1,1] [] rfl [_,_] [] hn
  have hx' : ws[j]? = some ws[j] := Array.getElem?_eq_getElem hj
  show wpAny _ _ ((seqItemAt a j >>= fun r => pure (r.map (j, ·))) >>= _) _ _ s
  refine wpAny_bind (wpAny_bind (wpAny_seqItemAt g1 rfl (wpAny_pure ?_)))
  rw [hx']
  show wpAny _ _ (setSeqItemAt a j u >>= _) _ _ s
  refine wpAny_bind (wpAny_setSeqItemAt g1 rfl ?_)
  first
   | exact wpAny_bind (wpAny_pure (wpAny_pure (i11 .none rfl (wpAny_pure h))))
   | exact wpAny_pure ⟨.none, rfl, wpAny_pure h⟩
theorem putS_len {kvs : List (Str × PyData)} {x : Str} {p : PyData} : (putS kvs x p).length ≤ kvs.length + 1 := by
 unfold putS
 split <;> simp
theorem setitem_dict {a : Addr} {kvs : List (Str × PyData)} {x : Str} {p : PyData} {mu' : List (Addr × AO)} {K : St → Prop} (hm : MuSet st.mu a (.dict kvs) (.dict (putS kvs x p)) mu') (hl : kvs.length < 900) (h : K ⟨st.loc, mu'⟩) :
  ∀ s v w u, Rel c st s → RV (fz c st s.heap) (.v (.ref a)) v → RV (fz c st s.heap) (.d (.str x)) w → RV (fz c st s.heap) (.d p) u → wpAny c.M c.A (setItem v w u) (fun _ s' => ∃ st', K st' ∧ Rel c st' s' ∧ Tr c st s st' s') (EPost X c st s) s := fun s v w u r hv hw hu => by
 obtain rfl : v = .ref a := hv
 refine o10 hw.str fun t zz1 => ?_
 subst zz1
 refine o01 (r.muts _ hm.mem) fun ne zz1 => ?_
 refine o23 zz1 fun es n hg he nd hle => ?_
 clear zz1
 dsimp only at ne hg he nd hle
 refine o12 (he.dictAt hg nd) fun kvv d e1 e2 => ?_
 have kv := KV.of e1 e2
 have hlen : kvv.length = kvs.length := by simpa using congrArg List.length e1
 refine wpAny_setItem_pairs (strKind_is pw c.w x t) d.dictOf (fun h' hd' hs => ?_) (by rw [sizeLine_eq]; exact fg (.le (.v 1) (.c 16777216)) [.le (.v 0) (.c 900),.eq (.v 1) (.v 0)] [1,1,1] [] rfl [_,_] [] hle hlen)
 refine o10 hd'.dictAt fun ep hd2 => ?_
 have ha : (h'.get? a).isSome = true := by refine o21 hd2 fun o es ho _ => ?_; try clear hd2; rw [ho]; rfl
 refine o01 (r.set1 (tk := s.toks + 1) hm rfl (.head _) hs ha fun fzs _ => by
  have kv' := (kv.keeps fzs).put x (RD.keeps fzs hu)
  refine o12 (Heap.DictAt.ents hd2 kv'.keys kv'.vals) fun es' g1 g2 g3 => ?_
  exact ⟨ne, es', ep, g1, g2, g3, by have := @putS_len kvs x p; exact fg (.le (.v 1) (.c 900)) [.lt (.v 0) (.c 900),.le (.v 1) (.a (.v 0) (.c 1))] [1,1,1] [] rfl [_,_] [] hl this⟩) fun r1 t1 => ?_
 exact i12 _ h r1 t1
theorem size_big {s : Shared} (r : Rel c st s) : s.heap.objs.size ≠ sysModules := by
 have h := r.stay _ _ (r.ok.base.K _ _ (show (KF c.w.params).lookup 52 = some (fnO "is_blank" "is_blank" (fdOf 4) (.none) (.str "tclcore.numbers" 242) (.ref 51)) from by kernel_rfl!))
 have := Heap.lt_size h
 intro e
 rw [e] at this
 exact absurd this (by decide)
theorem TE_dict_mu {Q : AV → St → Prop} (h : ∀ a, Q (.v (.ref a)) ⟨st.loc, (a, .dict []) :: st.mu⟩) : TE c st (.Dict [] [] pos) Q X := fun s r => by
 refine wpAny_Dict_empty ?_
 have g := Gr.push s { cls := .type "dict", data := .dict #[] }
 have nm := TE_tuple.not_mem_new r
 have key := r.change (s' := { s with heap := s.heap.push { cls := .type "dict", data := .dict #[] } }) (mu' := (s.heap.objs.size, .dict []) :: st.mu) (fun b o e _ _ _ => g.keep b o e) (fun b o e _ => ⟨o.slots, g.keep b o e⟩) g.alive ⟨rfl, rfl⟩
  (fun a m => by
   rcases List.mem_append.mp (show a ∈ [s.heap.objs.size] ++ madd st.mu from m) with m | m
   ·rw [List.mem_singleton.mp m]; exact ⟨.inr (get_new _), by rw [Heap.get?_push_size _ rfl]; rfl⟩
   ·exact ⟨.inl m, g.alive a (r.apart a m).2.2.2.2⟩)
  (by show (s.heap.objs.size :: madd st.mu).Nodup; exact List.nodup_cons.mpr ⟨nm.2.2.2, r.nodup⟩)
  (fun fzs p hp => by
   rcases List.mem_cons.mp hp with rfl | hp
   ·exact ⟨size_big r, [], 0, Heap.get?_push_size _ rfl, rfl, .nil, by decide⟩
   ·exact (r.muts p hp).lift fzs fun x _ o e => g.keep x o e)
 exact ⟨_, _, h s.heap.objs.size, key.1, key.2, rfl⟩
inductive CPs : List (Option Expr) → List Expr → List (Str × Int) → Prop
 | nil : CPs [] [] []
 | cons {ks vs kvs k i a b p q} : CPs ks vs kvs → CPs (some (.Constant (.str k) a p) :: ks) (.Constant (.int i) b q :: vs) ((k, i) :: kvs)
theorem CPs.len {ks : List (Option Expr)} {vs : List Expr} {kvs : List (Str × Int)} (h : CPs ks vs kvs) : ks.length = kvs.length ∧ vs.length = kvs.length ∧ ks.all (·.isSome) = true := by
 induction h with
 | nil => exact i02 rfl rfl rfl
 | cons _ ih => exact i02 (by simp [ih.1]) (by simp [ih.2.1]) (by simpa using ih.2.2)
theorem CPs.run {w : World} {A : Around} {env : Env} {ks : List (Option Expr)} {vs : List Expr} {kvs : List (Str × Int)} (h : CPs ks vs kvs) : ∀ {s : Shared} {W : List (Value × Value) → Shared → Prop} {E : Value → Shared → Prop},
  (∀ l tk, Carries (PySem.strKind pw w) l (l.zip kvs |>.map fun z => (z.2.1, z.1.2)) → l.length = kvs.length → (∀ G, RDs G (kvs.map fun z => .int z.2) (l.map (·.2))) → W l { s with toks := tk }) → wpAny (model pw w) A (evalPairs (pairTrees ks vs env pos)) W E s := by
 induction h with
 | nil => exact fun {s W E} h => pairTrees_nil_walk (h [] s.toks trivial rfl fun _ => .nil)
 | @cons ks vs kvs k i a b p q _ ih =>
  intro s W E h
  refine pairTrees_cons_walk (Constant_str (wpAny_Constant_int ?_))
  refine ih fun l tk hc hl hr => ?_
  exact h (_ :: l) tk ⟨strKind_is pw w k _, rfl, hc⟩ (by simp [hl]) fun G => .cons .of_int (hr G)
theorem TE_dict {ks : List (Option Expr)} {vs : List Expr} {kvs : List (Str × Int)} {Q : AV → St → Prop} (hc : CPs ks vs kvs) (nd : (kvs.map (·.1)).Nodup) (h0 : kvs ≠ []) (hl : kvs.length ≤ 15) (h : Q (.fd c.w.params (kvs.map fun z => (z.1, .int z.2))) st) : TE c st (.Dict ks vs pos) Q X := fun s r => by
 refine o02 hc.len fun l1 l2 l3 => ?_
 refine wpAny_Dict_walk (knd := PySem.strKind pw c.w) l3 (l1.trans l2.symm) (fun e => h0 (by rw [e] at l1; exact List.length_eq_zero_iff.mp l1.symm)) (by exact fg (.le (.v 1) (.c 15)) [.le (.v 0) (.c 15),.eq (.v 1) (.v 0)] [1,1,1] [] rfl [_,_] [] hl l1) (hc.run fun l tk hcar hlen hrd => ?_)
 have hz : (l.zip kvs |>.map fun z => (z.2.1, z.1.2)).map (·.1) = kvs.map (·.1) := by
  rw [List.map_map]
  show List.map ((fun z => z.1) ∘ fun z : (Value × Value) × (Str × Int) => z.2) (l.zip kvs) = _
  rw [← List.map_map, show List.map (fun z : (Value × Value) × (Str × Int) => z.2) (l.zip kvs) = kvs from List.map_snd_zip (by exact fg (.le (.v 1) (.v 0)) [.qe (.v 0) (.v 1)] [1,1] [] rfl [_,_] [] hlen)]
 have hv : (l.zip kvs |>.map fun z => (z.2.1, z.1.2)).map (·.2) = l.map (·.2) := by
  rw [List.map_map]
  show List.map ((fun z => z.2) ∘ fun z : (Value × Value) × (Str × Int) => z.1) (l.zip kvs) = _
  rw [← List.map_map, show List.map (fun z : (Value × Value) × (Str × Int) => z.1) (l.zip kvs) = l from List.map_fst_zip (by exact fg (.le (.v 0) (.v 1)) [.eq (.v 0) (.v 1)] [1,1] [] rfl [_,_] [] hlen)]
 generalize hkv : (l.zip kvs |>.map fun z => (z.2.1, z.1.2)) = kvv at *
 refine i12 kvv hcar ⟨_, #[], 0, Heap.get?_push_size _ rfl, ⟨rfl, rfl, rfl⟩, rfl, fun e he => by simp at he, .nil, .nil⟩ (fun h' hd hs => ?_)
 rw [merged_nil_of_nodup _ (by rw [hz]; exact nd)] at hd
 refine o10 hd.dictAt fun ep hd => ?_
 have g : Gr s { s with heap := h', toks := tk + l.length } := ⟨fun b o e => (hs.2 b (Nat.ne_of_lt (Heap.lt_size e))).trans (Heap.get?_push_of_some _ e), rfl, rfl⟩
 refine Post.gr r g h ?_
 have hk2 : kvv.map (·.1) = (kvs.map fun z => (z.1, PyData.int z.2)).map (·.1) := by rw [hz]; simp
 refine o12 (Heap.DictAt.ents (w := c.w) (G := fz c st h') hd hk2 (by rw [hv, List.map_map]; exact hrd _)) fun es g1 g2 g3 => ?_
 exact ⟨_, es, ep, rfl, size_big r, fz_iff.mpr ⟨g1, TE_tuple.not_mem_new r⟩, g2, g3, by simp; exact fg (.le (.v 0) (.c 900)) [.le (.v 0) (.c 15)] [1,1] [] rfl [_] [] hl⟩
end
end
section
noncomputable abbrev excMro : List Value := [.type "Exception", .type "BaseException", .type "object"]
structure ClsAt (h : Heap) (mN : Str → Option Value) : Prop where
 hC : h.get? 33 = some (excClassObj "Raised" "Raised" 33 32 [.type "Exception"] excMro true [] [] false none none (some (.ref 15)) none (some (.str "Raised" 189)) (some (.str "Raised" 197)) (some (.bool true)) "Exception.__new__")
 hN : h.Ns 32 mN
noncomputable def rns (P : Params) : Str → Option Value := fun n => nsFind #[en P "__module__" 196 (.str "tclcore.faults" 187), en P "__firstlineno__" 200 (.int 2 199), en P "__init__" 215 (.ref 30), en P "__static_attributes__" 225 (.ref 31), en P "__weakref__" 227 (.ref 34), en P "__doc__" 228 (.none)] n
theorem cls_at {w : World} {h : Heap} (b : BaseOk w h) : ClsAt h (rns w.params) where
 hC := b.K _ _ (show (KF w.params).lookup 33 = some _ from by kernel_rfl!)
 hN := ⟨_, _, 3, b.K _ _ (show (KF w.params).lookup 32 = some (⟨.type "dict", none, .dict #[en w.params "__module__" 196 (.str "tclcore.faults" 187), en w.params "__firstlineno__" 200 (.int 2 199), en w.params "__init__" 215 (.ref 30), en w.params "__static_attributes__" 225 (.ref 31), en w.params "__weakref__" 227 (.ref 34), en w.params "__doc__" 228 (.none)] 3, #[]⟩ : Obj) from by kernel_rfl!), rfl, fun e he => by
  simp only [List.mem_toArray, List.mem_cons, List.not_mem_nil, or_false] at he
  rcases he with rfl | rfl | rfl | rfl | rfl | rfl <;> exact (i20 _ _ rfl), fun n => rfl⟩
theorem ClsAt.keeps {h h' : Heap} {mN : Str → Option Value} (k : h.StaysIn h') (c : ClsAt h mN) : ClsAt h' mN := ⟨k _ _ c.hC, c.hN.keeps k⟩
structure Plain (name : Str) : Prop where
 ns : ∀ P, rns P name = none
 exc : typeLookup (.type "Exception") name = pure none
theorem mro_Exception : mroOf (.type "Exception") = pure excMro := F.store_Exception.mro
theorem lk_exc_ga : typeLookup (.type "Exception") "__getattribute__" = pure (some (.builtin "BaseException.__getattribute__")) := by rw [typeLookup_type, builtinLookup_eq_fast]; kernel_rfl
theorem lk_exc_getattr : typeLookup (.type "Exception") "__getattr__" = pure none := by rw [typeLookup_type, builtinLookup_eq_fast]; kernel_rfl
section
variable {w : World} {A : Around} {E : Value → Shared → Prop} {h : Heap} {g : Array GenState} {d : Drawn} {t : Nat} {os : OsState} {P : Params} {x dx : Addr} {o od : Obj} {es : Array DictEntry} {ep : Nat} {name : Str} {v : Value}
theorem exc_check_ga {M : Model} {nameV : Value} {Q : Unit → Shared → Prop} (C : ClsAt h (rns P)) (hx : h.get? x = some o) (hc : o.cls = .ref 33) (hq : Q () ⟨h, g, d, t, os⟩) : wpAny M A (checkBuiltinCall "BaseException.__getattribute__" ⟨[.ref x, nameV], []⟩) Q E ⟨h, g, d, t, os⟩ := by
 have hk : builtinKind "BaseException.__getattribute__" = some .slot := by decide +kernel
 have hsplit : splitId "BaseException.__getattribute__" = some ("BaseException", "__getattribute__") := by decide +kernel
 have hcB : (Value.ref 33 :: excMro).contains (.type "BaseException") = true := by decide +kernel
 have ha := F.args_bexc_ga (.ref x) nameV
 simp only [checkBuiltinCall, hk, hsplit]
 refine wpAny_bind ?_
 ·unfold isInstance
  repeat (first | (with_reducible refine wpAny_loadPart_at hx ?_; rw [hc]) | (with_reducible refine wpAny_isSubtype_exc C.hC ?_; rw [hcB]) | wp_step)
  exact hq
theorem exc_entry {tk : Tok} {Q : Fin → Shared → Prop} (C : ClsAt h (rns P)) (pn : Plain name) (hx : h.get? x = some o) (hc : o.cls = .ref 33) (hnc : ∀ c, o.data ≠ .cls c) (hd : o.dict = some dx) (hns : h.Ns dx (fun n => nsFind es n)) (hv : nsFind es name = some v) (hq : Q (.done (.ret v)) ⟨h, g, d, t, os⟩) :
  wpAny (model pw w) A (Builtin.«object.__getattribute__» ⟨[.ref x, .str name tk], []⟩) Q E ⟨h, g, d, t, os⟩ := by
 have hna := pn.ns P
 have hC := C.hC
 have hN := C.hN
 have hB := pn.exc
 repeat (first | (with_reducible refine wpAny_loadPart_at hx ?_; rw [hc]) | (with_reducible refine wpAny_typeLookup_exc hC hN mro_Exception hB ?_; rw [hna]) | wp_step)
 split
 ·rename_i c hcd
  exact absurd hcd (hnc c)
 unfold instanceDict
 repeat (first | (with_reducible refine wpAny_loadPart_at hx ?_; rw [hc]) | with_reducible refine wpAny_loadPart_at hC ?_ | wp_step)
 rw [hd]
 repeat (first | (with_reducible refine wpAny_nsGet hns ?_; rw [hv]) | wp_step)
 exact hq
theorem exc_load {expr : Bool} {Q : Value → Shared → Prop} (C : ClsAt h (rns P)) (pn : Plain name) (hx : h.get? x = some o) (hc : o.cls = .ref 33) (hnc : ∀ c, o.data ≠ .cls c) (hd : o.dict = some dx) (hns : h.Ns dx (fun n => nsFind es n)) (hv : nsFind es name = some v) (hh : handedOut v = pure v)
  (hq : Q v ⟨h, g, d, t + 1, os⟩) : wpAny (model pw w) A (getAttr (.ref x) name expr) Q E ⟨h, g, d, t, os⟩ := by
 have f3 := F.attr_Exception.ga.bind (.ref x)
 have hC := C.hC
 have hN := C.hN
 have h1 : rns P "__getattribute__" = none := by rfl
 have h2 : rns P "__getattr__" = none := by rfl
 have hx0 : (expr && onTheHeap (Value.builtin "BaseException.__getattribute__")) = false := by cases expr <;> rfl
 have hx2 : (Value.builtin "BaseException.__getattribute__" == Value.builtin "object.__getattribute__") = false := by decide +kernel
 have hx1 : (onTheHeap (Value.ref 33) && Value.builtin "BaseException.__getattribute__" == Value.builtin "object.__getattribute__") = false := by rw [hx2]; rfl
 unfold getAttr getAttrBy
 repeat (any_goals (first | assumption | (with_reducible refine wpAny_loadPart_at hx ?_; rw [hc]) | (with_reducible refine wpAny_typeLookup_exc hC hN mro_Exception lk_exc_ga ?_; rw [h1]) | (with_reducible refine wpAny_typeLookup_exc hC hN mro_Exception lk_exc_getattr ?_; rw [h2]) | wp_step))
 refine codeAny_call_builtin F.attr_Exception.ga.plain F.entry_bexc_ga (exc_check_ga C hx hc (exc_entry C pn hx hc hnc hd hns hv ?_))
 show wpAny _ _ (handedOut v) _ _ _
 rw [hh]
 exact wpAny_pure hq
theorem first_entry {tk : Tok} {Q : Fin → Shared → Prop} (C : ClsAt h (rns P)) (pn : Plain name) (hx : h.get? x = some o) (hc : o.cls = .ref 33) (hnc : ∀ c, o.data ≠ .cls c) (hdn : o.dict = none)
  (hq : ∀ h' tk', h'.get? x = some { cls := o.cls, dict := some h.objs.size, data := o.data, slots := o.slots } → h'.Ns1 h.objs.size (fun y => if y = name then some v else none) →
   (∀ b ob, b ≠ x → h.get? b = some ob → h'.get? b = some ob) → Q (.done (.ret .none)) ⟨h', g, d, tk', os⟩) : wpAny (model pw w) A (Builtin.«object.__setattr__» ⟨[.ref x, .str name tk, v], []⟩) Q E ⟨h, g, d, t, os⟩ := by
 have SF := F.store_Exception
 have hC := C.hC
 have hn := C.hN
 have hna := pn.ns P
 have hB := pn.exc
 have hpass := SF.passes (.ref x)
 unfold Builtin.«object.__setattr__»
 repeat (first | rw [refuse_eq] | (rw [refuseLoop_ref, hpass]) | (with_reducible refine wpAny_loadPart_at hx ?_; rw [hc]) | with_reducible refine wpAny_mroOf_exc hC ?_ | (with_reducible refine wpAny_typeLookup_exc hC hn SF.mro hB ?_; rw [hna]) | wp_step)
 rw [hdn, if_neg (by simp [typeHasDict])]
 split
 ·rename_i hcd
  cases hcd
 split
 ·rename_i c hcd
  exact absurd hcd (hnc c)
 ·have hx₁ : (h.push { cls := .type "dict", data := .dict #[] }).get? x = some o := Heap.get?_push_of_some _ hx
  have hxs : x ≠ h.objs.size := Nat.ne_of_lt (Heap.lt_size hx)
  refine wpAny_bind (wpAny_alloc' ?_)
  refine wpAny_bind (wpAny_update' hx₁ ?_)
  refine wpAny_pure ?_
  have hgd : ((h.push { cls := .type "dict", data := .dict #[] }).update x fun o => { cls := o.cls, dict := some h.objs.size, data := o.data, slots := o.slots }).get? h.objs.size
    = some { cls := .type "dict", data := .dict #[] } :=
   (Heap.get?_update_ne _ _ _ _ hxs.symm).trans (Heap.get?_push_at rfl rfl)
  have hnd : ((h.push { cls := .type "dict", data := .dict #[] }).update x fun o => { cls := o.cls, dict := some h.objs.size, data := o.data, slots := o.slots }).Ns h.objs.size (fun _ => none) :=
   ⟨_, #[], _, hgd, rfl, fun e he => absurd he (by simp), fun _ => rfl⟩
  show wpAny _ _ (Builtin.ObjectAttr.storeInDict h.objs.size (.str name tk) name v) _ _ _
  unfold Builtin.ObjectAttr.storeInDict Builtin.ObjectAttr.newKeyGuard
  refine wpAny_bind (wpAny_pure (wpAny_bind (wpAny_nsSet1 (Heap.Ns1.of_empty hnd) fun h' hn' hs => ?_)))
  refine o32 (hn'.count (Within.cons name v Within.nil)) fun oD esD epD hoD hdD hcD => ?_
  refine wpAny_bind (wpAny_lookBehind hoD (by rw [hdD]; exact pastItsLine_dict (Nat.le_trans hcD (by rw [List.length_cons, List.length_nil, sizeLine_eq]; exact fg (.le (.a (.c 0) (.c 1)) (.a (.c 16777216) (.c 1))) [] [1] [] rfl [] []))) ?_)
  wp_walk
  refine hq h' _ ?_ hn' (fun b ob hbx hb => ?_)
  ·refine (hs.2 x hxs).trans (Heap.get?_update_self _ hx₁ ?_)
   have hfr := (Heap.get?_some_iff.mp hx).2
   obtain ⟨oc, od, odt, osl⟩ := o
   cases odt <;> first | rfl | exact hfr
  ·exact (hs.2 b (Nat.ne_of_lt (Heap.lt_size hb))).trans ((Heap.get?_update_ne _ _ _ _ hbx).trans (Heap.get?_push_of_some _ hb))
theorem exc_store_first' {sa owner : String} {Q : Unit → Shared → Prop} (SF : StoreFacts "Exception" excMro sa owner) (C : ClsAt h (rns P)) (pn : Plain name) (hx : h.get? x = some o) (hc : o.cls = .ref 33) (hnc : ∀ c, o.data ≠ .cls c) (hdn : o.dict = none)
  (hq : ∀ h' tk', h'.get? x = some { cls := o.cls, dict := some h.objs.size, data := o.data, slots := o.slots } → h'.Ns1 h.objs.size (fun y => if y = name then some v else none) →
   (∀ b ob, b ≠ x → h.get? b = some ob → h'.get? b = some ob) → Q () ⟨h', g, d, tk', os⟩) : wpAny (model pw w) A (setAttr (.ref x) name v) Q E ⟨h, g, d, t, os⟩ := by
 have hC := C.hC
 have hn := C.hN
 have hnsa : rns P "__setattr__" = none := by rfl
 have f3 := SF.slot.bind (.ref x)
 unfold setAttr callSpecial? specialOf
 repeat (any_goals (first | assumption | (with_reducible refine wpAny_loadPart_at hx ?_; rw [hc]) | (with_reducible refine wpAny_typeLookup_exc hC hn SF.mro SF.slot.lookup ?_; rw [hnsa]) | wp_step))
 refine codeAny_call_builtin SF.slot.plain SF.entry (wpAny_check_sa SF hC hx hc (first_entry C pn hx hc hnc hdn fun h' tk' a b c => ?_))
 repeat (any_goals (first | assumption | wp_step))
 exact hq h' tk' a b c
end
end
section
noncomputable abbrev Around.un (A : Around) (rest : List Value) : Around := A.under (Code.builtin "type.__call__" ⟨.ref 33 :: rest, []⟩)
theorem un_facts (A : Around) (r : List Value) : (Around.un A r).handled = A.handled ∧ (Around.un A r).frames = A.frames ∧ (Around.un A r).depth = A.depth + 1 ∧ (Around.un A r).units = A.units + 1 := by
 have hw : (Code.builtin "type.__call__" ⟨.ref 33 :: r, []⟩).weight = 1 := by kernel_rfl
 have hu : (Code.builtin "type.__call__" ⟨.ref 33 :: r, []⟩).cUnits = 1 := by kernel_rfl
 have he : (Code.builtin "type.__call__" ⟨.ref 33 :: r, []⟩).envs = [] := by kernel_rfl
 unfold Around.un Around.under
 rw [hw, hu, he]
 exact i03 rfl rfl rfl rfl
noncomputable abbrev excT (rest : List Value) : Obj := { cls := .type "tuple", data := .seq rest.toArray }
noncomputable abbrev excO (T : Addr) : Obj := { cls := .ref 33, data := .fields #[.ref T, .none, .none, .none, .bool false, .none] }
section
variable {w : World} {A : Around} {E : Value → Shared → Prop} {h : Heap} {g : Array GenState} {d : Drawn} {t : Nat} {os : OsState} {P : Params}
theorem type_call_init {oi : Obj} {rest : List Value} {Q : PySem.Fin → Shared → Prop} (C : ClsAt h (rns P)) (hi : h.get? 30 = some oi) (hic : oi.cls = .type "function") (hrest : rest.length ≤ sizeLine)
  (hcall : wpAny (model pw w) A (call (.ref 30) (.ref (h.objs.size + 1) :: rest)) (fun r s2 => r = .none ∧ Q (.done (.ret (.ref (h.objs.size + 1)))) s2) E ⟨(h.push (excT rest)).push (excO h.objs.size), g, d, t, os⟩) :
  wpAny (model pw w) A (Builtin.«type.__call__» ⟨.ref 33 :: rest, []⟩) Q E ⟨h, g, d, t, os⟩ := by
 have F := F.excBase_Exception
 have hC := C.hC
 have hn := C.hN
 repeat (first | with_reducible refine wpAny_loadPart_at hC ?_ | with_reducible refine wpAny_madeBy_exc hC ?_ | wp_step)
 refine codeAny_call_builtin_code (Code.quiet_builtin _ F.quiet) (wpAny_check_new_sub F hC ?_)
 refine codeAny_exc_new_sub F hC ?_ hrest
 show wpAny _ _ _ _ _ _
 have hC₁ := Heap.get?_push_of_some (excO h.objs.size) (Heap.get?_push_of_some (excT rest) hC)
 have hn₁ : ((h.push (excT rest)).push (excO h.objs.size)).Ns 32 (rns P) :=
  let ⟨o, es, ep, e, r⟩ := hn; ⟨o, es, ep, Heap.get?_push_of_some _ (Heap.get?_push_of_some _ e), r⟩
 have hget : ((h.push (excT rest)).push (excO h.objs.size)).get? (h.objs.size + 1) = some (excO h.objs.size) := by heap_get
 have hcC : (Value.ref 33 :: excMro).contains (.ref 33) = true := by simp
 have hi₁ := Heap.get?_push_of_some (excO h.objs.size) (Heap.get?_push_of_some (excT rest) hi)
 unfold isInstance
 repeat (first | with_reducible refine wpAny_loadPart_at hget ?_ | (with_reducible refine wpAny_isSubtype_exc hC₁ ?_; rw [hcC]) | wp_step)
 show wpAny _ _ (typeLookup (.ref 33) _) _ _ _
 refine wpAny_typeLookup_exc hC₁ hn₁ F.mroIs F.init.lookup ?_
 rw [show rns P "__init__" = some (.ref 30) from by rfl]
 refine wpAny_holding (wpAny_bind (wpAny_bindSpecial_def hi₁ hic ?_))
 refine wpAny_bind (wpAny_mono hcall (fun r s2 hr => ?_) fun _ _ x => x)
 refine o01 hr fun zz1 hq => ?_
 try clear hr
 subst zz1
 refine wpAny_pure ?_
 show wpAny _ _ (ret _) _ _ _
 exact wpAny_pure hq
theorem call_raised {oi : Obj} {rest : List Value} {Q : Value → Shared → Prop} (C : ClsAt h (rns P)) (hi : h.get? 30 = some oi) (hic : oi.cls = .type "function") (hrest : rest.length ≤ sizeLine)
  (hcall : wpAny (model pw w) (Around.un A rest) (call (.ref 30) (.ref (h.objs.size + 1) :: rest)) (fun r s2 => r = .none ∧ Q (.ref (h.objs.size + 1)) s2) E ⟨(h.push (excT rest)).push (excO h.objs.size), g, d, t, os⟩) :
  wpAny (model pw w) A (call (.ref 33) rest) Q E ⟨h, g, d, t, os⟩ := by
 have f1 := tc_lookup
 have f2 := tc_bind (.ref 33)
 have hC := C.hC
 have hT : (⟨h, g, d, t, os⟩ : Shared).TypeIs (.ref 33) "type" := ⟨_, hC, rfl⟩
 refine wpAny_call (codeAny_of_tree ?_)
 show wpAny _ _ (callAny (.ref 33) _) _ _ _
 repeat (any_goals (first | with_reducible assumption | with_reducible refine wpAny_loadPart_at hC ?_ | wp_step))
 refine ⟨rfl, ?_⟩
 refine codeAny_call_builtin_at (Code.quiet_builtin _ (by decide +kernel)) entry_typeCall (wpAny_check_type_call_sub hC ?_)
 exact type_call_init C hi hic hrest hcall
end
section
variable {c : Cx} {st : St} {X : Flds → List (Option AV) → Prop} {pos pos' : Pos} {k : Nat} {Q : AV → St → Prop}
theorem excInit_cls : findCls [] (.type "Exception") (.type "type") "__init__" = some (.val (.builtin "Exception.__init__")) := by kernel_rfl
theorem getm_excInit {s : Shared} (r : Rel c st s) {pl : Sem Bool} {W : Value × List Value → Shared → Prop} {E : Value → Shared → Prop} (h : W (.builtin "Exception.__init__", []) { s with toks := s.toks + 1 }) : wpAny c.M c.A (getMethod (.type "Exception") "__init__" pl) W E s := by
 obtain ⟨m, hm⟩ := r.ns
 have hn : ∀ b o, (⟨#[], {}⟩ : Heap).get? b ≠ some o := fun b o e => by simp [Heap.get?] at e
 exact method_type (K := []) (h₀ := ⟨#[], {}⟩) (L := c.env.locals) ⟨hm, fun b o e => (hn b o e).elim, Nat.zero_le _⟩ (fun b o e => by cases e) (by kernel_rfl) (by decide +kernel) excInit_cls (by decide +kernel) h
end
end
section
theorem nsFind_list (es : Array DictEntry) (n : Str) : nsFind es n = nsFind es n := rfl
theorem handed_data {G : Heap} {p : PyData} {v : Value} (h : RD G p v) : handedOut v = pure v := by
 refine o10 h fun as _ => ?_
 clear h
 rename_i h
 cases h <;> rfl
theorem look_mem {fs : List (Str × PyData)} {k : Str} {p : PyData} (h : look fs k = some p) : k ∈ fs.map (·.1) := by
 unfold look at h
 cases q : fs.find? (fun p => p.1 = k) with
 | none => rw [q] at h; cases h
 | some e =>
  have h1 := List.find?_some q
  have h2 := List.mem_of_find?_eq_some q
  exact List.mem_map.mpr (i11 e h2 (by simpa using h1))
theorem putS_mem {fs : List (Str × PyData)} {k y : Str} {p : PyData} (h : y = k ∨ y ∈ fs.map (·.1)) : y ∈ (putS fs k p).map (·.1) := by
 unfold putS
 split
 ·rename_i ha
  have e : (fs.map fun kv => if kv.1 = k then (kv.1, p) else kv).map (·.1) = fs.map (·.1) := by
   rw [List.map_map]
   refine List.map_congr_left fun x _ => ?_
   show (if x.1 = k then (x.1, p) else x).1 = x.1
   split <;> rfl
  rw [e]
  rcases h with rfl | h
  ·refine o11 (List.any_eq_true.mp ha) fun x hx hk => ?_
   exact List.mem_map.mpr (i11 x hx (by simpa using hk))
  ·exact h
 ·rw [List.map_append]
  rcases h with rfl | h
  ·exact List.mem_append_right _ (by simp)
  ·exact List.mem_append_left _ h
theorem look_putS {fs : List (Str × PyData)} {k y : Str} {p : PyData} : look (putS fs k p) y = if y = k then some p else look fs y := by
 have key : ∀ l : List (Str × PyData), (l.map fun kv => if kv.1 = k then (kv.1, p) else kv).find? (fun q => q.1 = y) = (l.find? fun q => q.1 = y).map fun kv => if kv.1 = k then (kv.1, p) else kv := fun l => by
  induction l with
  | nil => rfl
  | cons x l ih =>
   rw [List.map_cons, List.find?_cons, List.find?_cons]
   have : (if x.1 = k then (x.1, p) else x).1 = x.1 := by split <;> rfl
   rw [this]
   by_cases hx : x.1 = y
   ·simp [hx]
   ·simp only [hx, decide_false]; exact ih
 unfold putS look
 split
 ·rename_i ha
  rw [key]
  by_cases hy : y = k
  ·subst hy
   rw [if_pos rfl]
   refine o11 (List.any_eq_true.mp ha) fun x hx hk => ?_
   cases q : fs.find? (fun z => z.1 = y) with
   | none => exact absurd (List.find?_eq_none.mp q x hx) (by simpa using hk)
   | some z =>
    have hz := List.find?_some q
    simp only [decide_eq_true_eq] at hz
    simp [hz]
  ·rw [if_neg hy]
   cases q : fs.find? (fun z => z.1 = y) with
   | none => rfl
   | some z =>
    have hz := List.find?_some q
    simp only [decide_eq_true_eq] at hz
    simp only [Option.map_some]
    rw [if_neg (by rw [hz]; exact hy)]
 ·rename_i ha
  rw [List.find?_append]
  by_cases hy : y = k
  ·subst hy
   rw [if_pos rfl]
   have : fs.find? (fun z => z.1 = y) = none := by
    rw [List.find?_eq_none]
    intro x hx hk
    exact ha (List.any_eq_true.mpr (i11 x hx hk))
   rw [this]; simp
  ·rw [if_neg hy]
   cases q : fs.find? (fun z => z.1 = y) with
   | none =>
    have : ¬ k = y := fun e => hy e.symm
    simp [this]
   | some z => rfl
section
variable {c : Cx} {st : St} {X : Flds → List (Option AV) → Prop} {pos pos' : Pos} {k : Nat} {Q : AV → St → Prop}
theorem Rel.cls {s : Shared} (r : Rel c st s) : ClsAt s.heap (rns c.w.params) := (cls_at r.ok.base).keeps r.stay
theorem base_fz {s : Shared} (r : Rel c st s) {a : Addr} {o : Obj} (h : c.base.get? a = some o) : (fz c st s.heap).get? a = some o := by
 have ne : ∀ P : Prop, (P → c.base.get? a = none) → ¬ P := fun P k p => by rw [k p] at h; cases h
 exact fz_iff.mpr (i04 (r.stay a o h) (ne _ (r.ok.ownBase a)) (ne _ (r.ok.ctlBase a)) (ne _ (r.ok.privBase a)) (ne _ fun m => (r.apart a m).2.2.2.1))
theorem getattr_inst {s : Shared} {e dx : Addr} {fs : Flds} {tb : Option (Addr × Value)} {name : Str} {p : PyData} {expr : Bool} (r : Rel c st s) (hm : MuAt st.mu e (.inst dx fs tb)) (pn : Plain name) (hl : look fs name = some p) : GOp c st s (getAttr (.ref e) name expr) (fun z => z = .d p) := by
 refine o03 (r.muts _ hm.mem) fun ne zz1 zz2 _ => ?_
 refine o12 zz1 fun vs he hsz h1 => ?_
 clear zz1
 refine o11 zz2 fun od hdx zz3 => ?_
 clear zz2
 refine o36 zz3 fun es ep m d1 d2 d3 d4 d5 d6 d7 => ?_
 clear zz3
 refine o11 (d6 name p hl) fun v hv hr => ?_
 refine .of_gr fun W E k => ?_
 have hn : s.heap.Ns dx (fun n => nsFind es n) := ⟨od, es, ep, hdx, d1, d2, fun _ => rfl⟩
 obtain ⟨hp, g, d, tk, os⟩ := s
 exact exc_load (r.cls) pn he rfl (fun c q => nomatch q) rfl hn ((d4 name).trans hv) (handed_data hr) (k _ _ _ rfl (.toks _ _) hr)
theorem TE_attr {o : Expr} {name : Str} (h : TE c st o (fun x st1 => ∃ e dx fs tb p, x = .v (.ref e) ∧ MuAt st1.mu e (.inst dx fs tb) ∧ Plain name ∧ look fs name = some p ∧ Q (.d p) st1) X)
  (he : eval (.Attribute o name pos) c.env = (do
   let ov ← eval o c.env
   standAt pos.atName
   let r ← holding [ov] (getAttr ov name true)
   letTemporaryGo o ov r
   pure r)) : TE c st (.Attribute o name pos) Q X := fun s r =>
 Attribute_any_ (h.then r (.refl ..) fun v x st1 s1 zm3 r1 v1 t1 => o54 zm3 fun e dx fs tb p e1 e2 e3 e4 e5 => by
  subst e1
  obtain rfl : v = .ref e := v1
  exact (getattr_inst r1 e2 e3 e4).post r1 t1 fun z q => q ▸ e5) he
theorem setattr_first {s : Shared} {e : Addr} {name : Str} {p : PyData} {v : Value} {K : St → Prop} {E : Value → Shared → Prop} {l : List (Addr × AO)} {loc : List (Option AV)} (r : Rel c ⟨loc, (e, .raw) :: l⟩ s) (pn : Plain name) (hv : RD (fz c ⟨loc, (e, .raw) :: l⟩ s.heap) p v)
  (h : ∀ dx, K ⟨loc, (e, .inst dx [(name, p)] none) :: l⟩) : wpAny c.M c.A (setAttr (.ref e) name v) (fun _ s' => ∃ st', K st' ∧ Rel c st' s' ∧ Tr c ⟨loc, (e, .raw) :: l⟩ s st' s') E s := by
 refine o12 (r.muts _ (.head _)) fun vs he hsz h1 => ?_
 dsimp only at he h1
 have em : e ∈ madd ((e, AO.raw) :: l) := by simp [madd, AO.addrs]
 have ae := r.apart e em
 have new := get_new s.heap
 have hnm := TE_tuple.not_mem_new r
 obtain ⟨hp, g, d, tk, os⟩ := s
 dsimp only at *
 refine exc_store_first' F.store_Exception r.cls pn he rfl (fun c q => nomatch q) rfl fun h' tk' hx hn hk => ?_
 generalize hdx : hp.objs.size = dx at *
 have hne : e ≠ dx := fun q => by rw [q] at he; rw [new] at he; cases he
 refine o34 hn fun od es ep n1 n2 n3 n4 n5 => ?_
 try clear hn
 have alive : ∀ a, (hp.get? a).isSome = true → (h'.get? a).isSome = true := fun a ha => by
  by_cases q : a = e
  ·rw [q, hx]; rfl
  ·refine o10 (Option.isSome_iff_exists.mp ha) fun o ho => ?_
   rw [hk a o q ho]; rfl
 have key := r.change (s' := ⟨h', g, d, tk', os⟩) (mu' := (e, .inst dx [(name, p)] none) :: l)
  (fun b o hb _ _ q3 => hk b o (fun q => q3 (q ▸ em)) hb) (fun b o hb q => ⟨o.slots, hk b o (fun z => q.elim (fun m => ae.1 (z ▸ m)) fun m => ae.2.1 (z ▸ m)) hb⟩) alive ⟨rfl, rfl⟩
  (fun a ha => by
   simp only [madd, AO.addrs, List.flatMap_cons, List.mem_append, List.mem_cons, List.not_mem_nil, or_false] at ha
   rcases ha with (rfl | rfl) | ha
   ·exact ⟨.inl em, by rw [hx]; rfl⟩
   ·exact ⟨.inr new, by show (h'.get? a).isSome = true; rw [n1]; rfl⟩
   ·have hal : a ∈ madd ((e, AO.raw) :: l) := by simp only [madd, AO.addrs, List.flatMap_cons, List.mem_append]; exact .inr ha
    exact ⟨.inl hal, alive a (r.apart a hal).2.2.2.2⟩)
  (by
   have nd := r.nodup
   simp only [madd, AO.addrs, List.flatMap_cons, List.cons_append, List.nil_append, List.nodup_cons, List.mem_cons, not_or] at nd ⊢
   refine i02 ⟨hne, nd.1⟩ (fun m => hnm.2.2.2 ?_) nd.2
   simp only [madd, AO.addrs, List.flatMap_cons, List.mem_append]
   exact .inr m)
  (fun fzs q hq => by
   rcases List.mem_cons.mp hq with rfl | hq
   ·refine ⟨hne, (i12 vs hx hsz h1), (i11 od n1 ⟨es, ep, _, n2, n3, n4, n5, fun y hy => ?_, fun k' p' hk' => ?_, by simp⟩), trivial⟩
    ·by_cases q : y = name
     ·simp [q]
     ·simp [q] at hy
    ·have := look_mem hk'
     simp only [List.map_cons, List.map_nil, List.mem_singleton] at this
     subst this
     simp only [look, List.find?_cons, decide_true, Option.map_some, Option.some.injEq] at hk'
     subst hk'
     exact i11 v (by simp) (RD.keeps fzs hv)
   ·refine (r.muts q (.tail _ hq)).lift fzs fun x hx' o ho => hk x o (fun z => ?_) ho
    have nd := r.nodup
    simp only [madd, AO.addrs, List.flatMap_cons, List.cons_append, List.nil_append, List.nodup_cons] at nd
    exact nd.1 (z ▸ List.mem_flatMap.mpr (i11 q hq hx')))
 exact i12 _ (h dx) key.1 key.2
theorem Rel.set2 {s : Shared} {h' : Heap} {tk : Nat} {a d : Addr} {o o' : AO} {mu' : List (Addr × AO)} (r : Rel c st s) (hm : MuSet st.mu a o o' mu') (ha : o'.addrs a = o.addrs a) (hd : d ∈ o.addrs a) (hs : ∀ b ob, b ≠ d → s.heap.get? b = some ob → h'.get? b = some ob) (hl : (h'.get? d).isSome = true)
  (ho : (fz c st s.heap).StaysIn (fz c ⟨st.loc, mu'⟩ h') → MutRel c.w.params (fz c ⟨st.loc, mu'⟩ h') h' a o') : Rel c ⟨st.loc, mu'⟩ { s with heap := h', toks := tk } ∧ Tr c st s ⟨st.loc, mu'⟩ { s with heap := h', toks := tk } := by
 refine o21 hm.split fun l1 l2 e1 e2 => ?_
 have hmm : madd mu' = madd st.mu := by rw [e1, e2]; simp [madd, ha]
 have hdm : d ∈ madd st.mu := List.mem_flatMap.mpr (i11 (a, o) hm.mem hd)
 have ad := r.apart d hdm
 have alive : ∀ x, (s.heap.get? x).isSome = true → (h'.get? x).isSome = true := fun x h => by
  by_cases q : x = d
  ·rw [q]; exact hl
  ·refine o10 (Option.isSome_iff_exists.mp h) fun ob hob => ?_
   rw [hs x ob q hob]; rfl
 refine r.change (s' := { s with heap := h', toks := tk }) (fun b ob e _ _ q => hs b ob (fun z => q (z ▸ hdm)) e) (fun b ob e q => ⟨ob.slots, hs b ob (fun z => q.elim (fun m => ad.1 (z ▸ m)) fun m => ad.2.1 (z ▸ m)) e⟩) alive ⟨rfl, rfl⟩
  (fun x m => ⟨.inl (hmm ▸ m), alive x (r.apart x (hmm ▸ m)).2.2.2.2⟩) (hmm ▸ r.nodup) fun fzs p hp => ?_
 have nd := r.nodup
 rw [e1] at nd
 simp only [madd, List.flatMap_append, List.flatMap_cons] at nd
 refine o02 (List.nodup_append.mp nd) fun _ nd2 nd3 => ?_
 refine o02 (List.nodup_append.mp nd2) fun _ _ nd4 => ?_
 rw [e2] at hp
 have old : ∀ q, q ∈ l1 ∨ q ∈ l2 → MutRel c.w.params (fz c ⟨st.loc, mu'⟩ h') h' q.1 q.2 := fun q hq => by
  have hqm : q ∈ st.mu := by rw [e1]; rcases hq with h | h <;> simp [h]
  refine (r.muts q hqm).lift fzs fun x hx ob e => hs x ob (fun z => ?_) e
  subst z
  rcases hq with h | h
  ·exact nd3 x (List.mem_flatMap.mpr (i11 q h hx)) x (List.mem_append_left _ hd) rfl
  ·exact nd4 x hd x (List.mem_flatMap.mpr (i11 q h hx)) rfl
 rcases List.mem_append.mp hp with h | h
 ·exact old p (.inl h)
 ·rcases List.mem_cons.mp h with rfl | h
  ·exact ho fzs
  ·exact old p (.inr h)
theorem setattr_next {s : Shared} {e dx : Addr} {fs : Flds} {name : Str} {p : PyData} {v : Value} {K : St → Prop} {E : Value → Shared → Prop} {mu' : List (Addr × AO)} (r : Rel c st s) (hm : MuSet st.mu e (.inst dx fs none) (.inst dx (putS fs name p) none) mu') (hlen : fs.length < 900) (pn : Plain name)
  (hv : RD (fz c st s.heap) p v) (h : K ⟨st.loc, mu'⟩) : wpAny c.M c.A (setAttr (.ref e) name v) (fun _ s' => ∃ st', K st' ∧ Rel c st' s' ∧ Tr c st s st' s') E s := by
 refine o03 (r.muts _ hm.mem) fun ne zz1 zz2 _ => ?_
 refine o12 zz1 fun vs he hsz h1 => ?_
 clear zz1
 refine o11 zz2 fun od hdx zz3 => ?_
 clear zz2
 refine o36 zz3 fun es ep m d1 d2 d3 d4 d5 d6 d7 => ?_
 clear zz3
 dsimp only at ne he hsz h1 hdx
 have ne33 : e ≠ 33 := fun q => by rw [q] at he; rw [r.cls.hC] at he; cases he
 have I : s.heap.Inst e 33 m := ⟨_, he, rfl, (fun c q => nomatch q), .inr (i12 dx rfl ne.symm ⟨od, es, ep, hdx, d1, d2, d3, d4⟩)⟩
 have C := r.cls
 obtain ⟨hp, g, d, tk, os⟩ := s
 dsimp only at *
 have hw : PySem.Within m (fs.map (·.1)) := d5
 refine store_attr (ns := fs.map (·.1)) F.store_Exception C.hC C.hN (by rfl) (pn.ns _) pn.exc ne33 I (fun h' tk' I' hk hsame => ?_) hw (by rw [List.length_map, sizeLine_eq]; exact fg (.le (.v 0) (.c 16777216)) [.le (.v 0) (.c 900)] [1,1] [] rfl [_] [] d7)
 refine o14 (hsame _ he) fun o1 g1 g2 g3 g4 g5 => ?_
 have g6 := g5 dx rfl
 obtain ⟨o1c, o1d, o1dat, o1s⟩ := o1
 dsimp only at g2 g3 g4 g6
 subst g2 g3 g4 g6
 refine o13 I' fun o2 i1 i2 i3 i4 => ?_
 try clear I'
 rw [g1] at i1
 cases i1
 rcases i4 with ⟨i5, _⟩ | ⟨d', i5, i6, od', es', ep', k1, k2, k3, k4, k5⟩
 ·cases i5
 obtain rfl : dx = d' := by simpa using i5
 have key := r.set2 (tk := tk') (h' := h') (d := dx) hm rfl (by simp [AO.addrs]) (fun b ob hb e2 => by
   by_cases q : b = e
   ·subst q; rw [he] at e2; cases e2; exact g1
   ·refine hk b ob q (fun o₀ dx' w1 w2 => ?_) e2
    rw [he] at w1; cases w1
    cases w2
    exact hb) (by rw [k1]; rfl) fun fzs => by
  refine ⟨ne, (i12 vs g1 hsz h1), (i11 od' k1 ⟨es', ep', _, k2, k3, k4, k5, fun y hy => ?_, fun k' p' hk' => ?_, by have := @putS_len fs name p; exact fg (.le (.v 1) (.c 900)) [.lt (.v 0) (.c 900),.le (.v 1) (.a (.v 0) (.c 1))] [1,1,1] [] rfl [_,_] [] hlen this⟩), trivial⟩
  ·by_cases q : y = name
   ·exact putS_mem (.inl q)
   ·exact putS_mem (.inr (d5 y (by simpa [q] using hy)))
  ·rw [look_putS] at hk'
   by_cases q : k' = name
   ·rw [if_pos q] at hk'; cases hk'
    exact i11 v (by simp [q]) (RD.keeps fzs hv)
   ·rw [if_neg q] at hk'
    refine o11 (d6 k' p' hk') fun v' q1 q2 => ?_
    exact i11 v' (by simp [q, q1]) (RD.keeps fzs q2)
 exact i12 _ h key.1 key.2
theorem TT_attr {o : Expr} {name : Str} {a : AV} {K : St → Prop} (h : TE c st o (fun x st1 => ∀ s v w, Rel c st1 s → RV (fz c st1 s.heap) x v → RV (fz c st1 s.heap) a w → wpAny c.M c.A (setAttr v name w) (fun _ s' => ∃ st', K st' ∧ Rel c st' s' ∧ Tr c st1 s st' s') (EPost X c st1 s) s) X) : TT c st (.Attribute o name pos) a K X := fun s w r hw => by
 rw [arm_assign_Attribute]
 refine wpAny_bind (wpAny_holding (h.then r (.refl ..) fun v x st1 s1 h1 r1 v1 t1 => ?_))
 refine wpAny_bind (wpAny_standAt (wpAny_bind (wpAny_holding (wpAny_mono (h1 s1 v w r1 v1 (hw.keeps t1.fz)) (fun _ s2 zm2 => o12 zm2 fun st2 k2 r2 t2 => ?_) fun _ _ x => x.lift t1))))
 exact wpAny_release (i12 st2 k2 r2 (t1.trans t2))
theorem TS_setattr {o e : Expr} {name : Str} {Q : AF → St → Prop} (h : TE c st e (fun a st1 => TT c st1 (.Attribute o name pos') a (Q .next) X) X)
  (hs : swapsWith e (some (.Attribute o name pos')) pos.line c.env = pure false) : TS c st (.Assign [.Attribute o name pos'] e pos) Q X := fun s r => by
 rw [plainObj_exec_Assign_Attribute o name pos' e pos hs]
 exact wpAny_bind (wpAny_standAt (wpAny_bind (h.then r (.refl ..) fun v a st1 s1 h1 r1 v1 t1 => wpAny_bind (wpAny_mono (h1 s1 v r1 v1) (fun _ s2 zm1 => o12 zm1 fun st2 k2 r2 t2 => wpAny_pure ((Post.here (R := RF) r2 k2 rfl).lift (t1.trans t2))) fun _ _ x => x.lift t1))))
theorem TS_raise {e : Expr} {Q : AF → St → Prop} (h : TE c st e (fun x st1 => ∃ a dx fs, x = .v (.ref a) ∧ MuAt st1.mu a (.inst dx fs none) ∧ X fs st1.loc) X) (hhd : c.hd = false) : TS c st (.Raise (some e) none pos) Q X := fun s r => by
 show wpAny c.M c.A (do standAt pos; raiseStmt c.env (some (do let v ← eval e c.env; standAt pos; pure v)) none) _ _ s
 refine wpAny_bind (wpAny_standAt ?_)
 unfold raiseStmt
 dsimp only
 refine wpAny_bind (wpAny_bind (h.then r (.refl ..) fun v x st1 s1 zm0 r1 v1 t1 => o32 zm0 fun a dx fs e1 e2 e3 => wpAny_bind (wpAny_standAt (wpAny_pure ?_))))
 subst e1
 obtain rfl : v = .ref a := v1
 have hm := e2.mem
 refine o02 (r1.muts _ hm) fun ne zz1 _ => ?_
 refine o12 zz1 fun vs he hsz h1 => ?_
 clear zz1
 dsimp only at he h1
 have C := r1.cls
 have hE : EPost X c st s (.ref a) s1 := by
  have hsub : (madd [(a, AO.inst dx fs none)]).Nodup := by simp [madd, AO.addrs, ne]
  refine o01 (r1.sub (mu' := [(a, .inst dx fs none)]) (fun p hp => by rw [List.mem_singleton.mp hp]; exact hm) hsub) fun r2 t2 => ?_
  exact ⟨a, dx, fs, none, _, rfl, e3, trivial, r2, t1.trans t2⟩
 have hnt : ∀ {Q' : Bool → Shared → Prop}, Q' false s1 → wpAny c.M c.A (isType (.ref a)) Q' (EPost X c st s) s1 := by
  intro Q' hq
  simp only [isType, loadHead]
  exact wpAny_bind (wpAny_loadPart he (wpAny_pure hq))
 have hty : ∀ {Q' : Value → Shared → Prop}, Q' (.ref 33) s1 → wpAny c.M c.A (typeOf (.ref a)) Q' (EPost X c st s) s1 := fun hq => wpAny_typeOf_ref he hq
 have hty2 : ∀ {Q' : Value → Shared → Prop}, Q' (.type "type") s1 → wpAny c.M c.A (typeOf (.ref 33)) Q' (EPost X c st s) s1 := fun hq => wpAny_typeOf_ref C.hC hq
 have hin : ∀ {Q' : Bool → Shared → Prop}, Q' true s1 → wpAny c.M c.A (isInstance (.ref a) (.type "BaseException")) Q' (EPost X c st s) s1 := fun hq => by
  unfold isInstance
  refine wpAny_bind (hty ?_)
  obtain ⟨hp, g, d, tk, os⟩ := s1
  exact wpAny_isSubtype_exc C.hC hq
 refine wpAny_bind (wpAny_pure ?_)
 dsimp only
 refine wpAny_bind (wpAny_holding ?_)
 unfold excFromValue isExcClass
 refine wpAny_bind (wpAny_bind (hnt ?_))
 simp only [Bool.false_eq_true, if_false]
 refine wpAny_pure ?_
 simp only [Bool.false_eq_true, if_false]
 refine wpAny_bind (hin ?_)
 simp only [if_true]
 refine wpAny_pure ?_
 refine wpAny_bind (hnt ?_)
 simp only [Bool.false_eq_true, if_false]
 unfold raisedInstance
 refine wpAny_bind (wpAny_bind (hty (wpAny_bind (hty2 ?_))))
 rw [if_pos (by decide)]
 refine wpAny_pure ?_
 unfold setFlight raiseNew
 refine wpAny_bind (wpAny_bind (wpAny_field he rfl h1 ?_))
 rw [if_neg (by decide)]
 refine wpAny_pure (wpAny_bind (wpAny_handled ?_))
 rw [r.ok.handled hhd]
 first
  | exact wpAny_throw hE
  | exact wpAny_bind (wpAny_pure (wpAny_throw hE))
end
end
section
section
variable {c : Cx} {st : St} {X : Flds → List (Option AV) → Prop} {pos pos' : Pos} {k : Nat} {Q : AV → St → Prop}
theorem TC_excInit {e : Addr} {l : List (Addr × AO)} {loc : List (Option AV)} {p : PyData} (h : Q (.d .none) ⟨loc, (e, .raw) :: l⟩) : TC c ⟨loc, (e, .raw) :: l⟩ (.builtin "Exception.__init__") [.v (.ref e), .d p] Q X := fun s vs r hv => by
 refine o22 hv.two fun v w zz1 h1 h2 => ?_
 subst zz1
 obtain rfl : v = .ref e := h1
 refine o12 (r.muts _ (.head _)) fun ws he hsz hw1 => ?_
 dsimp only at he hw1
 have C := r.cls
 have F := F.excBase_Exception
 have key : ∀ tk, Post RV Q c ⟨loc, (e, .raw) :: l⟩ s Value.none { s with heap := (s.heap.push { cls := .type "tuple", data := .seq #[w] }).update e (Obj.mapFields (·.setIfInBounds 0 (.ref s.heap.objs.size))), toks := tk } := fun tk => by
  have g := Gr.push s { cls := .type "tuple", data := .seq #[w] }
  have r1 := r.gr g
  have he1 := Heap.get?_push_of_some { cls := .type "tuple", data := .seq #[w] } he
  have hu : ((s.heap.push { cls := .type "tuple", data := .seq #[w] }).update e (Obj.mapFields (·.setIfInBounds 0 (.ref s.heap.objs.size)))).get? e = some { cls := .ref 33, dict := none, data := .fields (ws.setIfInBounds 0 (.ref s.heap.objs.size)) } := by
   rw [Heap.get?_update_self _ he1 rfl]; rfl
  refine o01 (r1.set1 (tk := tk) (h' := (s.heap.push { cls := .type "tuple", data := .seq #[w] }).update e (Obj.mapFields (·.setIfInBounds 0 (.ref s.heap.objs.size)))) (o' := .raw) (d := e) (mu' := (e, .raw) :: l) .here rfl (.head _) (Heap.SameBut.update ..) (by rw [hu]; rfl) fun fzs _ => ⟨_, hu, by simpa using hsz, by
   rw [Array.getElem?_setIfInBounds_ne (by decide)]; exact hw1⟩) fun r2 t2 => ?_
  exact ⟨_, _, h, r2, (Tr.gr g).trans t2, .of_none⟩
 obtain ⟨hp, g, d, tk, os⟩ := s
 dsimp only at *
 refine wpAny_call (codeAny_call_builtin F.init.plain F.initEntry (wpAny_check_init_sub F C.hC he rfl ?_))
 wp_walk
 obtain ⟨w0, hw0⟩ : ∃ w0, ws[0]? = some w0 := ⟨_, Array.getElem?_eq_getElem (by exact fg (.lt (.c 0) (.v 0)) [.le (.c 6) (.v 0)] [1,1] [] rfl [_] [] hsz)⟩
 rw [hw0]
 refine wpAny_pure (wpAny_bind (wpAny_setField (Heap.get?_push_of_some _ he) rfl (by exact fg (.lt (.c 0) (.v 0)) [.le (.c 6) (.v 0)] [1,1] [] rfl [_] [] hsz) ?_))
 have fin : wpAny (model pw c.w) c.A.in1 (ret Value.none) (fun fin s' => match fin with
   | .done f => (match (Except.ok f : Result) with
    | .ok (.ret v) => Post RV Q c ⟨loc, (e, .raw) :: l⟩ ⟨hp, g, d, tk, os⟩ v s'
    | .ok _ => False
    | .error x => EPost X c ⟨loc, (e, .raw) :: l⟩ ⟨hp, g, d, tk, os⟩ x s')
   | .again c' => c'.quiet = true ∧ codeAny (model pw c.w) c.A c' (fun r s' => match r with
    | .ok (.ret v) => Post RV Q c ⟨loc, (e, .raw) :: l⟩ ⟨hp, g, d, tk, os⟩ v s'
    | .ok _ => False
    | .error x => EPost X c ⟨loc, (e, .raw) :: l⟩ ⟨hp, g, d, tk, os⟩ x s') s') (fun x s' => match (Except.error x : Result) with
    | .ok (.ret v) => Post RV Q c ⟨loc, (e, .raw) :: l⟩ ⟨hp, g, d, tk, os⟩ v s'
    | .ok _ => False
    | .error x => EPost X c ⟨loc, (e, .raw) :: l⟩ ⟨hp, g, d, tk, os⟩ x s')
   { heap := (hp.push { cls := .type "tuple", data := .seq #[w] }).update e (Obj.mapFields (·.setIfInBounds 0 (.ref hp.objs.size))), gens := g, drawn := d, toks := tk, os := os } := wpAny_pure (key tk)
 cases w0 <;> first | exact wpAny_pure fin | exact wpAny_letGo fin
noncomputable abbrev Cx.inn (c : Cx) (A' : Around) : Cx := { c with A := A', room := c.room - 1 }
theorem Rel.inn {s : Shared} {A' : Around} (r : Rel c st s) (h1 : A'.handled = c.A.handled) (h2 : A'.frames = c.A.frames) (h3 : A'.depth = c.A.depth + 1) (h4 : A'.units = c.A.units + 1) (hr : 1 ≤ c.room) : Rel (c.inn A') st s := by
 have k := r.ok
 exact ⟨{ base := k.base, nodup := k.nodup, kinds := k.kinds, locs := k.locs, cellsAt := k.cellsAt, fn := k.fn, glob := k.glob, globs := k.globs, dbg := k.dbg, loc := k.loc, locBase := k.locBase, cellIn := k.cellIn, cellOwn := k.cellOwn, cellNe := k.cellNe, cellInj := k.cellInj, ownCtl := k.ownCtl, ownBase := k.ownBase, ctlBase := k.ctlBase, privBase := k.privBase, handled := fun h => h1.trans (k.handled h), stack := h2.trans k.stack, frIn := k.frIn, depth := by have := k.depth; simp only [h3]; omega, units := by have := k.units; simp only [h4]; omega },
  r.stay, r.ff, r.live, r.ns, r.cells, r.names, r.muts, r.nodup, r.apart⟩
theorem Rel.of_inn {s : Shared} {A' : Around} {st' : St} (r0 : c.Ok) (r : Rel (c.inn A') st' s) : Rel c st' s := ⟨r0, r.stay, r.ff, r.live, r.ns, r.cells, r.names, r.muts, r.nodup, r.apart⟩
theorem Tr.of_inn {A' : Around} {st1 : St} {s s1 : Shared} (t : Tr (c.inn A') st s st1 s1) : Tr c st s st1 s1 := ⟨t.keep, t.ctl, t.fresh, t.alive, t.rest⟩
theorem TC_raised {as : List AV} (hr : 1 ≤ c.room) (hl : as.length ≤ 100)
  (h : ∀ e A', TC (c.inn A') ⟨st.loc, (e, .raw) :: st.mu⟩ (.ref 30) (.v (.ref e) :: as) (fun a st' => a = .d .none ∧ Q (.v (.ref e)) st') (fun _ _ => False)) : TC c st (.ref 33) as Q X := fun s vs r hv => by
 have C := r.cls
 have hlen := hv.length
 have hi := r.stay _ _ (r.ok.base.K _ _ (show (KF c.w.params).lookup 30 = some (fnO "__init__" "Raised.__init__" fdI (.ref 23) (.str "tclcore.faults" 187) (.ref 29)) from by kernel_rfl!))
 have g1 := Gr.push s (excT vs)
 have r1 := r.gr g1
 have g2 := Gr.push { s with heap := s.heap.push (excT vs) } (excO s.heap.objs.size)
 have nm := TE_tuple.not_mem_new r1
 have he : ((s.heap.push (excT vs)).push (excO s.heap.objs.size)).get? (s.heap.objs.size + 1) = some (excO s.heap.objs.size) := by heap_get
 have hsz : (s.heap.push (excT vs)).objs.size = s.heap.objs.size + 1 := Heap.size_push ..
 have key := r1.change (s' := { s with heap := (s.heap.push (excT vs)).push (excO s.heap.objs.size) }) (mu' := (s.heap.objs.size + 1, .raw) :: st.mu) (fun b o e _ _ _ => g2.keep b o e) (fun b o e _ => ⟨o.slots, g2.keep b o e⟩) g2.alive ⟨rfl, rfl⟩
  (fun a m => by
   rcases List.mem_append.mp (show a ∈ [s.heap.objs.size + 1] ++ madd st.mu from m) with m | m
   ·rw [List.mem_singleton.mp m]
    refine ⟨.inr ?_, by rw [he]; rfl⟩
    rw [← hsz]; exact get_new _
   ·exact ⟨.inl m, g2.alive a (r1.apart a m).2.2.2.2⟩)
  (by show ((s.heap.objs.size + 1) :: madd st.mu).Nodup; exact List.nodup_cons.mpr ⟨by rw [← hsz]; exact nm.2.2.2, r1.nodup⟩)
  (fun fzs p hp => by
   rcases List.mem_cons.mp hp with rfl | hp
   ·exact ⟨_, he, by simp, rfl⟩
   ·exact (r1.muts p hp).lift fzs fun x _ o e => g2.keep x o e)
 refine o03 (un_facts c.A vs) fun u1 u2 u3 u4 => ?_
 have r2 := key.1.inn (A' := Around.un c.A vs) u1 u2 u3 u4 hr
 have hvs : RVs (fz (c.inn (Around.un c.A vs)) ⟨st.loc, (s.heap.objs.size + 1, .raw) :: st.mu⟩ ((s.heap.push (excT vs)).push (excO s.heap.objs.size))) (.v (.ref (s.heap.objs.size + 1)) :: as) (.ref (s.heap.objs.size + 1) :: vs) :=
  ⟨_, _, rfl, rfl, (hv.keeps g1.fz).keeps key.2.fz⟩
 have hc := h (s.heap.objs.size + 1) (Around.un c.A vs) _ _ r2 hvs
 obtain ⟨hp, g, d, tk, os⟩ := s
 dsimp only at *
 refine call_raised C hi rfl (by rw [hlen, sizeLine_eq]; exact fg (.le (.v 0) (.c 16777216)) [.le (.v 0) (.c 100)] [1,1] [] rfl [_] [] hl) (wpAny_mono hc (fun v s3 zm1 => o23 zm1 fun a st3 zz51 r3 t3 hv3 => o01 zz51 fun e1 q => ?_) fun ev s3 zm0 => o52 zm0 fun e dx fs tb loc _ hx _ => hx.elim)
 subst e1
 refine ⟨RD.none hv3, _, _, q, r3.of_inn r.ok, ?_, rfl⟩
 exact (Tr.gr g1).trans (key.2.trans t3.of_inn)
end
end
section
section
variable {c : Cx} {st : St} {X : Flds → List (Option AV) → Prop} {pos pos' : Pos} {k : Nat} {Q : AV → St → Prop}
noncomputable abbrev Cx.mk' (c : Cx) (e : Addr) : Cx := { c with A := c.A.mark (some (.ref e)), hd := true }
theorem Rel.mk' {s : Shared} {e : Addr} (r : Rel c st s) : Rel (c.mk' e) st s := by
 have k := r.ok
 exact ⟨{ base := k.base, nodup := k.nodup, kinds := k.kinds, locs := k.locs, cellsAt := k.cellsAt, fn := k.fn, glob := k.glob, globs := k.globs, dbg := k.dbg, loc := k.loc, locBase := k.locBase, cellIn := k.cellIn, cellOwn := k.cellOwn, cellNe := k.cellNe, cellInj := k.cellInj, ownCtl := k.ownCtl, ownBase := k.ownBase, ctlBase := k.ctlBase, privBase := k.privBase, handled := (fun h => (nomatch h)), stack := k.stack, frIn := k.frIn, depth := k.depth, units := k.units },
  r.stay, r.ff, r.live, r.ns, r.cells, r.names, r.muts, r.nodup, r.apart⟩
theorem Rel.of_mk' {s : Shared} {e : Addr} {st' : St} (r0 : c.Ok) (r : Rel (c.mk' e) st' s) : Rel c st' s := ⟨r0, r.stay, r.ff, r.live, r.ns, r.cells, r.names, r.muts, r.nodup, r.apart⟩
theorem Tr.of_mk' {e : Addr} {st1 : St} {s s1 : Shared} (t : Tr (c.mk' e) st s st1 s1) : Tr c st s st1 s1 := ⟨t.keep, t.ctl, t.fresh, t.alive, t.rest⟩
noncomputable abbrev CatchX (c : Cx) (Q : AF → St → Prop) (suite : List Stmt) : Flds → List (Option AV) → Prop := fun fs loc => ∀ e dx T,
 TL (c.mk' e) ⟨loc, [(e, .inst dx fs (some (T, .none)))]⟩ suite (fun f st' => Q f ⟨st'.loc, []⟩) (fun _ _ => False)
theorem Rel.none {s : Shared} (r : Rel c st s) : Rel c ⟨st.loc, []⟩ s ∧ Tr c st s ⟨st.loc, []⟩ s := r.sub (fun p hp => (nomatch hp)) .nil
theorem TS_try {x : Str} {np hpos : Pos} {body suite : List Stmt} {b0 : Stmt} {Q : AF → St → Prop} (hF : c.Fn) (hg : (x, .ref 33) ∈ c.globs) (h : TL c st body Q (CatchX c Q (b0 :: suite))) :
  TS c st (.Try body [.ExceptHandler (some (.Name x np)) none (b0 :: suite) hpos] [] [] pos) Q X := fun s r => by
 refine wpAny_Try_except (wpAny_mono (h s r) (fun f s1 p => ?_) fun ev s1 zm4 => o54 zm4 fun e dx fs tb loc he hx hfl r1 t1 => ?_)
 ·cases f with
  | next => exact wpAny_execs_nil p
  | _ => exact p
 subst he
 refine note_frame r1 hF hfl fun T s2 r2 t2 => set_flight (fr := none) r2 fun s3 r3 t3 => ?_
 have t13 := (t1.trans t2).trans t3
 refine wpAny_handleBy_cons (codeAny_handlers_test ?_) (by intro q; cases q)
 refine wpAny_mono ((TE_glob (X := fun _ _ => False) (Q := fun a st1 => a = .v (.ref 33) ∧ st1 = ⟨loc, [(e, .inst dx fs (some (T, .none)))]⟩) (c := c.mk' e) hg ⟨rfl, rfl⟩) s3 r3.mk') (fun v s4 zm3 => o23 zm3 fun a st4 zz51 r4 t4 hv => o01 zz51 fun e1 e2 => ?_) fun ev s4 zm2 => o52 zm2 fun _ _ _ _ _ _ hx _ => hx.elim
 subst e1 e2
 obtain rfl : v = .ref 33 := hv
 have C := r4.cls
 refine o02 (r4.muts _ (.head _)) fun ne zz1 _ => ?_
 refine o11 zz1 fun ws hg4 _ => ?_
 clear zz1
 dsimp only at hg4
 have hgo : wpAny (model pw c.w) (c.A.mark (some (.ref e))) (excMatches (.ref e) (.ref 33)) (fun b s5 => b = true ∧ s5 = s4) (fun _ _ => False) s4 := by
  obtain ⟨hp, g, d, tk, os⟩ := s4
  exact wpAny_excMatches_sub_self C.hC hg4 rfl (by decide +kernel) ⟨rfl, rfl⟩
 refine wpAny_mono hgo (fun b s5 zm1 => o01 zm1 fun e1 e2 => ?_) fun _ _ x => x.elim
 subst e1 e2
 rw [if_pos rfl]
 refine codeAny_handlers_suite ?_
 have r4' := r4.of_mk' r.ok
 refine set_flight (c := c.mk' e) (fr := none) r4 fun s6 r6 t6 => ?_
 refine wpAny_mono (hx e dx T s6 r6) (fun f s7 zm0 => o23 zm0 fun af st7 q r7 t7 hf => ?_) fun ev s7 zm8 => o52 zm8 fun _ _ _ _ _ _ hx _ => hx.elim
 refine o01 ((r7.of_mk' r.ok).none) fun r8 t8 => ?_
 have t := (((t13.trans t4.of_mk').trans t6.of_mk').trans t7.of_mk').trans t8
 exact ⟨af, _, q, r8, t, hf.keeps t8.fz⟩
noncomputable abbrev CatchAs (c : Cx) (n : Str) (Q : AF → St → Prop) (suite : List Stmt) : Flds → List (Option AV) → Prop := fun fs loc => ∀ e dx T, ∃ loc', StoreAt c.vars loc n (.v (.ref e)) loc' ∧
 TL (c.mk' e) ⟨loc', [(e, .inst dx fs (some (T, .none)))]⟩ suite (fun f st' => Q f ⟨[], []⟩) (fun _ _ => False)
theorem TS_try_as {x n : Str} {np hpos : Pos} {body suite : List Stmt} {b0 : Stmt} {Q : AF → St → Prop} (hF : c.Fn) (hg : (x, .ref 33) ∈ c.globs) (hn : n ∈ c.vars) (hcell : ∀ y ∈ c.env.scope.names, y.2 ≠ .cell) (h : TL c st body Q (CatchAs c n Q (b0 :: suite))) (hfr : c.fr = []) :
  TS c st (.Try body [.ExceptHandler (some (.Name x np)) (some n) (b0 :: suite) hpos] [] [] pos) Q X := fun s r => by
 refine wpAny_Try_except (wpAny_mono (h s r) (fun f s1 p => ?_) fun ev s1 zm7 => o54 zm7 fun e dx fs tb loc he hx hfl r1 t1 => ?_)
 ·cases f with
  | next => exact wpAny_execs_nil p
  | _ => exact p
 subst he
 refine note_frame r1 hF hfl fun T s2 r2 t2 => set_flight (fr := none) r2 fun s3 r3 t3 => ?_
 have t13 := (t1.trans t2).trans t3
 refine wpAny_handleBy_cons (codeAny_handlers_test ?_) (by intro q; cases q)
 refine wpAny_mono ((TE_glob (X := fun _ _ => False) (Q := fun a st1 => a = .v (.ref 33) ∧ st1 = ⟨loc, [(e, .inst dx fs (some (T, .none)))]⟩) (c := c.mk' e) hg ⟨rfl, rfl⟩) s3 r3.mk') (fun v s4 zm6 => o23 zm6 fun a st4 zz51 r4 t4 hv => o01 zz51 fun e1 e2 => ?_) fun ev s4 zm5 => o52 zm5 fun _ _ _ _ _ _ hx _ => hx.elim
 subst e1 e2
 obtain rfl : v = .ref 33 := hv
 have C := r4.cls
 refine o02 (r4.muts _ (.head _)) fun ne zz1 _ => ?_
 refine o11 zz1 fun ws hg4 _ => ?_
 clear zz1
 dsimp only at hg4
 have hgo : wpAny (model pw c.w) (c.A.mark (some (.ref e))) (excMatches (.ref e) (.ref 33)) (fun b s5 => b = true ∧ s5 = s4) (fun _ _ => False) s4 := by
  obtain ⟨hp, g, d, tk, os⟩ := s4
  exact wpAny_excMatches_sub_self C.hC hg4 rfl (by decide +kernel) ⟨rfl, rfl⟩
 refine wpAny_mono hgo (fun b s5 zm4 => o01 zm4 fun e1 e2 => ?_) fun _ _ x => x.elim
 subst e1 e2
 rw [if_pos rfl]
 refine o11 (hx e dx T) fun loc' hst hx => ?_
 refine codeAny_handlers_suite_as (set_flight (c := c.mk' e) (fr := none) r4 fun s6 r6 t6 => ?_)
 refine wp_store (c := c.mk' e) r6 hst rfl hfr fun s6' r6' t6' => ?_
 refine wpAny_mono (hx s6' r6') (fun f s7 zm3 => o23 zm3 fun af st7 q r7 t7 hf => ?_) fun ev s7 zm2 => o52 zm2 fun _ _ _ _ _ _ hx _ => hx.elim
 refine o01 ((r7.of_mk' r.ok).none) fun r8 t8 => ?_
 have t := ((((t13.trans t4.of_mk').trans t6.of_mk').trans t6'.of_mk').trans t7.of_mk').trans t8
 have hf8 := hf.keeps t8.fz
 have hkind : c.env.kindOf n = some .local := by
  rcases r.ok.kinds n hn with h | h | ⟨_, h⟩
  ·exact h
  ·have : (n, NameKind.cell) ∈ c.env.scope.names := lookup_mem h
   exact absurd rfl (hcell _ this)
  ·rw [hfr] at h; cases h
 refine o10 r8.ns fun m hm => ?_
 refine wpAny_nameGoes hkind hm (by rw [r.ok.fn]; rfl) fun h' m' hn' hs' => ?_
 refine o01 (r8.own (tk := s7.toks + 1) (loc' := []) r8.ok.loc hs' (by refine o32 hn' fun o es ep ho hd _ => ?_; try clear hn'; exact i11 o ho (fun vs q => by rw [hd] at q; cases q)) ⟨m', hn'⟩
  (fun y ca hy => let ⟨u, q⟩ := r8.cells y ca hy; ⟨u, q.sameBut hs' (r8.ok.cellNe y ca hy)⟩) fun j y b hj hb => by simp at hb) fun r9 t9 => ?_
 exact ⟨af, _, q, r9, t.trans t9, hf8.keeps t9.fz⟩
where
 lookup_mem {x : Str} {k : NameKind} : ∀ {l : List (Str × NameKind)}, l.lookup x = some k → (x, k) ∈ l
  | (y, k') :: l, h => by
   rw [List.lookup_cons] at h
   split at h
   ·rename_i e
    cases h
    rw [show x = y from by simpa using e]
    exact .head _
   ·exact .tail _ (lookup_mem h)
theorem TS_ret_none {Q : AF → St → Prop} (h : Q (.ret (.d .none)) st) : TS c st (.Return none pos) Q X := fun s hs => wpAny_Return_none (.here (R := RF) hs h ⟨_, rfl, .of_none⟩)
theorem TE_or {e₁ e₂ : Expr} {es : List Expr} (h : TE c st e₁ (fun x st1 => ∃ b, Tru x b ∧ if b then Q x st1 else TE c st1 (.BoolOp .Or (e₂ :: es) pos) Q X) X) : TE c st (.BoolOp .Or (e₁ :: e₂ :: es) pos) Q X := fun s hs =>
 BoolOp_or (h.then hs (.refl ..) fun v x st1 s1 zm1 r1 v1 t1 => o11 zm1 fun b h1 h2 => wpAny_mono (h1.run c st1 s1 v r1 v1) (fun a s' zm0 => o01 zm0 fun e g => by
  subst e
  cases a
  ·exact T.last h2 (r1.gr g) (t1.trans (.gr g))
  ·exact (Post.gr r1 g h2 (v1.keeps g.fz)).lift t1) fun _ _ x => x.elim)
end
end
section
section
variable {c : Cx} {st : St} {X : Flds → List (Option AV) → Prop} {pos pos' : Pos} {k : Nat} {Q : AV → St → Prop}
theorem TB_chain {op₁ op₂ : CmpOp} {l r₁ r₂ : Expr} {Q : Bool → St → Prop} (h : TE c st l (fun x st1 => TE c st1 r₁ (fun y st2 => ∃ b, Cmp st2 op₁ x y b ∧ if b then TE c st2 r₂ (fun z st3 => ∃ b', Cmp st3 op₂ y z b' ∧ Q b' st3) X else Q false st2) X) X)
  (hm : lastMarks [op₁, op₂] [r₁, r₂] = false) : TB c st (.Compare l [op₁, op₂] [r₁, r₂] pos) Q X := fun s hs =>
 isTrue_chain (h.then hs (.refl ..) fun va x st1 s1 h1 r1 v1 t1 => test_link (h1.then r1 t1 fun vb y st2 s2 ⟨b, h2, h3⟩ r2 v2 t2 =>
  wpAny_mono (h2.run c s2 va vb r2 (v1.keeps t2.fz) v2).out (fun v s' zm3 => o12 zm3 fun z e g q => by
   subst e
   rw [RD.bool q]
   refine wpAny_truthy_bool ?_
   have r3 := r2.gr g
   have t3 := (t1.trans t2).trans (.gr g)
   cases b with
   | false =>
    rw [if_neg Bool.false_ne_true] at h3 ⊢
    exact (Post.here (R := RB) r3 h3 rfl).lift t3
   | true =>
    rw [if_pos rfl] at h3 ⊢
    exact test_last (h3.then r3 t3 fun vc z st4 s4 zm2 r4 v4 t4 => o11 zm2 fun b' h4 h5 => wpAny_mono (h4.run c s4 vb vc r4 ((v2.keeps g.fz).keeps t4.fz) v4).out (fun v s' zm1 => o12 zm1 fun z e g' q => by
     subst e; exact truth Tru.bool (r4.gr g') q ((t3.trans t4).trans (.gr g')) h5) fun _ _ x => x.elim)) fun _ _ x => x.elim)) hm
theorem TE_tmeth {x : Str} {np apos : Pos} {e : Expr} {es : List Expr} (hg : (x, .type "Exception") ∈ c.globs) (h : TA c st pos (e :: es) (fun as st1 => TC c st1 (.builtin "Exception.__init__") as Q X) X)
  (hs : starEach (e :: es) c.env = (false, eval e c.env) :: starEach es c.env) (hp : (backTo pos (starEach (e :: es) c.env)).any (·.1) = false)
  (he : ∃ pl, eval (.Call (.Attribute (.Name x np) "__init__" apos) (e :: es) [] pos) c.env = (do
   let ov ← eval (.Name x np) c.env
   standAt apos.atName
   let (f, first) ← holding [ov] (getMethod ov "__init__" pl)
   callWith pos f first (backTo pos (starEach (e :: es) c.env)) [])) : TE c st (.Call (.Attribute (.Name x np) "__init__" apos) (e :: es) [] pos) Q X := fun s r => by
 refine o10 he fun pl _ => ?_
 clear he
 rename_i he
 refine MethodCall_ (pl := pl) ((TE_glob (X := X) (Q := fun a st1 => a = .v (.type "Exception") ∧ st1 = st) hg ⟨rfl, rfl⟩).then r (.refl ..) fun v a st1 s1 zm0 r1 v1 t1 => o01 zm0 fun e1 e2 => ?_) he
 subst e1 e2
 obtain rfl : v = .type "Exception" := v1
 refine getm_excInit r1 ?_
 have g := Gr.toks s1 (s1.toks + 1)
 have r2 := r1.gr g
 have t2 := t1.trans (.gr g)
 refine callWith_T (.inl ⟨_, rfl⟩) r.ok.base hp ?_
 have hs' : T RVs c st1 (spliced (backTo pos (starEach (e :: es) c.env))) (fun as st2 => TC c st2 (.builtin "Exception.__init__") as Q X) X := h
 rw [hs] at hs' ⊢
 exact evalArgs_plain (hs'.then r2 t2 fun vs as st3 s3 h3 r3 v3 t3 => ⟨r3.stay, wpAny_mono (h3 s3 vs r3 v3) (fun _ _ p => p.lift (t2.trans t3)) fun _ _ p => p.lift (t2.trans t3)⟩)
theorem data_none : PyData.str "NONE" = PyData.str "NONE" := rfl
theorem rd_base {s : Shared} (r : Rel c st s) {a : Addr} {x : Str} {t : Tok} (h : (KF c.w.params).lookup a = some { cls := .type "tuple", data := .seq #[.str x t] }) : RD (fz c st s.heap) (.tuple [.str x]) (.ref a) :=
 RD.of_tuple (base_fz r (r.ok.base.K _ _ h)) rfl rfl (.cons .of_str .nil)
theorem K_here {s : Shared} (r : Rel c st s) : (KF c.w.params).In s.heap := r.ok.base.K.keeps r.stay
theorem bind_error1 {s : Shared} {a : AV} {vs : List Value} (r : Rel c st s) (hv : RVs (fz c st s.heap) [a] vs) : ∃ ws, BindsTo s (fdO "error" "error" (fdOf 2) (.ref 38) (.str "tclcore.faults" 187) (.ref 44)) ⟨vs, []⟩ ([("text" : Str), "errorcode"].zip ws) ∧ RVs (fz c st s.heap) [a, .d (.tuple [.str "NONE"])] ws := by
 refine o11 hv.one fun v zz1 h1 => ?_
 subst zz1
 exact i11 [v, .ref 37] (kp_binds (K_here r) (fun S => by kernel_rfl!)) ⟨v, _, rfl, h1, .ref 37, [], rfl, rd_base r (t := 233) (by kernel_rfl!), rfl⟩
end
end
section
theorem ite_split {b : Bool} {A B : Prop} (ha : b = true → A) (hb : b = false → B) : if b = true then A else B := by
 cases b with
 | true => exact ha rfl
 | false => exact hb rfl
noncomputable def isStrD : PyData → Bool
 | .str _ => true
 | _ => false
noncomputable def eqStrD (x : Str) : PyData → Bool
 | .str y => y == x
 | _ => false
theorem strs_of_all : ∀ {ps : List PyData}, ps.all isStrD = true → ∃ ys : List Str, ps = ys.map .str
 | [], _ => ⟨[], rfl⟩
 | p :: ps, h => by
  simp only [List.all_cons, Bool.and_eq_true] at h
  refine o10 (strs_of_all h.2) fun ys zz1 => ?_
  subst zz1
  cases p <;> first | exact ⟨_ :: ys, rfl⟩ | exact nomatch h.1
theorem any_strs (x : Str) (ys : List Str) : (ys.map PyData.str).any (eqStrD x) = strsIn x ys := by
 unfold strsIn; rw [List.any_map]; rfl
theorem Cmp.in_tup {st : St} {x : Str} {ps : List PyData} (h : ps.all isStrD = true) : Cmp st .In (.d (.str x)) (.d (.tuple ps)) (ps.any (eqStrD x)) := by
 refine o10 (strs_of_all h) fun ys zz1 => ?_
 subst zz1
 rw [any_strs]; exact Cmp.in_strs
theorem bind_plain2 {fd : FuncData} {args : List Arg} {ps : List Str} {vs : List Value} (hp : fd.params = ⟨[], args, none, [], [], none, []⟩) (hd : fd.defaults = .none) (hm : args.map (·.arg) = ps) (hnd : ps.Nodup) (hl : vs.length = ps.length) :
  bindArgs fd ⟨vs, []⟩ = pure (ps.zip vs) := by
 subst hm
 exact bind_plain hp hd hnd (by simpa using hl)
noncomputable def Seq (P : St → Prop) (Q : AF → St → Prop) : AF → St → Prop
 | .next, st => P st
 | f, st => Q f st
theorem Seq.next {P : St → Prop} {Q : AF → St → Prop} {st : St} (h : P st) : Seq P Q .next st := h
theorem Seq.ret {P : St → Prop} {Q : AF → St → Prop} {a : AV} {st : St} (h : Q (.ret a) st) : Seq P Q (.ret a) st := h
theorem TS_seq {c : Cx} {st : St} {X : Flds → List (Option AV) → Prop} {x : Stmt} {xs : List Stmt} {Q : AF → St → Prop} (P : St → Prop) (h1 : TS c st x (Seq P Q) X) (h2 : ∀ st1, P st1 → TL c st1 xs Q X) : TS c st x (fun f st1 => match f with | .next => TL c st1 xs Q X | f => Q f st1) X :=
 h1.conseq (fun f st1 h => by cases f <;> first | exact h2 st1 h | exact h) fun _ _ x => x
theorem swap2 {c : Cx} {st : St} {a b : Str} {p q : PyData} {loc1 loc2 : List (Option AV)} {K : St → Prop} (h1 : StoreAt c.vars st.loc b (.d q) loc1) (h2 : StoreAt c.vars loc1 a (.d p) loc2) (k : K ⟨loc2, st.mu⟩) :
  ∃ ps, AV.d (.tuple [p, q]) = .d (.tuple ps) ∧ ps.length = [a, b].length ∧ TNs c st [a, b].reverse ps.reverse K :=
 (i12 [p, q] rfl rfl ⟨q, [p], loc1, rfl, h1, p, [], loc2, rfl, h2, rfl, k⟩)
theorem mem_h {α : Type} {a : α} {l : List α} : a ∈ a :: l := .head _
theorem mem_t {α : Type} {a b : α} {l : List α} (h : a ∈ l) : a ∈ b :: l := .tail _ h
noncomputable def fnAddrs : List Addr := [30, 45, 52, 59, 66, 73, 80, 87, 94, 101, 108, 115, 122, 129, 136, 143, 150, 157, 165, 172, 179, 186, 193, 200, 207, 214, 221, 228, 235, 242, 249, 256, 263, 270, 277, 282, 289, 296, 303, 308, 315, 320, 327, 334, 339, 346, 353, 360, 367, 372, 379]
theorem keeps_all : ∀ P, (33 :: fnAddrs).all (fun a => keepIn (KF P) (.ref a)) = true := fun P => by kernel_rfl!
theorem keeps_ref {a : Addr} (h : (33 :: fnAddrs).contains a = true) : Keeps (.ref a) := .inr (.inr fun P => by
 have := List.all_eq_true.mp (keeps_all P) a (by simpa using h)
 exact this)
theorem keeps_bi {id : String} : Keeps (.builtin id) := .inl ⟨_, rfl⟩
theorem keeps_ty {T : String} : Keeps (.type T) := .inr (.inl ⟨_, rfl⟩)
theorem ite_t {b : Bool} {A B : Prop} (h : b = true) (a : A) : if b = true then A else B := by rw [h]; exact a
theorem ite_f {b : Bool} {A B : Prop} (h : b = false) (a : B) : if b = true then A else B := by rw [h]; exact a
theorem ite_tt {A B : Prop} (a : A) : if true = true then A else B := by rw [if_pos rfl]; exact a
theorem ite_ff {A B : Prop} (b : B) : if false = true then A else B := by rw [if_neg Bool.false_ne_true]; exact b
theorem ite_d {p : Prop} [Decidable p] {A B : Prop} (ha : p → A) (hb : ¬ p → B) : if decide p = true then A else B := by
 by_cases h : p
 ·rw [decide_eq_true h]; exact ha h
 ·rw [decide_eq_false h]; exact hb h
theorem ite_dt {p : Prop} [Decidable p] {A B : Prop} (h : p) (a : A) : if decide p = true then A else B := ite_t (decide_eq_true h) a
theorem ite_df {p : Prop} [Decidable p] {A B : Prop} (h : ¬ p) (a : B) : if decide p = true then A else B := ite_f (decide_eq_false h) a
theorem ite_eq {i j : Int} {A B : Prop} (ha : i = j → A) (hb : i ≠ j → B) : if (i == j) = true then A else B := by
 by_cases h : i = j
 ·exact ite_t (beq_iff_eq.mpr h) (ha h)
 ·exact ite_f (beq_eq_false_iff_ne.mpr h) (hb h)
theorem ite_seq {i j : Str} {A B : Prop} (ha : i = j → A) (hb : i ≠ j → B) : if (i == j) = true then A else B := by
 by_cases h : i = j
 ·exact ite_t (beq_iff_eq.mpr h) (ha h)
 ·exact ite_f (beq_eq_false_iff_ne.mpr h) (hb h)
theorem ite_ne {i j : Int} {A B : Prop} (ha : i ≠ j → A) (hb : i = j → B) : if (i != j) = true then A else B := by
 by_cases h : i = j
 ·exact ite_f (by simp [h]) (hb h)
 ·exact ite_t (by simp [h]) (ha h)
theorem ite_not {b : Bool} {A B : Prop} (ha : b = false → A) (hb : b = true → B) : if (!b) = true then A else B := by
 cases b with
 | true => exact hb rfl
 | false => exact ha rfl
inductive Dat : List AV → List PyData → Prop
 | nil : Dat [] []
 | cons {p as ps} : Dat as ps → Dat (.d p :: as) (p :: ps)
theorem Dat.eq {as : List AV} {ps : List PyData} (h : Dat as ps) : as = AVs ps := by
 induction h with
 | nil => rfl
 | cons _ ih => rw [ih]; rfl
theorem dat_intro {as : List AV} {ps : List PyData} {P : List PyData → Prop} (h : Dat as ps) (hl : ps.length ≤ 1000000) (k : P ps) : ∃ ps, as = AVs ps ∧ ps.length ≤ 1000000 ∧ P ps := i12 ps h.eq hl k
end
section
local macro_rules | `(tactic| walk_at "EN") => `(tactic| all_goals first | (intro P; kernel_rfl) | kernel_rfl | decide)
section
variable {c : Cx} {st : St} {X : Flds → List (Option AV) → Prop} {Q : AV → St → Prop}
noncomputable abbrev EB (c : Cx) (st : St) (X : Flds → List (Option AV) → Prop) (Q : AV → St → Prop) (pas post : List (Addr × AO)) (V : List Str) (G : List (Str × Value)) (loc0 : List (Option AV)) (k : Nat) : Prop :=
 ∀ o : Other, o.w = c.w → (mkCx V G (c.room - 1) o).Fn → TL (mkCx V G (c.room - 1) o) ⟨loc0, pas⟩ (fdOf k).2.1 (RetQ fun a st' => Q a ⟨st.loc, [] ++ st'.mu ++ post⟩) (fun fs _ => X fs st.loc)
theorem EN {V : List Str} {G : List (Str × Value)} {as : List AV} {k : Nat} {fa : Addr} {loc0 : List (Option AV)} {pas post : List (Addr × AO)} (hmu : st.mu = pas ++ post) (hhd : c.hd = false) (hroom : 1 ≤ c.room) (body : EB c st X Q pas post V G loc0 k)
  (nm qual : Str) (pm cd : Value) (ps xs : List Str) (h1 : ∀ P, (KF P).lookup fa = some (fnO nm qual (fdOf k) .none pm cd)) (h2 : ∀ P, codeIn (KF P) cd qual = true)
  (h3 : ∀ P, scOk (KF P) (fdOf k).2.2 V G = true) (h4 : (fdOf k).1 = ⟨[], (fdOf k).1.args, none, [], [], none, []⟩) (h5 : (fdOf k).1.args.map (·.arg) = ps) (hnd : ps.Nodup) (hv : V = ps ++ xs) (hl0 : loc0 = as.map some ++ xs.map fun _ => none) (hl : ps.length = as.length) : TC c st (.ref fa) as Q X := by
 unfold EB at body
 generalize fdOf k = f at *
 exact TC_def (pre := []) h1 h2 h3 hhd hroom hmu (fun s vs r hv => i11 vs (.of_eq (bind_plain2 (args := f.1.args) h4 rfl h5 hnd (hv.length.trans hl.symm))) hv) (i11 xs hv hl0) hl body
end
theorem enter_init {c : Cx} {st : St} {X : Flds → List (Option AV) → Prop} {a0 a1 a2 a3 a4 a5 : AV} {as : List AV} {Q : AV → St → Prop} (pas post : List (Addr × AO)) (hmu : st.mu = pas ++ post) (hhd : c.hd = false) (hroom : 1 ≤ c.room) (hbind : ∀ s vs, Rel c st s → RVs (fz c st s.heap) as vs → ∃ ws, BindsTo s (fdO "__init__" "Raised.__init__" (fdI) (.ref 23) (.str "tclcore.faults" 187) (.ref 29)) ⟨vs, []⟩ ((["self", "code", "value", "errorcode", "level", "ret"] : List Str).zip ws) ∧ RVs (fz c st s.heap) [a0, a1, a2, a3, a4, a5] ws)
  (body : ∀ o : Other, o.w = c.w → (mkCx ["self", "code", "value", "errorcode", "level", "ret"] [("Exception", .type "Exception")] (c.room - 1) o).Fn → TL (mkCx ["self", "code", "value", "errorcode", "level", "ret"] [("Exception", .type "Exception")] (c.room - 1) o) ⟨[some a0, some a1, some a2, some a3, some a4, some a5], pas⟩ (fdI).2.1 (RetQ fun a st' => Q a ⟨st.loc, [] ++ st'.mu ++ post⟩) (fun fs _ => X fs st.loc)) :
  TC c st (.ref 30) as Q X := by
 have h1 : ∀ P, (KF P).lookup 30 = some (fnO "__init__" "Raised.__init__" (fdI) (.ref 23) (.str "tclcore.faults" 187) (.ref 29)) := fun P => by kernel_rfl
 have h2 : ∀ P, codeIn (KF P) (.ref 29) "Raised.__init__" = true := fun P => by kernel_rfl
 have h3 : ∀ P, scOk (KF P) (fdI).2.2 ["self", "code", "value", "errorcode", "level", "ret"] [("Exception", .type "Exception")] = true := fun P => by kernel_rfl
 generalize fdI = f at *
 exact TC_def (pre := []) (pas := pas) (post := post) (loc0 := [some a0, some a1, some a2, some a3, some a4, some a5]) (vars := ["self", "code", "value", "errorcode", "level", "ret"]) (ps := ["self", "code", "value", "errorcode", "level", "ret"]) (globs := [("Exception", .type "Exception")]) (as' := [a0, a1, a2, a3, a4, a5]) (nm := "__init__") (qual := "Raised.__init__") (f := f) (dV := .ref 23) (pm := .str "tclcore.faults" 187) (cd := .ref 29)
  h1 h2 h3 hhd hroom hmu hbind (i11 [] rfl rfl) rfl body
theorem enter_error {c : Cx} {st : St} {X : Flds → List (Option AV) → Prop} {a0 a1 : AV} {as : List AV} {Q : AV → St → Prop} (pas post : List (Addr × AO)) (hmu : st.mu = pas ++ post) (hhd : c.hd = false) (hroom : 1 ≤ c.room) (hbind : ∀ s vs, Rel c st s → RVs (fz c st s.heap) as vs → ∃ ws, BindsTo s (fdO "error" "error" (fdOf 2) (.ref 38) (.str "tclcore.faults" 187) (.ref 44)) ⟨vs, []⟩ ((["text", "errorcode"] : List Str).zip ws) ∧ RVs (fz c st s.heap) [a0, a1] ws)
  (body : ∀ o : Other, o.w = c.w → (mkCx ["text", "errorcode"] [("Raised", .ref 33)] (c.room - 1) o).Fn → TL (mkCx ["text", "errorcode"] [("Raised", .ref 33)] (c.room - 1) o) ⟨[some a0, some a1], pas⟩ (fdOf 2).2.1 (RetQ fun a st' => Q a ⟨st.loc, [] ++ st'.mu ++ post⟩) (fun fs _ => X fs st.loc)) :
  TC c st (.ref 45) as Q X := by
 have h1 : ∀ P, (KF P).lookup 45 = some (fnO "error" "error" (fdOf 2) (.ref 38) (.str "tclcore.faults" 187) (.ref 44)) := fun P => by kernel_rfl
 have h2 : ∀ P, codeIn (KF P) (.ref 44) "error" = true := fun P => by kernel_rfl
 have h3 : ∀ P, scOk (KF P) (fdOf 2).2.2 ["text", "errorcode"] [("Raised", .ref 33)] = true := fun P => by kernel_rfl
 generalize fdOf 2 = f at *
 exact TC_def (pre := []) (pas := pas) (post := post) (loc0 := [some a0, some a1]) (vars := ["text", "errorcode"]) (ps := ["text", "errorcode"]) (globs := [("Raised", .ref 33)]) (as' := [a0, a1]) (nm := "error") (qual := "error") (f := f) (dV := .ref 38) (pm := .str "tclcore.faults" 187) (cd := .ref 44)
  h1 h2 h3 hhd hroom hmu hbind (i11 [] rfl rfl) rfl body
theorem enter_quote {c : Cx} {st : St} {X : Flds → List (Option AV) → Prop} {a0 a1 : AV} {as : List AV} {Q : AV → St → Prop} (pas post : List (Addr × AO)) (hmu : st.mu = pas ++ post) (hhd : c.hd = false) (hroom : 1 ≤ c.room) (hbind : ∀ s vs, Rel c st s → RVs (fz c st s.heap) as vs → ∃ ws, BindsTo s (fdO "quote" "quote" (fdOf 22) (.ref 158) (.str "tclcore.lists" 325) (.ref 164)) ⟨vs, []⟩ ((["element", "is_hash"] : List Str).zip ws) ∧ RVs (fz c st s.heap) [a0, a1] ws)
  (body : ∀ o : Other, o.w = c.w → (mkCx ["element", "is_hash", "mode", "out", "c"] [("mode_of", .ref 150), ("escaped", .ref 157)] (c.room - 1) o).Fn → TL (mkCx ["element", "is_hash", "mode", "out", "c"] [("mode_of", .ref 150), ("escaped", .ref 157)] (c.room - 1) o) ⟨[some a0, some a1, none, none, none], pas⟩ (fdOf 22).2.1 (RetQ fun a st' => Q a ⟨st.loc, [] ++ st'.mu ++ post⟩) (fun fs _ => X fs st.loc)) :
  TC c st (.ref 165) as Q X := by
 have h1 : ∀ P, (KF P).lookup 165 = some (fnO "quote" "quote" (fdOf 22) (.ref 158) (.str "tclcore.lists" 325) (.ref 164)) := fun P => by kernel_rfl
 have h2 : ∀ P, codeIn (KF P) (.ref 164) "quote" = true := fun P => by kernel_rfl
 have h3 : ∀ P, scOk (KF P) (fdOf 22).2.2 ["element", "is_hash", "mode", "out", "c"] [("mode_of", .ref 150), ("escaped", .ref 157)] = true := fun P => by kernel_rfl
 generalize fdOf 22 = f at *
 exact TC_def (pre := []) (pas := pas) (post := post) (loc0 := [some a0, some a1, none, none, none]) (vars := ["element", "is_hash", "mode", "out", "c"]) (ps := ["element", "is_hash"]) (globs := [("mode_of", .ref 150), ("escaped", .ref 157)]) (as' := [a0, a1]) (nm := "quote") (qual := "quote") (f := f) (dV := .ref 158) (pm := .str "tclcore.lists" 325) (cd := .ref 164)
  h1 h2 h3 hhd hroom hmu hbind (i11 ["mode", "out", "c"] rfl rfl) rfl body
section
variable {c : Cx} {st : St} {X : Flds → List (Option AV) → Prop} {Q : AV → St → Prop} (pas post : List (Addr × AO)) (hmu : st.mu = pas ++ post) (hhd : c.hd = false) (hroom : 1 ≤ c.room)
include hmu hhd hroom
theorem enter_is_blank {a0 : AV} (body : EB c st X Q pas post ["c"] [] [some a0] 4) : TC c st (.ref 52) [a0] Q X := by
 with_reducible refine EN hmu hhd hroom body "is_blank" "is_blank" (.str "tclcore.numbers" 242) (.ref 51) ["c"] [] ?_ ?_ ?_ ?_ ?_ ?_ ?_ ?_ ?_
 walk_at "EN"
theorem enter_digit {a0 : AV} (body : EB c st X Q pas post ["c", "n"] [("len", .builtin "len"), ("ord", .builtin "ord")] [some a0, none] 5) : TC c st (.ref 59) [a0] Q X := by
 with_reducible refine EN hmu hhd hroom body "digit" "digit" (.str "tclcore.numbers" 242) (.ref 58) ["c"] ["n"] ?_ ?_ ?_ ?_ ?_ ?_ ?_ ?_ ?_
 walk_at "EN"
theorem enter_digits_value {a0 a1 : AV} (body : EB c st X Q pas post ["text", "base", "value", "c", "n"] [("digit", .ref 59)] [some a0, some a1, none, none, none] 6) : TC c st (.ref 66) [a0, a1] Q X := by
 with_reducible refine EN hmu hhd hroom body "digits_value" "digits_value" (.str "tclcore.numbers" 242) (.ref 65) ["text", "base"] ["value", "c", "n"] ?_ ?_ ?_ ?_ ?_ ?_ ?_ ?_ ?_
 walk_at "EN"
theorem enter_base_of {a0 : AV} (body : EB c st X Q pas post ["mark"] [] [some a0] 7) : TC c st (.ref 73) [a0] Q X := by
 with_reducible refine EN hmu hhd hroom body "base_of" "base_of" (.str "tclcore.numbers" 242) (.ref 72) ["mark"] [] ?_ ?_ ?_ ?_ ?_ ?_ ?_ ?_ ?_
 walk_at "EN"
theorem enter_whole_of {a0 : AV} (body : EB c st X Q pas post ["text", "first", "behind", "is_minus", "base", "value"] [("len", .builtin "len"), ("is_blank", .ref 52), ("base_of", .ref 73), ("digits_value", .ref 66)] [some a0, none, none, none, none, none] 8) : TC c st (.ref 80) [a0] Q X := by
 with_reducible refine EN hmu hhd hroom body "whole_of" "whole_of" (.str "tclcore.numbers" 242) (.ref 79) ["text"] ["first", "behind", "is_minus", "base", "value"] ?_ ?_ ?_ ?_ ?_ ?_ ?_ ?_ ?_
 walk_at "EN"
theorem enter_backslash {a0 a1 : AV} (body : EB c st X Q pas post ["text", "at", "sign", "known", "behind"] [("hex_sign", .ref 87), ("octal_sign", .ref 94)] [some a0, some a1, none, none, none] 12) : TC c st (.ref 101) [a0, a1] Q X := by
 with_reducible refine EN hmu hhd hroom body "backslash" "backslash" (.str "tclcore.words" 289) (.ref 100) ["text", "at"] ["sign", "known", "behind"] ?_ ?_ ?_ ?_ ?_ ?_ ?_ ?_ ?_
 walk_at "EN"
theorem enter_check_behind {a0 a1 a2 : AV} (body : EB c st X Q pas post ["text", "at", "what", "end"] [("len", .builtin "len"), ("is_blank", .ref 52), ("error", .ref 45)] [some a0, some a1, some a2, none] 14) : TC c st (.ref 108) [a0, a1, a2] Q X := by
 with_reducible refine EN hmu hhd hroom body "check_behind" "check_behind" (.str "tclcore.lists" 325) (.ref 107) ["text", "at", "what"] ["end"] ?_ ?_ ?_ ?_ ?_ ?_ ?_ ?_ ?_
 walk_at "EN"
theorem enter_braced_element {a0 a1 : AV} (body : EB c st X Q pas post ["text", "first", "depth", "at", "c"] [("len", .builtin "len"), ("check_behind", .ref 108), ("error", .ref 45)] [some a0, some a1, none, none, none] 15) : TC c st (.ref 115) [a0, a1] Q X := by
 with_reducible refine EN hmu hhd hroom body "braced_element" "braced_element" (.str "tclcore.lists" 325) (.ref 114) ["text", "first"] ["depth", "at", "c"] ?_ ?_ ?_ ?_ ?_ ?_ ?_ ?_ ?_
 walk_at "EN"
theorem enter_bare_element {a0 a1 : AV} (body : EB c st X Q pas post ["text", "at", "out", "c"] [("len", .builtin "len"), ("is_blank", .ref 52), ("backslash", .ref 101)] [some a0, some a1, none, none] 17) : TC c st (.ref 129) [a0, a1] Q X := by
 with_reducible refine EN hmu hhd hroom body "bare_element" "bare_element" (.str "tclcore.lists" 325) (.ref 128) ["text", "at"] ["out", "c"] ?_ ?_ ?_ ?_ ?_ ?_ ?_ ?_ ?_
 walk_at "EN"
theorem enter_find_element {a0 a1 : AV} (body : EB c st X Q pas post ["text", "at"] [("len", .builtin "len"), ("is_blank", .ref 52), ("braced_element", .ref 115), ("quoted_element", .ref 122), ("bare_element", .ref 129)] [some a0, some a1] 18) : TC c st (.ref 136) [a0, a1] Q X := by
 with_reducible refine EN hmu hhd hroom body "find_element" "find_element" (.str "tclcore.lists" 325) (.ref 135) ["text", "at"] [] ?_ ?_ ?_ ?_ ?_ ?_ ?_ ?_ ?_
 walk_at "EN"
theorem enter_split_list {a0 : AV} (body : EB c st X Q pas post ["text", "items", "found"] [("find_element", .ref 136)] [some a0, none, none] 19) : TC c st (.ref 143) [a0] Q X := by
 with_reducible refine EN hmu hhd hroom body "split_list" "split_list" (.str "tclcore.lists" 325) (.ref 142) ["text"] ["items", "found"] ?_ ?_ ?_ ?_ ?_ ?_ ?_ ?_ ?_
 walk_at "EN"
theorem enter_mode_of {a0 a1 : AV} (body : EB c st X Q pas post ["element", "is_hash", "begins", "is_bound", "is_hashed", "wants_brace", "wants_escape", "depth", "at", "c"] [("len", .builtin "len"), ("is_blank", .ref 52)] [some a0, some a1, none, none, none, none, none, none, none, none] 20) : TC c st (.ref 150) [a0, a1] Q X := by
 with_reducible refine EN hmu hhd hroom body "mode_of" "mode_of" (.str "tclcore.lists" 325) (.ref 149) ["element", "is_hash"] ["begins", "is_bound", "is_hashed", "wants_brace", "wants_escape", "depth", "at", "c"] ?_ ?_ ?_ ?_ ?_ ?_ ?_ ?_ ?_
 walk_at "EN"
theorem enter_escaped {a0 a1 : AV} (body : EB c st X Q pas post ["c", "is_deep", "place"] [] [some a0, some a1, none] 21) : TC c st (.ref 157) [a0, a1] Q X := by
 with_reducible refine EN hmu hhd hroom body "escaped" "escaped" (.str "tclcore.lists" 325) (.ref 156) ["c", "is_deep"] ["place"] ?_ ?_ ?_ ?_ ?_ ?_ ?_ ?_ ?_
 walk_at "EN"
theorem enter_join_list {a0 : AV} (body : EB c st X Q pas post ["items", "out", "item"] [("quote", .ref 165), ("len", .builtin "len")] [some a0, none, none] 23) : TC c st (.ref 172) [a0] Q X := by
 with_reducible refine EN hmu hhd hroom body "join_list" "join_list" (.str "tclcore.lists" 325) (.ref 171) ["items"] ["out", "item"] ?_ ?_ ?_ ?_ ?_ ?_ ?_ ?_ ?_
 walk_at "EN"
theorem enter_code_text {a0 : AV} (body : EB c st X Q pas post ["errorcode"] [("isinstance", .builtin "isinstance"), ("tuple", .type "tuple"), ("join_list", .ref 172)] [some a0] 24) : TC c st (.ref 179) [a0] Q X := by
 with_reducible refine EN hmu hhd hroom body "code_text" "code_text" (.str "tclcore.lists" 325) (.ref 178) ["errorcode"] [] ?_ ?_ ?_ ?_ ?_ ?_ ?_ ?_ ?_
 walk_at "EN"
theorem enter_info_of {a0 : AV} (body : EB c st X Q pas post ["raised"] [] [some a0] 26) : TC c st (.ref 186) [a0] Q X := by
 with_reducible refine EN hmu hhd hroom body "info_of" "info_of" (.str "tclcore.catching" 437) (.ref 185) ["raised"] [] ?_ ?_ ?_ ?_ ?_ ?_ ?_ ?_ ?_
 walk_at "EN"
theorem enter_error_options {a0 : AV} (body : EB c st X Q pas post ["raised", "errorcode", "told"] [("code_text", .ref 179), ("info_of", .ref 186)] [some a0, none, none] 27) : TC c st (.ref 193) [a0] Q X := by
 with_reducible refine EN hmu hhd hroom body "error_options" "error_options" (.str "tclcore.catching" 437) (.ref 192) ["raised"] ["errorcode", "told"] ?_ ?_ ?_ ?_ ?_ ?_ ?_ ?_ ?_
 walk_at "EN"
theorem enter_options_text {a0 : AV} (body : EB c st X Q pas post ["raised", "code", "level", "items", "name", "value"] [("str", .type "str"), ("error_options", .ref 193), ("join_list", .ref 172)] [some a0, none, none, none, none, none] 28) : TC c st (.ref 200) [a0] Q X := by
 with_reducible refine EN hmu hhd hroom body "options_text" "options_text" (.str "tclcore.catching" 437) (.ref 199) ["raised"] ["code", "level", "items", "name", "value"] ?_ ?_ ?_ ?_ ?_ ?_ ?_ ?_ ?_
 walk_at "EN"
theorem enter_code_of {a0 : AV} (body : EB c st X Q pas post ["text", "codes", "code", "why"] [("whole_of", .ref 80), ("error", .ref 45)] [some a0, none, none, none] 29) : TC c st (.ref 207) [a0] Q X := by
 with_reducible refine EN hmu hhd hroom body "code_of" "code_of" (.str "tclcore.catching" 437) (.ref 206) ["text"] ["codes", "code", "why"] ?_ ?_ ?_ ?_ ?_ ?_ ?_ ?_ ?_
 walk_at "EN"
theorem enter_list_or_none {a0 : AV} (body : EB c st X Q pas post ["text"] [("split_list", .ref 143), ("Raised", .ref 33)] [some a0] 30) : TC c st (.ref 214) [a0] Q X := by
 with_reducible refine EN hmu hhd hroom body "list_or_none" "list_or_none" (.str "tclcore.catching" 437) (.ref 213) ["text"] [] ?_ ?_ ?_ ?_ ?_ ?_ ?_ ?_ ?_
 walk_at "EN"
theorem enter_bad_option {a0 a1 a2 a3 : AV} (body : EB c st X Q pas post ["name", "wanted", "text", "word", "why"] [("error", .ref 45)] [some a0, some a1, some a2, some a3, none] 31) : TC c st (.ref 221) [a0, a1, a2, a3] Q X := by
 with_reducible refine EN hmu hhd hroom body "bad_option" "bad_option" (.str "tclcore.catching" 437) (.ref 220) ["name", "wanted", "text", "word"] ["why"] ?_ ?_ ?_ ?_ ?_ ?_ ?_ ?_ ?_
 walk_at "EN"
theorem enter_put_nested {a0 a1 : AV} (body : EB c st X Q pas post ["found", "text", "rest", "items", "at"] [("list_or_none", .ref 214), ("len", .builtin "len"), ("bad_option", .ref 221), ("range", .type "range")] [some a0, some a1, none, none, none] 32) : TC c st (.ref 228) [a0, a1] Q X := by
 with_reducible refine EN hmu hhd hroom body "put_nested" "put_nested" (.str "tclcore.catching" 437) (.ref 227) ["found", "text"] ["rest", "items", "at"] ?_ ?_ ?_ ?_ ?_ ?_ ?_ ?_ ?_
 walk_at "EN"
theorem enter_merged {a0 : AV} (body : EB c st X Q pas post ["options", "found", "name", "value"] [("put_nested", .ref 228)] [some a0, none, none, none] 33) : TC c st (.ref 235) [a0] Q X := by
 with_reducible refine EN hmu hhd hroom body "merged" "merged" (.str "tclcore.catching" 437) (.ref 234) ["options"] ["found", "name", "value"] ?_ ?_ ?_ ?_ ?_ ?_ ?_ ?_ ?_
 walk_at "EN"
theorem enter_level_of {a0 : AV} (body : EB c st X Q pas post ["text", "level"] [("whole_of", .ref 80), ("bad_option", .ref 221)] [some a0, none] 34) : TC c st (.ref 242) [a0] Q X := by
 with_reducible refine EN hmu hhd hroom body "level_of" "level_of" (.str "tclcore.catching" 437) (.ref 241) ["text"] ["level"] ?_ ?_ ?_ ?_ ?_ ?_ ?_ ?_ ?_
 walk_at "EN"
theorem enter_extras_of {a0 a1 : AV} (body : EB c st X Q pas post ["found", "taken", "extra", "name"] [] [some a0, some a1, none, none] 35) : TC c st (.ref 249) [a0, a1] Q X := by
 with_reducible refine EN hmu hhd hroom body "extras_of" "extras_of" (.str "tclcore.catching" 437) (.ref 248) ["found", "taken"] ["extra", "name"] ?_ ?_ ?_ ?_ ?_ ?_ ?_ ?_ ?_
 walk_at "EN"
theorem enter_end_raised {a0 a1 : AV} (body : EB c st X Q pas post ["options", "value", "found", "code", "level", "errorcode", "raised", "taken"] [("merged", .ref 235), ("code_of", .ref 207), ("level_of", .ref 242), ("list_or_none", .ref 214), ("bad_option", .ref 221), ("Raised", .ref 33), ("extras_of", .ref 249)] [some a0, some a1, none, none, none, none, none, none] 36) : TC c st (.ref 256) [a0, a1] Q X := by
 with_reducible refine EN hmu hhd hroom body "end_raised" "end_raised" (.str "tclcore.catching" 437) (.ref 255) ["options", "value"] ["found", "code", "level", "errorcode", "raised", "taken"] ?_ ?_ ?_ ?_ ?_ ?_ ?_ ?_ ?_
 walk_at "EN"
theorem enter_law_take {a0 a1 : AV} (body : EB c st X Q pas post ["pen", "many", "given", "drawn"] [("len", .builtin "len")] [some a0, some a1, none, none] 38) : TC c st (.ref 263) [a0, a1] Q X := by
 with_reducible refine EN hmu hhd hroom body "_law_take" "_law_take" (.str "law_oj0059_01" 548) (.ref 262) ["pen", "many"] ["given", "drawn"] ?_ ?_ ?_ ?_ ?_ ?_ ?_ ?_ ?_
 walk_at "EN"
theorem enter_law_given (body : EB c st X Q pas post [] [] [] 39) : TC c st (.ref 270) [] Q X := by
 with_reducible refine EN hmu hhd hroom body "_law_given" "_law_given" (.str "law_oj0059_01" 548) (.ref 269) [] [] ?_ ?_ ?_ ?_ ?_ ?_ ?_ ?_ ?_
 walk_at "EN"
theorem enter_law_text {a0 : AV} (body : EB c st X Q pas post ["pen", "text", "turn", "which", "point"] [("range", .type "range"), ("_law_take", .ref 263), ("chr", .builtin "chr")] [some a0, none, none, none, none] 40) : TC c st (.ref 277) [a0] Q X := by
 with_reducible refine EN hmu hhd hroom body "_law_text" "_law_text" (.str "law_oj0059_01" 548) (.ref 276) ["pen"] ["text", "turn", "which", "point"] ?_ ?_ ?_ ?_ ?_ ?_ ?_ ?_ ?_
 walk_at "EN"
theorem enter_law_number {a0 : AV} (body : EB c st X Q pas post ["pen", "drawn"] [("_law_take", .ref 263)] [some a0, none] 42) : TC c st (.ref 289) [a0] Q X := by
 with_reducible refine EN hmu hhd hroom body "_law_number" "_law_number" (.str "law_oj0059_01" 548) (.ref 288) ["pen"] ["drawn"] ?_ ?_ ?_ ?_ ?_ ?_ ?_ ?_ ?_
 walk_at "EN"
theorem enter_law_errorcode {a0 : AV} (body : EB c st X Q pas post ["pen", "sort", "items", "coded"] [("_law_take", .ref 263), ("_law_texts", .ref 282), ("join_list", .ref 172), ("tuple", .type "tuple")] [some a0, none, none, none] 43) : TC c st (.ref 296) [a0] Q X := by
 with_reducible refine EN hmu hhd hroom body "_law_errorcode" "_law_errorcode" (.str "law_oj0059_01" 548) (.ref 295) ["pen"] ["sort", "items", "coded"] ?_ ?_ ?_ ?_ ?_ ?_ ?_ ?_ ?_
 walk_at "EN"
theorem enter_law_other {a0 a1 : AV} (body : EB c st X Q pas post ["pen", "is_error", "which", "name"] [("_law_take", .ref 263), ("_law_text", .ref 277), ("join_list", .ref 172), ("_law_texts", .ref 282)] [some a0, some a1, none, none] 44) : TC c st (.ref 303) [a0, a1] Q X := by
 with_reducible refine EN hmu hhd hroom body "_law_other" "_law_other" (.str "law_oj0059_01" 548) (.ref 302) ["pen", "is_error"] ["which", "name"] ?_ ?_ ?_ ?_ ?_ ?_ ?_ ?_ ?_
 walk_at "EN"
theorem enter_law_raised {a0 a1 : AV} (body : EB c st X Q pas post ["raising", "drawn", "code", "value", "coded", "level", "ret", "info", "others", "raised"] [("Raised", .ref 33), ("list", .type "list")] [some a0, some a1, none, none, none, none, none, none, none, none] 46) : TC c st (.ref 315) [a0, a1] Q X := by
 with_reducible refine EN hmu hhd hroom body "_law_raised" "_law_raised" (.str "law_oj0059_01" 548) (.ref 314) ["raising", "drawn"] ["code", "value", "coded", "level", "ret", "info", "others", "raised"] ?_ ?_ ?_ ?_ ?_ ?_ ?_ ?_ ?_
 walk_at "EN"
theorem enter_law_flat {a0 : AV} (body : EB c st X Q pas post ["drawn", "code", "value", "coded", "level", "ret", "info", "others", "flat", "name", "text"] [("str", .type "str")] [some a0, none, none, none, none, none, none, none, none, none, none] 48) : TC c st (.ref 327) [a0] Q X := by
 with_reducible refine EN hmu hhd hroom body "_law_flat" "_law_flat" (.str "law_oj0059_01" 548) (.ref 326) ["drawn"] ["code", "value", "coded", "level", "ret", "info", "others", "flat", "name", "text"] ?_ ?_ ?_ ?_ ?_ ?_ ?_ ?_ ?_
 walk_at "EN"
theorem enter_law_again {a0 : AV} (body : EB c st X Q pas post ["drawn", "code", "value", "coded", "level", "ret", "info", "others"] [("_law_last", .ref 320)] [some a0, none, none, none, none, none, none, none] 49) : TC c st (.ref 334) [a0] Q X := by
 with_reducible refine EN hmu hhd hroom body "_law_again" "_law_again" (.str "law_oj0059_01" 548) (.ref 333) ["drawn"] ["code", "value", "coded", "level", "ret", "info", "others"] ?_ ?_ ?_ ?_ ?_ ?_ ?_ ?_ ?_
 walk_at "EN"
theorem enter_law_fields {a0 : AV} (body : EB c st X Q pas post ["raised"] [] [some a0] 51) : TC c st (.ref 346) [a0] Q X := by
 with_reducible refine EN hmu hhd hroom body "_law_fields" "_law_fields" (.str "law_oj0059_01" 548) (.ref 345) ["raised"] [] ?_ ?_ ?_ ?_ ?_ ?_ ?_ ?_ ?_
 walk_at "EN"
theorem enter_law_refusal {a0 : AV} (body : EB c st X Q pas post ["options", "fault"] [("end_raised", .ref 256), ("Raised", .ref 33)] [some a0, none] 52) : TC c st (.ref 353) [a0] Q X := by
 with_reducible refine EN hmu hhd hroom body "_law_refusal" "_law_refusal" (.str "law_oj0059_01" 548) (.ref 352) ["options"] ["fault"] ?_ ?_ ?_ ?_ ?_ ?_ ?_ ?_ ?_
 walk_at "EN"
theorem enter_law_bad {a0 a1 a2 a3 : AV} (body : EB c st X Q pas post ["what", "sought", "text", "mark"] [] [some a0, some a1, some a2, some a3] 53) : TC c st (.ref 360) [a0, a1, a2, a3] Q X := by
 with_reducible refine EN hmu hhd hroom body "_law_bad" "_law_bad" (.str "law_oj0059_01" 548) (.ref 359) ["what", "sought", "text", "mark"] [] ?_ ?_ ?_ ?_ ?_ ?_ ?_ ?_ ?_
 walk_at "EN"
theorem enter_law_refused {a0 a1 a2 : AV} (body : EB c st X Q pas post ["text", "flat", "which", "odd", "within", "bad", "wrong", "why", "due"] [("join_list", .ref 172), ("_law_refusal", .ref 353), ("_law_bad", .ref 360)] [some a0, some a1, some a2, none, none, none, none, none, none] 54) : TC c st (.ref 367) [a0, a1, a2] Q X := by
 with_reducible refine EN hmu hhd hroom body "_law_refused" "_law_refused" (.str "law_oj0059_01" 548) (.ref 366) ["text", "flat", "which"] ["odd", "within", "bad", "wrong", "why", "due"] ?_ ?_ ?_ ?_ ?_ ?_ ?_ ?_ ?_
 walk_at "EN"
theorem enter_law {a0 : AV} (body : EB c st X Q pas post ["script", "turn", "given"] [("options_text", .ref 200), ("end_raised", .ref 256), ("enumerate", .type "enumerate"), ("_law_given", .ref 270), ("_law_is_right", .ref 372), ("sum", .builtin "sum")] [some a0, none, none] 56) : TC c st (.ref 379) [a0] Q X := by
 with_reducible refine EN hmu hhd hroom body "law" "law" (.str "law_oj0059_01" 548) (.ref 378) ["script"] ["turn", "given"] ?_ ?_ ?_ ?_ ?_ ?_ ?_ ?_ ?_
 walk_at "EN"
end
end
section
noncomputable def scOkC (K : Frag) (sc : Scope) (vars : List Str) (globs : List (Str × Value)) (cv : List Str) : Bool :=
 sc.kind == .function && !sc.isCoroutine && !sc.isGenerator && vars.all (fun x => sc.names.lookup x == some (if cv.contains x then .cell else .local)) && decide vars.Nodup && globs.all (globOk K sc) &&
  sc.names.lookup ("__debug__" : Str) == none && sc.names.lookup ("__classdict__" : Str) == none
theorem cellsFrom_keep : ∀ (names : List (Str × NameKind)) (n : Nat) (acc : List (Str × Addr)) (x : Str), (acc.lookup x).isSome = true → ((cellsFrom n names acc).lookup x).isSome = true
 | [], _, _, _, h => h
 | (y, k) :: r, n, acc, x, h => by
  unfold cellsFrom
  split
  ·refine cellsFrom_keep r _ _ x ?_
   rw [List.lookup_cons]
   split
   ·rfl
   ·exact h
  ·exact cellsFrom_keep r _ _ x h
theorem cellsFrom_has : ∀ (names : List (Str × NameKind)) (n : Nat) (acc : List (Str × Addr)) (x : Str), (x, NameKind.cell) ∈ names → ((cellsFrom n names acc).lookup x).isSome = true
 | (y, k) :: r, n, acc, x, h => by
  unfold cellsFrom
  rcases List.mem_cons.mp h with e | h
  ·cases e
   rw [if_pos (by decide)]
   exact cellsFrom_keep r _ _ _ (by simp [List.lookup_cons])
  ·split
   ·exact cellsFrom_has r _ _ x h
   ·exact cellsFrom_has r _ _ x h
theorem bindL_stay (kd : Str → Option NameKind) : ∀ (ps : List Str) (ws : List Value) (m : Str → Option Value) (x : Str), x ∉ ps → bindL kd (ps.zip ws) m x = m x
 | [], _, _, _, _ => rfl
 | _ :: _, [], _, _, _ => rfl
 | p :: ps, w :: ws, m, x, h => by
  rw [List.zip_cons_cons, bindL, bindL_stay kd ps ws _ x fun q => h (.tail _ q)]
  split
  ·exact if_neg fun (e : x = p) => h (by rw [e]; exact .head _)
  ·rfl
theorem bindC_stay (kd : Str → Option NameKind) : ∀ (ps : List Str) (ws : List Value) (m : Str → Option Value) (x : Str), x ∉ ps → bindC kd (ps.zip ws) m x = m x
 | [], _, _, _, _ => rfl
 | _ :: _, [], _, _, _ => rfl
 | p :: ps, w :: ws, m, x, h => by
  rw [List.zip_cons_cons, bindC, bindC_stay kd ps ws _ x fun q => h (.tail _ q)]
  split
  ·rfl
  ·exact if_neg fun (e : x = p) => h (by rw [e]; exact .head _)
theorem bindL_at (kd : Str → Option NameKind) : ∀ (ps : List Str) (ws : List Value) (m : Str → Option Value) (i : Nat) (x : Str) (v : Value), ps.Nodup → ps[i]? = some x → ws[i]? = some v → kd x = some .local → bindL kd (ps.zip ws) m x = some v
 | p :: ps, w :: ws, m, 0, x, v, nd, h1, h2, hk => by
  simp at h1 h2
  subst h1 h2
  rw [List.zip_cons_cons, bindL, bindL_stay kd ps ws _ p (List.nodup_cons.mp nd).1, if_pos hk, if_pos rfl]
 | p :: ps, w :: ws, m, i + 1, x, v, nd, h1, h2, hk => by
  rw [List.zip_cons_cons, bindL]
  exact bindL_at kd ps ws _ i x v (List.nodup_cons.mp nd).2 (by simpa using h1) (by simpa using h2) hk
theorem bindC_at (kd : Str → Option NameKind) : ∀ (ps : List Str) (ws : List Value) (m : Str → Option Value) (i : Nat) (x : Str) (v : Value), ps.Nodup → ps[i]? = some x → ws[i]? = some v → kd x = some .cell → bindC kd (ps.zip ws) m x = some v
 | p :: ps, w :: ws, m, 0, x, v, nd, h1, h2, hk => by
  simp at h1 h2
  subst h1 h2
  rw [List.zip_cons_cons, bindC, bindC_stay kd ps ws _ p (List.nodup_cons.mp nd).1, if_neg (by rw [hk]; decide), if_pos rfl]
 | p :: ps, w :: ws, m, i + 1, x, v, nd, h1, h2, hk => by
  rw [List.zip_cons_cons, bindC]
  exact bindC_at kd ps ws _ i x v (List.nodup_cons.mp nd).2 (by simpa using h1) (by simpa using h2) hk
section
variable {c : Cx} {st : St} {X : Flds → List (Option AV) → Prop}
noncomputable def cellOwnL (L : Addr) (cs : List (Str × Addr)) : List Addr := L :: cs.filterMap fun p => cs.lookup p.1
theorem cellOwnL_mem {L : Addr} {cs : List (Str × Addr)} {x : Str} {ca : Addr} (h : cs.lookup x = some ca) : ca ∈ cellOwnL L cs :=
 .tail _ (List.mem_filterMap.mpr (i11 (x, ca) (mem_of_lookup h) h))
theorem cellOwnL_inv {L a : Addr} {cs : List (Str × Addr)} (h : a ∈ cellOwnL L cs) : a = L ∨ ∃ x, cs.lookup x = some a := by
 rcases List.mem_cons.mp h with h | h
 ·exact .inl h
 ·refine o11 (List.mem_filterMap.mp h) fun p _ h2 => ?_
  exact .inr ⟨_, h2⟩
theorem Rel.enterC {pre pas post : List (Addr × AO)} {loc loc0 : List (Option AV)} {fd : FuncData} {fa : Addr} {vars : List Str} {globs : List (Str × Value)} {cv : List Str} {s s₁ : Shared} {m cm : Str → Option Value} {env : Env}
  (henv : env = callEnvC fd s.heap.objs.size fa) (r : Rel c ⟨loc, pre ++ pas ++ post⟩ s) (hhd : c.hd = false) (hroom : 1 ≤ c.room) (hsc : scOkC (KF c.w.params) fd.scope vars globs cv = true) (hg : fd.globals = mainGlobals ∧ fd.builtins = builtinsNs)
  (ic : InCallC s env.locals m env.cells cm s₁)
  (hm : ∀ (i : Nat) x a, vars[i]? = some x → loc0[i]? = some (some a) → ∃ v, (if cv.contains x then cm x else m x) = some v ∧ RV (fz c ⟨loc, pre ++ pas ++ post⟩ s.heap) a v) :
  Rel (c.callee (c.A.deeper env) env vars globs (cellOwnL env.locals env.cells) (madd pre ++ madd post) cv) ⟨loc0, pas⟩ s₁ := by
 unfold scOkC at hsc
 simp only [Bool.and_eq_true, beq_iff_eq, Bool.not_eq_true', List.all_eq_true, decide_eq_true_eq, bne_iff_ne] at hsc
 refine o01 hsc fun zz1 hcd => ?_
 try clear hsc
 refine o01 zz1 fun zz2 hdb => ?_
 clear zz1
 refine o01 zz2 fun zz3 hgl => ?_
 clear zz2
 refine o01 zz3 fun zz4 hnd => ?_
 clear zz3
 refine o01 zz4 fun zz5 hvars => ?_
 clear zz4
 refine o01 zz5 fun zz6 hgen => ?_
 clear zz5
 refine o01 zz6 fun hkind hco => ?_
 clear zz6
 have hL : env.locals = s.heap.objs.size := by rw [henv]; rfl
 have hkd : ∀ x, env.kindOf x = fd.scope.names.lookup x := fun x => by rw [henv]; rfl
 have hcells : env.cells = cellsFrom (s.heap.objs.size + 1) fd.scope.names [] := by rw [henv]; rfl
 obtain ⟨⟨h₁, tk, rfl⟩, hn, hk, _⟩ := ic.toInCall
 have icell := ic.cell
 have iapart := ic.apart
 have iabove := ic.above
 dsimp only at hn hk icell
 have newA : ∀ {h : Heap}, h.StaysIn s.heap → ∀ a, s.heap.objs.size ≤ a → h.get? a = Option.none := fun {h} k a ha => by
  cases q : h.get? a with
  | none => rfl
  | some o => exact absurd (Heap.lt_size (k _ _ q)) (Nat.not_lt.mpr ha)
 have big : ∀ a ∈ cellOwnL env.locals env.cells, s.heap.objs.size ≤ a := fun a ha => by
  rcases cellOwnL_inv ha with rfl | ⟨x, hx⟩
  ·rw [hL]; exact Nat.le_refl _
  ·have := iabove _ _ (mem_of_lookup hx)
   rw [hL] at this; exact Nat.le_of_lt this
 have newS : ∀ a ∈ cellOwnL env.locals env.cells, s.heap.get? a = Option.none := fun a ha => newA (fun _ _ e => e) a (big a ha)
 have oldNot : ∀ a, (s.heap.get? a).isSome = true → a ∉ cellOwnL env.locals env.cells := fun a h q => by rw [newS a q] at h; cases h
 have nm : ∀ a ∈ madd (pre ++ pas ++ post), a ∉ cellOwnL env.locals env.cells := fun a ha => oldNot a (r.apart a ha).2.2.2.2
 have old : ∀ a, a ∈ c.own ∨ a ∈ c.ctl ∨ a ∈ c.priv → a ∉ cellOwnL env.locals env.cells := fun a h => oldNot a (r.live a h)
 have fzs : (fz c ⟨loc, pre ++ pas ++ post⟩ s.heap).StaysIn (fz (c.callee (c.A.deeper env) env vars globs (cellOwnL env.locals env.cells) (madd pre ++ madd post) cv) ⟨loc0, pas⟩ h₁) := fun b o e => by
  refine o04 (fz_iff.mp e) fun e h1 h2 h3 h4 => ?_
  simp only [madd_append, List.mem_append, not_or] at h4
  refine fz_iff.mpr (i04 (hk b o e) (oldNot b (by rw [e]; rfl)) ?_ ?_ h4.1.2)
  ·simp only [Cx.callee, List.mem_append, not_or]; exact ⟨h1, h2⟩
  ·simp only [Cx.callee, List.mem_append, not_or]; exact i02 h3 h4.1.1 h4.2
 have hpas : ∀ a ∈ madd pas, a ∈ madd (pre ++ pas ++ post) := fun a h => by simp only [madd_append, List.mem_append]; exact .inl (.inr h)
 have nd := r.nodup
 simp only [madd_append] at nd
 refine o02 (List.nodup_append.mp nd) fun nd1 ndp nd2 => ?_
 refine o02 (List.nodup_append.mp nd1) fun nda ndb nd3 => ?_
 have liveOwn : ∀ a ∈ cellOwnL env.locals env.cells, (h₁.get? a).isSome = true := fun a ha => by
  rcases cellOwnL_inv ha with rfl | ⟨x, hx⟩
  ·refine o31 hn fun o es ep ho _ => ?_
   try clear hn; rw [ho]; rfl
  ·refine o11 (icell _ _ hx) fun o ho _ => ?_; rw [ho]; rfl
 refine ⟨?_, fun b o e => hk b o (r.stay b o e), ?_, fun a h => ?_, ⟨m, hn⟩, fun x ca h => ⟨_, icell x ca h⟩, fun i x a h1 h2 => ?_, fun p hp => ?_, ndb, fun a ha => ?_⟩
 ·refine { base := r.ok.base, nodup := hnd, kinds := fun x hx => ?_, locs := fun x hx h _ => ?_, cellsAt := fun x hx h => ?_, fn := ?_, glob := ?_, globs := fun p hp => ?_, dbg := ?_, loc := .head _, locBase := ?_, cellIn := fun x ca h => .inl (cellOwnL_mem h), cellOwn := fun x ca h _ _ => cellOwnL_mem h, cellNe := fun x ca h => ?_, cellInj := fun x y ca h h' => ?_, ownCtl := fun a ha => ?_, ownBase := fun a ha => newA r.stay a (big a ha), ctlBase := fun a ha => ?_, privBase := fun a ha => ?_, handled := fun _ => r.ok.handled hhd, stack := ?_, frIn := ?_, depth := ?_, units := ?_ }
  ·have := hvars x hx
   show env.kindOf x = _ ∨ env.kindOf x = _ ∨ _
   rw [hkd, this]
   cases cv.contains x
   ·exact .inl rfl
   ·exact .inr (.inl rfl)
  ·have := hvars x hx
   show env.kindOf x = _
   rw [hkd, this]
   have hc : cv.contains x = false := by
    rw [Bool.eq_false_iff]
    intro q
    exact h (by show x ∈ cv; simpa using q)
   rw [hc]; rfl
  ·show (env.cells.lookup x).isSome = true
   rw [hcells]
   have h : env.kindOf x = some .cell := h
   rw [hkd] at h
   exact cellsFrom_has _ _ _ _ (mem_of_lookup h)
  ·show env.scope.kind = .function
   rw [henv]; exact hkind
  ·show env.globals = _ ∧ env.builtins = _
   rw [henv]; exact hg
  ·show env.kindOf p.1 = _ ∧ _
   rw [hkd]
   exact glob_is r.ok.base (hgl p hp)
  ·show env.kindOf _ = Option.none ∧ env.kindOf _ = Option.none
   rw [hkd, hkd]; exact ⟨hdb, hcd⟩
  ·exact newA r.stay _ (by show s.heap.objs.size ≤ env.locals; rw [hL]; exact Nat.le_refl _)
  ·have := iabove _ _ (mem_of_lookup h)
   exact fun e => Nat.lt_irrefl _ (by rw [e] at this; exact this)
  ·exact name_of_addr iapart (mem_of_lookup h) (mem_of_lookup h')
  ·simp only [Cx.callee, List.mem_append, not_or]
   exact i03 ⟨fun h => old _ (.inl h) ha, fun h => old _ (.inr (.inl h)) ha⟩ (fun h => old _ (.inr (.inr h)) ha) (fun h => nm _ (by simp only [madd_append, List.mem_append]; exact .inl (.inl h)) ha) (fun h => nm _ (by simp only [madd_append, List.mem_append]; exact .inr h) ha)
  ·rcases List.mem_append.mp ha with h | h
   ·exact r.ok.ownBase a h
   ·exact r.ok.ctlBase a h
  ·rcases List.mem_append.mp ha with h | h
   ·exact r.ok.privBase a h
   ·exact (r.apart a (by simp only [madd_append, List.mem_append]; exact (List.mem_append.mp h).elim (fun z => .inl (.inl z)) .inr)).2.2.2.1
  ·exact Around.frames_deeper r.ok.stack
  ·intro e he L hLe
   rcases List.mem_cons.mp he with rfl | he
   ·left
    have : e.locals = L := by rw [henv] at hLe ⊢; simpa [callEnvC, newEnv] using hLe
    rw [← this]; exact .head _
   ·right
    exact List.mem_append.mpr (r.ok.frIn e he L hLe)
  ·have := r.ok.depth
   simp only [Cx.callee, Around.deeper]
   exact dr1 hroom this
  ·have := r.ok.units
   simp only [Cx.callee, Around.deeper]
   exact dr8 hroom this
 ·refine o32 hn fun oN es ep hoN hdN rN => ?_
  try clear hn
  refine ⟨?_, (i23 env.locals oN (by rw [henv]; rfl) (newA r.stay env.locals (by rw [hL]; exact Nat.le_refl _)) hoN (fun vs q => by rw [hdN] at q; cases q)), ?_⟩
  ·show env.scope.kind ≠ .module
   rw [henv]
   show fd.scope.kind ≠ .module
   rw [hkind]; decide
  ·exact r.ff.of_keeps fun b o e _ => i11 o (hk b o e) rfl
 ·simp only [Cx.callee, List.mem_append] at h
  show (h₁.get? a).isSome = true
  have up : ∀ a, (s.heap.get? a).isSome = true → (h₁.get? a).isSome = true := fun a h => by
   refine o10 (Option.isSome_iff_exists.mp h) fun o ho => ?_
   rw [hk a o ho]; rfl
  rcases h with h | (h | h) | (h | h | h)
  ·exact liveOwn a h
  ·exact up a (r.live a (.inl h))
  ·exact up a (r.live a (.inr (.inl h)))
  ·exact up a (r.live a (.inr (.inr h)))
  ·exact up a (r.apart a (by simp only [madd_append, List.mem_append]; exact .inl (.inl h))).2.2.2.2
  ·exact up a (r.apart a (by simp only [madd_append, List.mem_append]; exact .inr h)).2.2.2.2
 ·refine o11 (hm i x a h1 h2) fun v e q => ?_
  refine i11 v ?_ (q.keeps fzs)
  have hv := hvars x (List.mem_of_getElem? h1)
  cases hc : cv.contains x with
  | false =>
   rw [hc] at hv e
   exact .inl ⟨(hkd x).trans hv, m, hn, e⟩
  | true =>
   rw [hc] at hv e
   refine o10 (Option.isSome_iff_exists.mp (show (env.cells.lookup x).isSome = true by rw [hcells]; exact cellsFrom_has _ _ _ _ (mem_of_lookup hv))) fun ca hca => ?_
   have e' : cm x = some v := e
   exact .inr ⟨.inl ((hkd x).trans hv), ca, hca, e' ▸ icell x ca hca⟩
 ·exact (r.muts p (by simp only [List.mem_append]; exact .inl (.inr hp))).lift fzs fun x _ o e => hk x o e
 ·refine o04 (r.apart a (hpas a ha)) fun h1 h2 h3 h4 h5 => ?_
  refine o10 (Option.isSome_iff_exists.mp h5) fun o ho => ?_
  refine i04 (nm a (hpas a ha)) ?_ ?_ h4 (by show (h₁.get? a).isSome = true; rw [hk a o ho]; rfl)
  ·simp only [Cx.callee, List.mem_append, not_or]; exact ⟨h1, h2⟩
  ·simp only [Cx.callee, List.mem_append, not_or]
   exact i02 h3 (fun q => nd3 a q a ha rfl) (fun q => nd2 a (List.mem_append_right _ ha) a q rfl)
theorem TC_defC {pre pas post : List (Addr × AO)} {loc0 : List (Option AV)} {vars ps : List Str} {globs : List (Str × Value)} {cv : List Str} {as : List AV} {nm qual : Str} {f : Arguments × List Stmt × Scope} {fa : Addr} {pm cd : Value} {Q : AV → St → Prop}
  (hK : ∀ P, (KF P).lookup fa = some (fnO nm qual f .none pm cd)) (hcd : ∀ P, codeIn (KF P) cd qual = true) (hsc : ∀ P, scOkC (KF P) f.2.2 vars globs cv = true) (hhd : c.hd = false) (hroom : 1 ≤ c.room) (hmu : st.mu = pre ++ pas ++ post)
  (h4 : f.1 = ⟨[], f.1.args, none, [], [], none, []⟩) (h5 : f.1.args.map (·.arg) = ps) (hnd : ps.Nodup)
  (hps : ∃ xs, vars = ps ++ xs ∧ loc0 = as.map some ++ xs.map fun _ => none) (hl : ps.length = as.length)
  (body : ∀ o : Other, o.w = c.w → (mkCx vars globs (c.room - 1) o cv).Fn → o.env.scope = f.2.2 → TL (mkCx vars globs (c.room - 1) o cv) ⟨loc0, pas⟩ f.2.1 (RetQ fun a st' => Q a ⟨st.loc, pre ++ st'.mu ++ post⟩) (fun fs _ => X fs st.loc)) :
  TC c st (.ref fa) as Q X := by
 intro s vs r hv
 obtain ⟨stl, stm⟩ := st
 dsimp only at hmu
 subst hmu
 have hsc' := hsc c.w.params
 have hs := hsc'
 unfold scOkC at hs
 simp only [Bool.and_eq_true, beq_iff_eq, Bool.not_eq_true', List.all_eq_true, decide_eq_true_eq, bne_iff_ne] at hs
 refine o01 hs fun zz1 hcdb => ?_
 try clear hs
 refine o01 zz1 fun zz2 hdb => ?_
 clear zz1
 refine o01 zz2 fun zz3 hgl => ?_
 clear zz2
 refine o01 zz3 fun zz4 hnd' => ?_
 clear zz3
 refine o01 zz4 fun zz5 hvars => ?_
 clear zz4
 refine o01 zz5 fun zz6 hgen => ?_
 clear zz5
 refine o01 zz6 fun hkind hco => ?_
 clear zz6
 refine o11 hps fun xs hv1 hl0 => ?_
 try clear hps
 have hB := r.ok.base
 have hget := r.stay _ _ (hB.K _ _ (hK c.w.params))
 have hwl : vs.length = ps.length := by rw [hv.length, hl]
 have hbd : bindArgs (fdO nm qual f .none pm cd) ⟨vs, []⟩ = pure (ps.zip vs) := by
  have := bind_plain (fd := fdO nm qual f .none pm cd) (args := f.1.args) (vs := vs) h4 rfl (by rw [h5]; exact hnd) (by rw [hwl, ← h5, List.length_map])
  rw [h5] at this
  exact this
 have hpsv : ∀ x ∈ ps, f.2.2.names.lookup x = some (if cv.contains x then .cell else .local) := fun x hx => hvars x (by rw [hv1]; exact List.mem_append_left _ hx)
 refine wpAny_call (codeAny_call_cells (fd := fdO nm qual f .none pm cd) (body := f.2.1) (binds := ps.zip vs) (by have := r.ok.depth; show c.A.depth < 1000; exact fg (.lt (.v 0) (.c 1000)) [.lt (.a (.v 0) (.v 1)) (.c 800)] [1,1] [0,1] rfl [_,_] [] this) hget rfl (hB.nolimit.keeps r.stay) (codeRec_of (hB.K.keeps r.stay) (hcd c.w.params)) rfl hbd rfl
  (fun x hx => ?_) (fun s₁ ic => ?_) hco hgen hkind)
 ·have := hpsv x.1 (List.of_mem_zip hx).1
  cases hc : cv.contains x.1 with
  | false => rw [hc] at this; exact .inl this
  | true =>
   rw [hc] at this
   exact .inr ⟨this, cellsFrom_has _ _ _ _ (mem_of_lookup this)⟩
 generalize henv : callEnvC (fdO nm qual f .none pm cd) s.heap.objs.size fa = env at *
 have hkd : ∀ x, env.kindOf x = f.2.2.names.lookup x := fun x => by rw [← henv]; rfl
 have hLe : env.locals = s.heap.objs.size := by rw [← henv]; rfl
 have hR := Rel.enterC (fd := fdO nm qual f .none pm cd) (fa := fa) (loc0 := loc0) (vars := vars) (globs := globs) (cv := cv) henv.symm r hhd hroom hsc' ⟨rfl, rfl⟩ ic fun i x a h1 h2 => by
  have hi : i < as.length := by
   rcases Nat.lt_or_ge i as.length with q | q
   ·exact q
   ·rw [hl0, List.getElem?_append_right (by simpa using q)] at h2
    simp at h2
  rw [hl0, List.getElem?_append_left (by simpa using hi), List.getElem?_map] at h2
  rw [hv1, List.getElem?_append_left (by exact fg (.lt (.v 2) (.v 0)) [.qe (.v 0) (.v 1),.lt (.v 2) (.v 1)] [1,1,1] [] rfl [_,_,_] [] hl hi)] at h1
  refine o11 (hv.at i (a := a) (by
   cases q : as[i]? with
   | none => rw [q] at h2; cases h2
   | some y => rw [q] at h2; simpa using h2)) fun v hv2 hrv => ?_
  refine i11 v ?_ hrv
  have hk := hpsv x (List.mem_of_getElem? h1)
  cases hc : cv.contains x with
  | false =>
   rw [hc] at hk
   exact bindL_at _ ps vs _ i x v hnd h1 hv2 ((hkd x).trans hk)
  | true =>
   rw [hc] at hk
   exact bindC_at _ ps vs _ i x v hnd h1 hv2 ((hkd x).trans hk)
 have hFn : Cx.Fn (c.callee (c.A.deeper env) env vars globs (cellOwnL env.locals env.cells) (madd pre ++ madd post) cv) := ⟨⟨_, rfl⟩, by show env.frame = some env.locals; rw [← henv]; rfl⟩
 have hb2 := body ⟨c.w, c.A.deeper env, env, env :: c.frames, c.base, cellOwnL env.locals env.cells, c.own ++ c.ctl, c.priv ++ (madd pre ++ madd post)⟩ rfl hFn (by rw [← henv]; rfl) _ hR
 obtain ⟨⟨h₁, tk, hs1⟩, hn1, hk1, hfr1⟩ := ic.toInCall
 have hown : ∀ a ∈ cellOwnL env.locals env.cells, s.heap.get? a = none := fun a ha => by
  have big : s.heap.objs.size ≤ a := by
   rcases cellOwnL_inv ha with rfl | ⟨x, hx⟩
   ·rw [hLe]; exact Nat.le_refl _
   ·have := ic.above _ _ (mem_of_lookup hx)
    rw [hLe] at this; exact Nat.le_of_lt this
  cases q : s.heap.get? a with
  | none => rfl
  | some o => exact absurd (Heap.lt_size q) (Nat.not_lt.mpr big)
 have hrest : s₁.gens = s.gens ∧ s₁.os = s.os := by rw [hs1]; exact ⟨rfl, rfl⟩
 refine wpAny_mono hb2 (fun fl s' zm1 => o23 zm1 fun af st' q r' t' v' => ?_) fun ev s' zm0 => o54 zm0 fun e dx fs tb loc' he hx hfl r' t' => ?_
 ·refine o02 (Rel.back (s1 := s₁) r hk1 hrest hown rfl r' t') fun b1 b2 b3 => ?_
  cases af with
  | ret a =>
   refine o11 v' fun v zz1 hv => ?_
   try clear v'
   subst zz1
   exact ⟨a, _, q, b1, b2, hv.keeps b3⟩
  | next =>
   obtain rfl : fl = .next := v'
   exact ⟨_, _, q, b1, b2, .of_none⟩
  | brk => exact q.elim
  | cont => exact q.elim
 ·subst he
  refine leave r' hFn hfl fun T s'' r'' t'' => ?_
  refine o02 (Rel.back (s1 := s₁) r hk1 hrest hown rfl r'' (t'.trans t'')) fun b1 b2 b3 => ?_
  refine o01 (b1.sub (mu' := [(e, .inst dx fs (some (T, .none)))]) (fun p hp => by
   obtain rfl := List.mem_singleton.mp hp
   simp) (nodup_mid b1.nodup)) fun d1 d2 => ?_
  exact ⟨e, dx, fs, some (T, .none), _, rfl, hx, Or.inl rfl, d1, b2.trans d2⟩
end
end
section
theorem closeFor_names (env : Env) : ∀ (names : List (Str × NameKind)) (acc : List (Str × Addr)), (∀ p ∈ names, p.2 = .free → (env.cells.lookup p.1).isSome = true) →
  ∃ cl, (forIn names acc (fun (x : Str × NameKind) cs => if (x.2 == NameKind.free) = true then (do let a ← cellOf env x.1; pure (ForInStep.yield ((x.1, a) :: cs))) else pure (ForInStep.yield cs)) : Sem (List (Str × Addr))) = pure cl ∧
   (∀ n ca, cl.lookup n = some ca → acc.lookup n = some ca ∨ (env.cells.lookup n = some ca ∧ (n, NameKind.free) ∈ names)) ∧ (∀ n, (acc.lookup n).isSome = true → (cl.lookup n).isSome = true) ∧ (∀ p ∈ names, p.2 = .free → (cl.lookup p.1).isSome = true)
 | [], acc, _ => i13 acc rfl (fun _ _ h => .inl h) (fun _ h => h) (fun _ h => nomatch h)
 | (y, k) :: r, acc, h => by
  rw [List.forIn_cons]
  by_cases hk : k = .free
  ·subst hk
   refine o10 (Option.isSome_iff_exists.mp (h (y, .free) (.head _) rfl)) fun ca hca => ?_
   have e1 : cellOf env y = pure ca := by unfold cellOf; rw [hca]
   dsimp only
   rw [if_pos (by decide), e1]
   simp only [pure_bind]
   refine o13 (closeFor_names env r ((y, ca) :: acc) fun p hp => h p (.tail _ hp)) fun cl h1 h2 h3 h4 => ?_
   refine i13 cl h1 (fun n ca' hl => ?_) (fun n hn => h3 n ?_) (fun p hp hf => ?_)
   ·rcases h2 n ca' hl with q | ⟨q, m⟩
    ·rw [List.lookup_cons] at q
     split at q
     ·rename_i e
      cases q
      have : n = y := by simpa using e
      subst this
      exact .inr ⟨hca, .head _⟩
     ·exact .inl q
    ·exact .inr ⟨q, .tail _ m⟩
   ·rw [List.lookup_cons]
    split
    ·rfl
    ·exact hn
   ·rcases List.mem_cons.mp hp with rfl | hp
    ·exact h3 _ (by simp)
    ·exact h4 p hp hf
  ·have e0 : (k == NameKind.free) = false := by simpa using hk
   dsimp only
   rw [e0, if_neg (by decide)]
   simp only [pure_bind]
   refine o13 (closeFor_names env r acc fun p hp => h p (.tail _ hp)) fun cl h1 h2 h3 h4 => ?_
   refine i13 cl h1 (fun n ca hl => (h2 n ca hl).imp id fun q => ⟨q.1, .tail _ q.2⟩) h3 (fun p hp hf => ?_)
   rcases List.mem_cons.mp hp with rfl | hp
   ·exact absurd hf hk
   ·exact h4 p hp hf
theorem closeFor {scope : Scope} {env : Env} (h : ∀ p ∈ scope.names, p.2 = .free → (env.cells.lookup p.1).isSome = true) :
  ∃ cl, closureFor scope env = pure cl ∧ (∀ n ca, cl.lookup n = some ca → env.cells.lookup n = some ca ∧ (n, NameKind.free) ∈ scope.names) ∧ (∀ p ∈ scope.names, p.2 = .free → (cl.lookup p.1).isSome = true) := by
 refine o13 (closeFor_names env scope.names [] h) fun cl h1 h2 h3 h4 => ?_
 refine i12 cl ?_ (fun n ca hl => (h2 n ca hl).resolve_left (by simp)) h4
 unfold closureFor
 rw [← h1]
 simp only [bind_pure]
theorem IterAt.self {w : World} {A : Around} {G : Heap} {s : Shared} {it : Addr} {xs : List PyData} {W : Value → Shared → Prop} {E : Value → Shared → Prop} (h : IterAt w G s.heap it xs) (k : W (.ref it) s) : wpAny (model pw w) A (pyIter (.ref it)) W E s := by
 cases h with
 | list a b c d e => exact wpAny_pyIter_listiter a k
 | tuple a b c d e => exact wpAny_pyIter_tupleiter a k
 | @str y t i a =>
  have e : strIterType y = "str_ascii_iterator" ∨ strIterType y = "str_iterator" := by unfold strIterType; split <;> simp
  rcases e with e | e
  ·rw [e] at a; exact wpAny_pyIter_striter_ascii a k
  ·rw [e] at a; exact wpAny_pyIter_striter_wide a k
 | range a => exact wpAny_pyIter_rangeiter a k
 | keys a b c => exact wpAny_pyIter_keyiter a k
theorem wp_newComp {M : Model} {A : Around} {E : Value → Shared → Prop} {s : Shared} {scope : Scope} {globals : Addr} {cl : List (Str × Addr)} {qual : Str} {env : Env} {Q : Env → Shared → Prop}
  (h : Q (newEnv scope s.heap.objs.size globals (cellsFrom (s.heap.objs.size + 1) scope.names cl) qual none .none (some env) builtinsNs) { s with heap := pushCells (s.heap.push { cls := .type "dict", data := .dict #[] }) scope.names }) :
  wpAny M A (newFunctionEnv scope globals cl [] qual none .none (some env)) Q E s := by
 simp only [newFunctionEnv, Option.isSome_some, if_true]
 refine wpAny_bind (wpAny_alloc ?_)
 refine wpAny_bind (wpAny_layCells _ (fun name kind cells => by cases hkc : kind == NameKind.cell <;> simp [hkc]) _ _ _ _ ?_)
 rw [show ({ s with heap := s.heap.push { cls := .type "dict", data := .dict #[] } } : Shared).heap.objs.size = s.heap.objs.size + 1 from Heap.size_push ..]
 exact wpAny_bind (wpAny_pure (wpAny_pure h))
theorem cellsFrom_filter : ∀ (names : List (Str × NameKind)) (n : Nat) (acc : List (Str × Addr)), cellsFrom n names acc = cellsFrom n (names.filter (·.2 == .cell)) acc
 | [], _, _ => rfl
 | (y, k) :: r, n, acc => by
  rw [cellsFrom]
  by_cases hk : (k == NameKind.cell) = true
  ·rw [List.filter_cons_of_pos (by exact hk), if_pos hk, cellsFrom_filter r, cellsFrom, if_pos hk]
  ·rw [List.filter_cons_of_neg (by exact hk), if_neg hk, cellsFrom_filter r]
theorem pushCells_filter : ∀ (names : List (Str × NameKind)) (h : Heap), pushCells h names = pushCells h (names.filter (·.2 == .cell))
 | [], _ => rfl
 | (y, k) :: r, h => by
  rw [pushCells]
  by_cases hk : (k == NameKind.cell) = true
  ·rw [List.filter_cons_of_pos (by exact hk), if_pos hk, pushCells_filter r, pushCells, if_pos hk]
  ·rw [List.filter_cons_of_neg (by exact hk), if_neg hk, pushCells_filter r]
noncomputable def relabelS (scope sc : Scope) : Scope := { scope with names := scope.names.map fun (n, k) => if (k == .free && sc.kind == .function && sc.names.lookup n == some .cell) then (n, .cell) else (n, k) }
theorem relabel_eq (scope : Scope) (env : Env) : relabel scope env = relabelS scope env.scope := rfl
noncomputable def compOk (scope sc : Scope) (x : Str) (xc : Bool) (fv : List Str) (globs : List (Str × Value)) : Bool :=
 scope.kind == .function && (relabelS scope sc).names.lookup x == some (if xc then .cell else .local) && fv.all (fun n => (relabelS scope sc).names.lookup n == some .cell && sc.names.lookup n == some .cell) &&
  scope.names.all (fun p => p.2 != .free || fv.contains p.1) && (scope.names.filter (·.2 == .cell) == (if xc then [(x, NameKind.cell)] else [])) && scope.names.all (fun p => p.2 != .local || scope.names.lookup p.1 == some .local) &&
  decide (x :: fv).Nodup && globs.all (fun p => (relabelS scope sc).names.lookup p.1 == some .globalImplicit) && (relabelS scope sc).names.lookup ("__debug__" : Str) == none && (relabelS scope sc).names.lookup ("__classdict__" : Str) == none && fv.all (fun n => scope.names.contains (n, .free))
noncomputable abbrev mkIn (vars : List Str) (globs : List (Str × Value)) (room : Nat) (o : Other) (fr cv : List Str) : Cx :=
 { w := o.w, A := o.A, env := o.env, frames := o.frames, vars := vars, globs := globs, fr := fr, base := o.base, own := o.own, ctl := o.ctl, priv := o.priv, room := room, hd := false, cv := cv }
noncomputable def Cx.comp (c : Cx) (env' : Env) (vars : List Str) (globs : List (Str × Value)) (fr cv : List Str) (own1 p : List Addr) : Cx :=
 { w := c.w, A := c.A, env := env', frames := c.frames, vars := vars, globs := globs, fr := fr, base := c.base, own := own1, ctl := c.own ++ c.ctl, priv := p, room := c.room, hd := false, cv := cv }
section
variable {c : Cx} {st : St} {X : Flds → List (Option AV) → Prop} {pos : Pos}
theorem madd_perm {l l' : List (Addr × AO)} (h : l.Perm l') : (madd l).Perm (madd l') := h.flatMap_right _
theorem Rel.perm {s : Shared} {mu' : List (Addr × AO)} (r : Rel c st s) (h : st.mu.Perm mu') : Rel c ⟨st.loc, mu'⟩ s ∧ Tr c st s ⟨st.loc, mu'⟩ s :=
 r.sub (fun p hp => h.mem_iff.mpr hp) ((madd_perm h).nodup_iff.mp r.nodup)
theorem T_perm {α β : Type} {R : Heap → β → α → Prop} {t : Sem α} {Q : β → St → Prop} {mu' : List (Addr × AO)} (h : st.mu.Perm mu') (k : T R c ⟨st.loc, mu'⟩ t Q X) : T R c st t Q X := fun s r =>
 let ⟨r1, t1⟩ := r.perm h
 wpAny_mono (k s r1) (fun _ _ p => p.lift t1) fun _ _ p => p.lift t1
theorem Rel.into {s : Shared} {loc loc' : List (Option AV)} {mu : List (Addr × AO)} {env' : Env} {vars : List Str} {globs : List (Str × Value)} {fr cv : List Str} {own1 p : List Addr} (r : Rel (c.rep (own1 ++ p)) ⟨loc, mu⟩ s) (ok : (c.comp env' vars globs fr cv own1 p).Ok)
  (hns : ∃ m, s.heap.Ns env'.locals m) (hcells : ∀ x ca, env'.cells.lookup x = some ca → ∃ v, s.heap.IsCell ca v)
  (hnames : ∀ (i : Nat) x a, vars[i]? = some x → loc'[i]? = some (some a) → ∃ v, NameIs env' s.heap x v ∧ RV (fz (c.rep (own1 ++ p)) ⟨loc, mu⟩ s.heap) a v) :
  Rel (c.comp env' vars globs fr cv own1 p) ⟨loc', mu⟩ s ∧ (fz (c.rep (own1 ++ p)) ⟨loc, mu⟩ s.heap).StaysIn (fz (c.comp env' vars globs fr cv own1 p) ⟨loc', mu⟩ s.heap) := by
 have fzs : (fz (c.rep (own1 ++ p)) ⟨loc, mu⟩ s.heap).StaysIn (fz (c.comp env' vars globs fr cv own1 p) ⟨loc', mu⟩ s.heap) := fun b o e => by
  refine o04 (fz_iff.mp e) fun e h1 h2 h3 h4 => ?_
  simp only [List.mem_append, not_or] at h3
  refine fz_iff.mpr (i04 e h3.1 ?_ h3.2 h4)
  simp only [Cx.comp, List.mem_append, not_or]
  exact ⟨h1, h2⟩
 refine ⟨⟨ok, r.stay, r.ff, fun a h => ?_, hns, hcells, fun i x a h1 h2 => ?_, fun q hq => (r.muts q hq).lift fzs fun _ _ _ e => e, r.nodup, fun a ha => ?_⟩, fzs⟩
 ·simp only [Cx.comp, List.mem_append] at h
  refine r.live a ?_
  simp only [List.mem_append]
  rcases h with h | (h | h) | h
  ·exact .inr (.inr (.inl h))
  ·exact .inl h
  ·exact .inr (.inl h)
  ·exact .inr (.inr (.inr h))
 ·refine o11 (hnames i x a h1 h2) fun v n q => ?_
  exact i11 v n (q.keeps fzs)
 ·refine o04 (r.apart a ha) fun h1 h2 h3 h4 h5 => ?_
  simp only [List.mem_append, not_or] at h3
  refine i04 h3.1 ?_ h3.2 h4 h5
  simp only [Cx.comp, List.mem_append, not_or]
  exact ⟨h1, h2⟩
theorem Rel.outof {s0 s s' : Shared} {loc loc1 loc2 : List (Option AV)} {mu mu' : List (Addr × AO)} {env' : Env} {vars : List Str} {globs : List (Str × Value)} {fr cv : List Str} {own1 p : List Addr} (r : Rel (c.rep (own1 ++ p)) ⟨loc, mu⟩ s)
  (r' : Rel (c.comp env' vars globs fr cv own1 p) ⟨loc2, mu'⟩ s') (t : Tr (c.comp env' vars globs fr cv own1 p) ⟨loc1, mu⟩ s ⟨loc2, mu'⟩ s') (t0 : Tr c st s0 ⟨loc, mu⟩ s) (hfresh : ∀ a ∈ own1, s0.heap.get? a = Option.none) :
  Rel (c.rep (own1 ++ p)) ⟨loc, mu'⟩ s' ∧ Tr c st s0 ⟨loc, mu'⟩ s' ∧ (fz (c.comp env' vars globs fr cv own1 p) ⟨loc2, mu'⟩ s'.heap).StaysIn (fz (c.rep (own1 ++ p)) ⟨loc, mu'⟩ s'.heap) := by
 have fz2 : (fz (c.comp env' vars globs fr cv own1 p) ⟨loc2, mu'⟩ s'.heap).StaysIn (fz (c.rep (own1 ++ p)) ⟨loc, mu'⟩ s'.heap) := fun b o e => by
  refine o04 (fz_iff.mp e) fun e h1 h2 h3 h4 => ?_
  simp only [Cx.comp, List.mem_append, not_or] at h2
  refine fz_iff.mpr (i04 e h2.1 h2.2 ?_ h4)
  simp only [List.mem_append, not_or]
  exact ⟨h1, h3⟩
 have fz1 : (fz (c.rep (own1 ++ p)) ⟨loc, mu⟩ s.heap).StaysIn (fz (c.rep (own1 ++ p)) ⟨loc, mu'⟩ s'.heap) := fun b o e => by
  refine o04 (fz_iff.mp e) fun e h1 h2 h3 h4 => ?_
  have h3' := h3
  simp only [List.mem_append, not_or] at h3'
  refine fz_iff.mpr (i04 (t.keep b o e h3'.1 ?_ h4) h1 h2 h3 (fun m => (t.fresh b m).elim h4 fun q => by rw [e] at q; cases q))
  simp only [Cx.comp, List.mem_append, not_or]
  exact ⟨h1, h2⟩
 have slots : ∀ b o, s.heap.get? b = some o → b ∈ c.own ∨ b ∈ c.ctl → ∃ sl, s'.heap.get? b = some { o with slots := sl } := fun b o e m => t.ctl b o e (List.mem_append.mpr m)
 refine i02 ⟨r.ok, r'.stay, r'.ff, fun a h => t.alive a (r.live a h), ?_, fun x ca hx => ?_, fun i x a h1 h2 => ?_, fun q hq => (r'.muts q hq).lift fz2 fun _ _ _ e => e, r'.nodup, fun a ha => ?_⟩ ⟨fun b o e h1 h2 h3 => ?_, fun b o e m => ?_, fun a m => ?_, fun a h => t.alive a (t0.alive a h), t.rest.1.trans t0.rest.1, t.rest.2.trans t0.rest.2⟩ fz2
 ·refine o42 r.ns fun m o es ep ho hd q => ?_
  refine o10 (slots _ o ho (.inl r.ok.loc)) fun sl hs => ?_
  exact ⟨m, _, es, ep, hs, hd, q⟩
 ·refine o21 (r.cells x ca hx) fun v o ho hd => ?_
  refine o10 (slots _ o ho (r.ok.cellIn x ca hx)) fun sl hs => ?_
  exact ⟨v, _, hs, hd⟩
 ·refine o11 (r.names i x a h1 h2) fun v n q => ?_
  refine i11 v ?_ (q.keeps fz1)
  rcases n with ⟨n1, m, ⟨o, es, ep, ho, hd, z⟩, n3⟩ | ⟨n1, ca, n2, o, ho, hd⟩
  ·refine o10 (slots _ o ho (.inl r.ok.loc)) fun sl hs => ?_
   exact .inl ⟨n1, m, ⟨_, es, ep, hs, hd, z⟩, n3⟩
  ·refine o10 (slots _ o ho (r.ok.cellIn x ca n2)) fun sl hs => ?_
   exact .inr ⟨n1, ca, n2, _, hs, hd⟩
 ·refine o04 (r'.apart a ha) fun h1 h2 h3 h4 h5 => ?_
  simp only [Cx.comp, List.mem_append, not_or] at h2
  refine i04 h2.1 h2.2 ?_ h4 h5
  simp only [List.mem_append, not_or]
  exact ⟨h1, h3⟩
 ·have e1 := t0.keep b o e h1 h2 h3
  refine t.keep b o e1 (fun q => by rw [hfresh b q] at e; cases e) ?_ fun m => (t0.fresh b m).elim h3 fun q => by rw [e] at q; cases q
  simp only [Cx.comp, List.mem_append, not_or]
  exact ⟨h1, h2⟩
 ·refine o10 (t0.ctl b o e m) fun sl e1 => ?_
  refine o10 (slots b _ e1 (.inr m)) fun sl2 e2 => ?_
  exact ⟨sl2, e2⟩
 ·exact (t.fresh a m).elim (t0.fresh a) fun q => .inr (none_of t0.alive q)
theorem Rel.ext {s s' : Shared} {p2 : List Addr} {mu2 : List (Addr × AO)} (r : Rel c st s) (g : Gr s s') (hnew : ∀ a ∈ p2 ++ madd mu2, s.heap.get? a = Option.none ∧ (s'.heap.get? a).isSome = true) (nd : (p2 ++ madd mu2).Nodup)
  (hm : ∀ q ∈ mu2, MutRel c.w.params (fz (c.rep (p2 ++ c.priv)) ⟨st.loc, st.mu ++ mu2⟩ s'.heap) s'.heap q.1 q.2) :
  Rel (c.rep (p2 ++ c.priv)) ⟨st.loc, st.mu ++ mu2⟩ s' ∧ Tr c st s ⟨st.loc, st.mu ++ mu2⟩ s' ∧ (fz c st s.heap).StaysIn (fz (c.rep (p2 ++ c.priv)) ⟨st.loc, st.mu ++ mu2⟩ s'.heap) := by
 have oldNot : ∀ a, (s.heap.get? a).isSome = true → a ∉ p2 ∧ a ∉ madd mu2 := fun a h => ⟨fun q => (by have z := (hnew a (List.mem_append_left _ q)).1; rw [z] at h; exact Bool.false_ne_true h), fun q => (by have z := (hnew a (List.mem_append_right _ q)).1; rw [z] at h; exact Bool.false_ne_true h)⟩
 refine o02 (List.nodup_append.mp nd) fun ndp ndm ndx => ?_
 have fzs : (fz c st s.heap).StaysIn (fz (c.rep (p2 ++ c.priv)) ⟨st.loc, st.mu ++ mu2⟩ s'.heap) := fun b o e => by
  refine o04 (fz_iff.mp e) fun e h1 h2 h3 h4 => ?_
  have q := oldNot b (by rw [e]; rfl)
  refine fz_iff.mpr (i04 (g.keep b o e) h1 h2 ?_ ?_)
  ·simp only [List.mem_append, not_or]; exact ⟨q.1, h3⟩
  ·simp only [madd_append, List.mem_append, not_or]; exact ⟨h4, q.2⟩
 have baseNone : ∀ a, s.heap.get? a = Option.none → c.base.get? a = Option.none := fun a h => by
  cases q : c.base.get? a with
  | none => rfl
  | some o => rw [r.stay a o q] at h; cases h
 refine i02 ⟨?_, fun b o e => g.keep b o (r.stay b o e), r.ff.of_keeps fun b o e _ => (i11 o (g.keep b o e) rfl), fun a h => ?_, ?_, fun x ca h => ?_, fun i x a h1 h2 => ?_, fun q hq => ?_, ?_, fun a ha => ?_⟩ ⟨fun b o e _ _ _ => g.keep b o e, fun b o e _ => ⟨o.slots, g.keep b o e⟩, fun a m => ?_, g.alive, g.rest⟩ fzs
 ·have k := r.ok
  exact { base := k.base, nodup := k.nodup, kinds := k.kinds, locs := k.locs, cellsAt := k.cellsAt, fn := k.fn, glob := k.glob, globs := k.globs, dbg := k.dbg, loc := k.loc, locBase := k.locBase, cellIn := k.cellIn, cellOwn := k.cellOwn, cellNe := k.cellNe, cellInj := k.cellInj, ownCtl := fun a m => ⟨(k.ownCtl a m).1, by simp only [List.mem_append, not_or]; exact ⟨(oldNot a (r.live a (.inl m))).1, (k.ownCtl a m).2⟩⟩, ownBase := k.ownBase, ctlBase := k.ctlBase, privBase := fun a m => (List.mem_append.mp m).elim (fun q => baseNone a (hnew a (List.mem_append_left _ q)).1) (k.privBase a), handled := k.handled, stack := k.stack, frIn := k.frIn, depth := k.depth, units := k.units }
 ·rcases h with h | h | h
  ·exact g.alive a (r.live a (.inl h))
  ·exact g.alive a (r.live a (.inr (.inl h)))
  ·rcases List.mem_append.mp h with h | h
   ·exact (hnew a (List.mem_append_left _ h)).2
   ·exact g.alive a (r.live a (.inr (.inr h)))
 ·refine o10 r.ns fun m h => ?_
  exact ⟨m, h.keeps g.keep⟩
 ·refine o10 (r.cells x ca h) fun v q => ?_
  exact ⟨v, q.keeps g.keep⟩
 ·refine o11 (r.names i x a h1 h2) fun v n q => ?_
  exact i11 v (n.keeps g.keep) (q.keeps fzs)
 ·rcases List.mem_append.mp hq with h | h
  ·exact (r.muts q h).lift fzs fun b _ x e => g.keep b x e
  ·exact hm q h
 ·show (madd (st.mu ++ mu2)).Nodup
  rw [madd_append]
  exact List.nodup_append.mpr (i02 r.nodup ndm (fun a ha b hb q => (oldNot a (r.apart a ha).2.2.2.2).2 (q ▸ hb)))
 ·have ha : a ∈ madd (st.mu ++ mu2) := ha
  rw [madd_append] at ha
  rcases List.mem_append.mp ha with h | h
  ·refine o04 (r.apart a h) fun h1 h2 h3 h4 h5 => ?_
   exact i04 h1 h2 (by simp only [List.mem_append, not_or]; exact ⟨(oldNot a h5).1, h3⟩) h4 (g.alive a h5)
  ·have hn := hnew a (List.mem_append_right _ h)
   have dead : ∀ P : Prop, (P → (s.heap.get? a).isSome = true) → ¬ P := fun P k q => by have := k q; rw [hn.1] at this; cases this
   refine i04 (dead _ fun m => r.live a (.inl m)) (dead _ fun m => r.live a (.inr (.inl m))) ?_ (baseNone a hn.1) hn.2
   simp only [List.mem_append, not_or]
   exact ⟨fun q => ndx a q a h rfl, dead _ fun m => r.live a (.inr (.inr m))⟩
 ·have m : a ∈ madd (st.mu ++ mu2) := m
  rw [madd_append] at m
  exact (List.mem_append.mp m).elim .inl fun q => .inr (hnew a (List.mem_append_right _ q)).1
end
end
section
noncomputable def testsOf (ifs : List Expr) (env : Env) : Sem Bool := forIn ifs true fun c r => if r = true then do let ok ← isTrue c env (eval c env); pure (ForInStep.yield ok) else pure (ForInStep.yield r)
noncomputable abbrev TI (c : Cx) (st : St) (ifs : List Expr) (Q : Bool → St → Prop) (X : Flds → List (Option AV) → Prop) : Prop := T RB c st (testsOf ifs c.env) Q X
section
variable {c : Cx} {st : St} {X : Flds → List (Option AV) → Prop} {pos : Pos}
theorem TI_nil {Q : Bool → St → Prop} (h : Q true st) : TI c st [] Q X := fun s r => wpAny_tests_nil (.here (R := RB) r h rfl)
theorem TI_one {e : Expr} {Q : Bool → St → Prop} (h : TB c st e Q X) : TI c st [e] Q X := fun s r => wpAny_tests_one (h s r)
inductive Frees (vars : List Str) (loc : List (Option AV)) : List Str → List (Option AV) → Prop
 | nil : Frees vars loc [] []
 | cons {n a ns l} : NameAt vars loc n a → Frees vars loc ns l → Frees vars loc (n :: ns) (some a :: l)
theorem Frees.at {vars : List Str} {loc : List (Option AV)} {ns : List Str} {l : List (Option AV)} (h : Frees vars loc ns l) : ∀ (i : Nat) (n : Str) (a : AV), ns[i]? = some n → l[i]? = some (some a) → NameAt vars loc n a := by
 induction h with
 | nil => intro i n a h; simp at h
 | cons h0 _ ih =>
  intro i n a h1 h2
  cases i with
  | zero => simp at h1 h2; subst h1 h2; exact h0
  | succ i => exact ih i n a (by simpa using h1) (by simpa using h2)
theorem Frees.mem {vars : List Str} {loc : List (Option AV)} {ns : List Str} {l : List (Option AV)} (h : Frees vars loc ns l) : ∀ n ∈ ns, n ∈ vars := by
 induction h with
 | nil => intro n h; cases h
 | cons h0 _ ih =>
  intro n hn
  rcases List.mem_cons.mp hn with rfl | hn
  ·refine o11 h0.idx fun i h1 _ => ?_; exact List.mem_of_getElem? h1
  ·exact ih n hn
theorem comp_ok {scope sc : Scope} {x : Str} {xc : Bool} {fv : List Str} {globs : List (Str × Value)} {cl : List (Str × Addr)} {C : Addr} {Ks p : List Addr} {cs : List (Str × Addr)} (k : c.Ok) (hS : c.env.scope = sc) (hok : compOk scope sc x xc fv globs = true)
  (hgl : ∀ P, globs.all (globOk (KF P) (relabelS scope sc)) = true) (hhd : c.hd = false) (hcl : ∀ n ca, cl.lookup n = some ca → c.env.cells.lookup n = some ca ∧ (n, NameKind.free) ∈ scope.names) (hcl2 : ∀ q ∈ scope.names, q.2 = .free → (cl.lookup q.1).isSome = true)
  (hcs : (xc = false ∧ cs = cl ∧ Ks = []) ∨ (xc = true ∧ ∃ K, cs = (x, K) :: cl ∧ Ks = [K] ∧ K ≠ C))
  (hnew : ∀ a ∈ C :: Ks, a ∉ c.own ∧ a ∉ c.ctl ∧ a ∉ p ∧ c.base.get? a = none) (hcell : ∀ n ca, c.env.cells.lookup n = some ca → ca ∉ C :: Ks) (hp : ∀ a ∈ p, c.base.get? a = none) (env' : Env)
  (he : env' = compEnvC scope cs C c.env) :
  (c.comp env' (x :: fv) globs fv (if xc then [x] else []) (C :: Ks) p).Ok := by
 unfold compOk at hok
 simp only [Bool.and_eq_true, beq_iff_eq, List.all_eq_true, decide_eq_true_eq, Bool.or_eq_true, bne_iff_ne, ne_eq] at hok
 refine o01 hok fun zz1 hfn => ?_
 try clear hok
 refine o01 zz1 fun zz2 hd2 => ?_
 clear zz1
 refine o01 zz2 fun zz3 hd1 => ?_
 clear zz2
 refine o01 zz3 fun zz4 hg => ?_
 clear zz3
 refine o01 zz4 fun zz5 hnd => ?_
 clear zz4
 refine o01 zz5 fun zz6 hloc => ?_
 clear zz5
 refine o01 zz6 fun zz7 hcel => ?_
 clear zz6
 refine o01 zz7 fun zz8 hfr => ?_
 clear zz7
 refine o01 zz8 fun zz9 hf => ?_
 clear zz8
 refine o01 zz9 fun hk hx => ?_
 clear zz9
 have kd : ∀ n, env'.kindOf n = (relabelS scope sc).names.lookup n := fun n => by rw [he, ← hS]; rfl
 have hcells : env'.cells = cs := by rw [he]; rfl
 have hloc' : env'.locals = C := by rw [he]; rfl
 have look : ∀ n ca, cs.lookup n = some ca → (n = x ∧ xc = true ∧ ca ∈ Ks) ∨ (cl.lookup n = some ca ∧ n ≠ x) ∨ (cl.lookup n = some ca ∧ xc = false) := fun n ca h => by
  rcases hcs with ⟨q, rfl, _⟩ | ⟨q, K, rfl, hKs, _⟩
  ·exact .inr (.inr ⟨h, q⟩)
  ·rw [List.lookup_cons] at h
   split at h
   ·rename_i e
    cases h
    exact .inl (i02 (by simpa using e) q (by rw [hKs]; exact .head _))
   ·rename_i e
    exact .inr (.inl ⟨h, by simpa using e⟩)
 have inFv : ∀ n ca, cl.lookup n = some ca → n ∈ fv := fun n ca h => by
  have := hfr _ (hcl n ca h).2
  rcases this with q | q
  ·exact absurd rfl q
  ·simpa using q
 refine { base := k.base, nodup := hnd, kinds := fun n hn => ?_, locs := fun n hn h1 h2 => ?_, cellsAt := fun n hn h => ?_, fn := by show env'.scope.kind = _; rw [he]; exact hk, glob := by show env'.globals = _ ∧ env'.builtins = _; rw [he]; exact k.glob, globs := fun q hq => ⟨?_, (glob_is k.base (List.all_eq_true.mp (hgl _) q hq)).2⟩, dbg := ⟨(kd _).trans hd1, (kd _).trans hd2⟩, loc := by show env'.locals ∈ _; rw [hloc']; exact .head _, locBase := by show c.base.get? env'.locals = _; rw [hloc']; exact (hnew C (.head _)).2.2.2, cellIn := fun n ca h => ?_, cellOwn := fun n ca h h1 h2 => ?_, cellNe := fun n ca h => ?_, cellInj := fun n m ca h h' => ?_, ownCtl := fun a ha => ?_, ownBase := fun a ha => (hnew a ha).2.2.2, ctlBase := fun a ha => (List.mem_append.mp ha).elim (k.ownBase a) (k.ctlBase a), privBase := hp, handled := fun _ => k.handled hhd, stack := k.stack, frIn := fun e he L hL => .inr (List.mem_append.mpr (k.frIn e he L hL)), depth := k.depth, units := k.units }
 ·show env'.kindOf n = _ ∨ env'.kindOf n = _ ∨ _
  rw [kd]
  rcases List.mem_cons.mp hn with rfl | hn
  ·rw [hx]
   cases xc
   ·exact .inl rfl
   ·exact .inr (.inl rfl)
  ·exact .inr (.inl (hf n hn).1)
 ·show env'.kindOf n = _
  rw [kd]
  rcases List.mem_cons.mp hn with rfl | hn
  ·rw [hx]
   cases xc
   ·rfl
   ·exact absurd (List.mem_singleton.mpr rfl) h1
  ·exact absurd hn h2
 ·show (env'.cells.lookup n).isSome = true
  rw [hcells]
  have hl : n ∈ fv → (cl.lookup n).isSome = true := fun q => hcl2 (n, .free) (by simpa using hfn n q) rfl
  rcases hcs with ⟨q, rfl, _⟩ | ⟨q, K, rfl, hKs, _⟩
  ·rcases List.mem_cons.mp hn with rfl | hn
   ·have h : env'.kindOf n = some .cell := h
    rw [kd, hx, q] at h; simp at h
   ·exact hl hn
  ·rw [List.lookup_cons]
   split
   ·rfl
   ·rename_i e
    rcases List.mem_cons.mp hn with rfl | hn
    ·simp at e
    ·exact hl hn
 ·show env'.kindOf q.1 = _
  rw [kd]; exact hg q hq
 ·have h : env'.cells.lookup n = some ca := h
  rw [hcells] at h
  rcases look n ca h with ⟨_, _, q⟩ | ⟨q, _⟩ | ⟨q, _⟩
  ·exact .inl (.tail _ q)
  ·exact .inr (List.mem_append.mpr (k.cellIn n ca (hcl n ca q).1))
  ·exact .inr (List.mem_append.mpr (k.cellIn n ca (hcl n ca q).1))
 ·have h : env'.cells.lookup n = some ca := h
  rw [hcells] at h
  rcases look n ca h with ⟨_, _, q⟩ | ⟨q, _⟩ | ⟨q, _⟩
  ·exact .tail _ q
  ·exact absurd (inFv n ca q) h2
  ·exact absurd (inFv n ca q) h2
 ·have h : env'.cells.lookup n = some ca := h
  show ca ≠ env'.locals
  rw [hcells] at h
  rw [hloc']
  rcases look n ca h with ⟨_, _, q⟩ | ⟨q, _⟩ | ⟨q, _⟩
  ·rcases hcs with ⟨_, _, rfl⟩ | ⟨_, K, _, rfl, hKC⟩
   ·cases q
   ·rw [List.mem_singleton.mp q]; exact hKC
  ·exact fun e => hcell n ca (hcl n ca q).1 (e ▸ .head _)
  ·exact fun e => hcell n ca (hcl n ca q).1 (e ▸ .head _)
 ·have h : env'.cells.lookup n = some ca := h
  have h' : env'.cells.lookup m = some ca := h'
  rw [hcells] at h h'
  have old : ∀ n, cl.lookup n = some ca → ca ∉ Ks := fun n q z => hcell n ca (hcl n ca q).1 (.tail _ z)
  rcases look n ca h with ⟨q1, _, q⟩ | ⟨q, _⟩ | ⟨q, _⟩ <;> rcases look m ca h' with ⟨z1, _, z⟩ | ⟨z, _⟩ | ⟨z, _⟩
  ·rw [q1, z1]
  ·exact absurd q (old m z)
  ·exact absurd q (old m z)
  ·exact absurd z (old n q)
  ·exact k.cellInj n m ca (hcl n ca q).1 (hcl m ca z).1
  ·exact k.cellInj n m ca (hcl n ca q).1 (hcl m ca z).1
  ·exact absurd z (old n q)
  ·exact k.cellInj n m ca (hcl n ca q).1 (hcl m ca z).1
  ·exact k.cellInj n m ca (hcl n ca q).1 (hcl m ca z).1
 ·refine o03 (hnew a ha) fun h1 h2 h3 _ => ?_
  refine ⟨?_, h3⟩
  show a ∉ c.own ++ c.ctl
  simp only [List.mem_append, not_or]
  exact ⟨h1, h2⟩
end
end
section
theorem MuSet.last {o o' : AO} {D : Addr} : ∀ {l : List (Addr × AO)}, MuSet (l ++ [(D, o)]) D o o' (l ++ [(D, o')])
 | [] => .here
 | _ :: _ => .there MuSet.last
theorem NameIs.keepBut {env : Env} {h h' : Heap} {x : Str} {v : Value} (n : NameIs env h x v) (k : ∀ b o, h.get? b = some o → h'.get? b = some o) : NameIs env h' x v := n.keeps k
section
variable {c : Cx} {st : St} {X : Flds → List (Option AV) → Prop} {pos : Pos}
theorem store1 {M : Model} {A : Around} {E : Value → Shared → Prop} {s : Shared} {env : Env} {x : Str} {v : Value} {m : Str → Option Value} {W : Unit → Shared → Prop} (hk : env.scope.kind = .function) (hn : s.heap.Ns env.locals m)
  (h0 : env.kindOf x = some .local ∨ (env.kindOf x = some .cell ∧ ∃ K v0, env.cells.lookup x = some K ∧ s.heap.IsCell K v0 ∧ K ≠ env.locals))
  (h : ∀ b h' tk, (b = env.locals ∨ env.cells.lookup x = some b) → Heap.SameBut b s.heap h' → (h'.get? b).isSome = true → NameIs env h' x v → (∃ m', h'.Ns env.locals m') → (∀ K v0, K ≠ env.locals → s.heap.IsCell K v0 → ∃ v1, h'.IsCell K v1) → W () { s with heap := h', toks := tk }) :
  wpAny M A (storeName env x v) W E s := by
 rcases h0 with kl | ⟨kc, K, v0, hK, hc, hne⟩
 ·refine wpAny_storeName_local kl hn (fun h' hn' hs => ?_) (by rw [hk]; rfl)
  refine h _ h' _ (.inl rfl) hs (by refine o31 hn' fun o es ep ho _ => ?_; try clear hn'; rw [ho]; rfl) (.inl ⟨kl, _, hn', by simp⟩) ⟨_, hn'⟩ fun K v0 hne hc => ⟨v0, hc.sameBut hs hne⟩
 ·refine wpAny_storeName_cell hk kc hK hc fun h' hc' hs => ?_
  refine h K h' s.toks (.inr hK) hs (by refine o11 hc' fun o ho _ => ?_; try clear hc'; rw [ho]; rfl) (.inr ⟨.inl kc, K, hK, hc'⟩) ⟨m, hn.sameBut hs (Ne.symm hne)⟩ fun K' v1 _ hc1 => ?_
  by_cases e : K' = K
  ·exact ⟨_, e ▸ hc'⟩
  ·exact ⟨v1, hc1.sameBut hs e⟩
theorem okAny {M : Model} {A : Around} {E : Value → Shared → Prop} {use : Option (Value → Sem Unit)} {W : Value → Shared → Prop} {acc : Value} {C : Addr} {s : Shared} {f f' : Flow} (h : compPost M A E use W acc C (.ok f) s) : compPost M A E use W acc C (.ok f') s := by
 cases use <;> exact h
theorem comp_core {σ : Type} (M : σ → List (Addr × AO)) (I : List PyData → List PyData → σ → Prop) (xc : Bool) (fv : List Str) (fvl : List (Option AV)) (globs' : List (Str × Value))
  {elt iter : Expr} {x : Str} {px : Pos} {ifs : List Expr} {scope sc : Scope} {F : List PyData → σ → Addr → Prop} {use : Option (Value → Sem Unit)} {W : Value → Shared → Prop} {s0 : Shared} (r0 : Rel c st s0)
  (hS : c.env.scope = sc) (hok : compOk scope sc x xc fv globs' = true) (hgl : ∀ P, globs'.all (globOk (KF P) (relabelS scope sc)) = true) (hhd : c.hd = false) (hfv : Frees c.vars st.loc fv fvl)
  (hlen : ∀ xs out a, I xs out a → out.length ≤ 1000)
  (h : TE c st iter (fun z st1 => ∃ xs a0, Iters c.w z xs ∧ st1 = ⟨st.loc, M a0⟩ ∧ I xs [] a0 ∧
   (∀ o' : Other, o'.w = c.w → o'.env.scope = relabelS scope sc → ∀ D y xs out a, I (y :: xs) out a →
    TI (mkIn (x :: fv) globs' c.room o' fv (if xc then [x] else [])) ⟨some (.d y) :: fvl, M a ++ [(D, .list out)]⟩ ifs (fun b st2 =>
     if b = true then TE (mkIn (x :: fv) globs' c.room o' fv (if xc then [x] else [])) st2 elt (fun w st3 => ∃ p a', w = .d p ∧ st3.mu = M a' ++ [(D, .list out)] ∧ I xs (out ++ [p]) a') (fun _ _ => False)
     else ∃ a', st2.mu = M a' ++ [(D, .list out)] ∧ I xs out a') (fun _ _ => False)) ∧
   ∀ out a D, I [] out a → F out a D) X)
  (fin : ∀ (own1 : List Addr) (C D : Addr) out a (s2 : Shared), F out a D → C ∈ own1 → (∀ b ∈ own1, b ∉ c.own ∧ b ∉ c.ctl ∧ b ∉ c.priv ∧ c.base.get? b = none ∧ s0.heap.get? b = none) → Rel (c.rep (own1 ++ c.priv)) ⟨st.loc, M a ++ [(D, .list out)]⟩ s2 → Tr c st s0 ⟨st.loc, M a ++ [(D, .list out)]⟩ s2 → (∃ m, s2.heap.Ns C m) → compPost c.M c.A (EPost X c st s0) use W (.ref D) C (.ok default) s2)
  (hs : ∀ v, foldedSetIterable iter c.env v = pure v) : wpAny c.M c.A (comprehension (.ListComp elt [⟨.Name x px, iter, ifs, 0⟩] scope pos) scope c.env (firstIterPos [⟨.Name x px, iter, ifs, 0⟩] pos) (newList []) (firstAsync [⟨.Name x px, iter, ifs, 0⟩]) (eval iter c.env) use) W (EPost X c st s0) s0 := by
 have k := r0.ok
 have hok' := hok
 unfold compOk at hok'
 simp only [Bool.and_eq_true, beq_iff_eq, List.all_eq_true, decide_eq_true_eq, Bool.or_eq_true, bne_iff_ne, ne_eq] at hok'
 refine o01 hok' fun zz1 hfn => ?_
 try clear hok'
 refine o01 zz1 fun zz2 hd2 => ?_
 clear zz1
 refine o01 zz2 fun zz3 hd1 => ?_
 clear zz2
 refine o01 zz3 fun zz4 hg => ?_
 clear zz3
 refine o01 zz4 fun zz5 hnd => ?_
 clear zz4
 refine o01 zz5 fun zz6 hloc => ?_
 clear zz5
 refine o01 zz6 fun zz7 hcel => ?_
 clear zz6
 refine o01 zz7 fun zz8 hfr => ?_
 clear zz7
 refine o01 zz8 fun zz9 hf => ?_
 clear zz8
 refine o01 zz9 fun hk hx => ?_
 clear zz9
 have kdc : ∀ n, c.env.kindOf n = sc.names.lookup n := fun n => by rw [← hS]; rfl
 refine o12 (closeFor (scope := scope) (env := c.env) fun q hq hqf => by
  rcases hfr q hq with z | z
  ·exact absurd hqf z
  ·have z : q.1 ∈ fv := by simpa using z
   exact k.cellsAt q.1 (hfv.mem _ z) ((kdc _).trans (hf _ z).2)) fun cl hc1 hc2 hc3 => ?_
 refine wpAny_comprehension_free (use := use) rfl hs hc1 hk (fun q hq hql => (hloc q hq).resolve_left fun z => z hql) ?_
 refine h.then r0 (.refl ..) fun v z st1 s1 zm7 r1 v1 t1 => o24 zm7 fun xs a0 hit e1 hI0 turn finF => ?_
 subst e1
 refine hit c _ s1 v _ _ rfl r1 v1 fun ob hiter hfree => ?_
 refine wpAny_newObj_type (wp_newComp ?_)
 dsimp only
 have new := get_new s1.heap
 generalize hit0 : s1.heap.objs.size = it at *
 generalize hH1 : s1.heap.push ob = H1 at *
 have sz1 : H1.objs.size = it + 1 := by rw [← hH1, Heap.size_push, hit0]
 generalize hH2 : H1.push { cls := .type "list", dict := none, data := .seq ([] : List Value).toArray } = H2 at *
 have sz2 : H2.objs.size = it + 2 := by rw [← hH2, Heap.size_push, sz1]
 rw [sz1, sz2]
 have hH2new : ∀ b, H2.get? b = none → s1.heap.get? b = none := fun b e => by
  cases q : s1.heap.get? b with
  | none => rfl
  | some o => rw [← hH2, Heap.get?_push_of_some _ (by rw [← hH1]; exact Heap.get?_push_of_some _ q)] at e; cases e
 generalize hH3 : pushCells (H2.push { cls := .type "dict", data := .dict #[] }) scope.names = H3
 have up2 : ∀ b o, H2.get? b = some o → H3.get? b = some o := fun b o e => by rw [← hH3]; exact pushCells_keeps _ _ b o (Heap.get?_push_of_some _ e)
 have up1 : ∀ b o, H1.get? b = some o → H3.get? b = some o := fun b o e => up2 b o (by rw [← hH2]; exact Heap.get?_push_of_some _ e)
 have up0 : ∀ b o, s1.heap.get? b = some o → H3.get? b = some o := fun b o e => up1 b o (by rw [← hH1]; exact Heap.get?_push_of_some _ e)
 have fresh : ∀ a, it ≤ a → s1.heap.get? a = none := fun a ha => by
  cases q : s1.heap.get? a with
  | none => rfl
  | some o => have := Heap.lt_size q; rw [hit0] at this; exact absurd this (Nat.not_lt.mpr ha)
 have hitAt : H1.get? it = some ob := by rw [← hH1, ← hit0]; exact Heap.get?_push_size _ hfree
 have hD : H3.get? (it + 1) = some { cls := .type "list", dict := none, data := .seq ([] : List Value).toArray } := up2 _ _ (by rw [← hH2, ← sz1]; exact Heap.get?_push_size _ rfl)
 have hC : (H2.push { cls := .type "dict", data := .dict #[] }).Ns (it + 2) (fun _ => none) := by rw [← sz2]; exact Heap.Ns.new H2 (.type "dict")
 have hCns : H3.Ns (it + 2) (fun _ => none) := hC.keeps fun b o e => by rw [← hH3]; exact pushCells_keeps _ _ b o e
 have key : ∃ Ks cs, ((xc = false ∧ cs = cl ∧ Ks = []) ∨ (xc = true ∧ ∃ K, cs = (x, K) :: cl ∧ Ks = [K] ∧ K ≠ it + 2)) ∧ cellsFrom (it + 2 + 1) scope.names cl = cs ∧ (∀ K ∈ Ks, K = it + 3 ∧ H3.IsCell K none) ∧ Ks.Nodup := by
  rw [cellsFrom_filter, hcel]
  rw [pushCells_filter, hcel] at hH3
  cases xc with
  | false => exact i23 [] cl (.inl (i02 rfl rfl rfl)) rfl (fun _ h => nomatch h) List.Pairwise.nil
  | true =>
   refine i23 [it + 3] ((x, it + 3) :: cl) (.inr ⟨rfl, _, rfl, rfl, Nat.succ_ne_self _⟩) rfl (fun K hK => ?_) (by simp)
   rw [List.mem_singleton.mp hK]
   refine ⟨rfl, { cls := .type "cell", data := .cell none }, ?_, rfl⟩
   rw [← hH3]
   show ((H2.push { cls := .type "dict", data := .dict #[] }).push { cls := .type "cell", data := .cell none }).get? (it + 3) = _
   rw [show it + 3 = (H2.push { cls := .type "dict", data := .dict #[] }).objs.size by rw [Heap.size_push, sz2]]
   exact Heap.get?_push_size _ rfl
 refine o23 key fun Ks cs hcs hcf hKs hKnd => ?_
 try clear key
 rw [hcf]
 generalize henv : ({ newEnv scope (it + 2) c.env.globals cs c.env.qual none .none (some c.env) builtinsNs with scope := relabel scope c.env } : Env) = env'
 have he : env' = compEnvC scope cs (it + 2) c.env := by rw [← henv]; rfl
 have hloc' : env'.locals = it + 2 := by rw [he]; rfl
 have hcells' : env'.cells = cs := by rw [he]; rfl
 have kd : ∀ n, env'.kindOf n = (relabelS scope sc).names.lookup n := fun n => by rw [he, ← hS]; rfl
 have henvS : env'.scope = relabelS scope sc := by rw [he, ← hS]; rfl
 have g3 : Gr s1 { s1 with heap := H3 } := ⟨up0, rfl, rfl⟩
 have liveNot : ∀ a, it ≤ a → (a ∉ c.own ∧ a ∉ c.ctl ∧ a ∉ c.priv ∧ c.base.get? a = none) ∧ ∀ n ca, c.env.cells.lookup n = some ca → ca ≠ a := fun a ha => by
  have hn := fresh a ha
  have dead : ∀ P : Prop, (P → (s1.heap.get? a).isSome = true) → ¬ P := fun P k q => by have := k q; rw [hn] at this; cases this
  refine ⟨(i03 (dead _ fun m => r1.live a (.inl m)) (dead _ fun m => r1.live a (.inr (.inl m))) (dead _ fun m => r1.live a (.inr (.inr m))) ?_), fun n ca hca e => ?_⟩
  ·cases q : c.base.get? a with
   | none => rfl
   | some o => rw [r1.stay a o q] at hn; cases hn
  ·refine o21 (r1.cells n ca hca) fun v o ho _ => ?_
   rw [e, hn] at ho; cases ho
 have own1big : ∀ a ∈ (it + 2) :: Ks, it + 2 ≤ a := fun a ha => by
  rcases List.mem_cons.mp ha with rfl | ha
  ·exact Nat.le_refl _
  ·rw [(hKs a ha).1]; exact fg (.le (.a (.v 0) (.c 2)) (.a (.v 0) (.c 3))) [] [1] [] rfl [_] []
 have own1live : ∀ a ∈ (it + 2) :: Ks, (H3.get? a).isSome = true := fun a ha => by
  rcases List.mem_cons.mp ha with rfl | ha
  ·refine o31 hCns fun o es ep ho _ => ?_
   try clear hCns; rw [ho]; rfl
  ·refine o11 ((hKs a ha).2) fun o ho _ => ?_; rw [ho]; rfl
 have hfresh0 : ∀ a, it ≤ a → s0.heap.get? a = none := fun a ha => none_of t1.alive (fresh a ha)
 refine o02 (r1.ext (s' := { s1 with heap := H3 }) (p2 := ((it + 2) :: Ks) ++ [it]) (mu2 := [(it + 1, .list [])]) g3 (fun a ha => by
  rcases List.mem_append.mp ha with ha | ha
  ·rcases List.mem_append.mp ha with ha | ha
   ·exact ⟨fresh a (Nat.le_trans (by exact fg (.le (.v 0) (.a (.v 0) (.c 2))) [] [1] [] rfl [_] []) (own1big a ha)), own1live a ha⟩
   ·rw [List.mem_singleton.mp ha]; exact ⟨new, by rw [up1 _ _ hitAt]; rfl⟩
  ·have : a = it + 1 := by simpa [madd, AO.addrs] using ha
   rw [this]; exact ⟨fresh _ (by exact fg (.le (.v 0) (.a (.v 0) (.c 1))) [] [1] [] rfl [_] []), by rw [hD]; rfl⟩)
  (by
   show (((it + 2) :: Ks ++ [it]) ++ [it + 1]).Nodup
   rw [List.nodup_append]
   refine i02 ?_ (by simp) (fun a ha b hb e => ?_)
   ·rw [List.nodup_append]
    refine i02 (List.nodup_cons.mpr ⟨fun m => absurd (show @Eq Nat (it + 2) (it + 3) from (hKs _ m).1) (by omega), hKnd⟩) (by simp) (fun a ha b hb e => ?_)
    have := own1big a ha
    have : b = it := by simpa using hb
    omega
   ·have hb : b = it + 1 := by simpa using hb
    rcases List.mem_append.mp ha with ha | ha
    ·have := own1big a ha; exact fm [.eq (.v 0) (.v 1),.eq (.v 1) (.a (.v 2) (.c 1)),.le (.a (.v 2) (.c 2)) (.v 0)] [1,1,1] [] rfl [_,_,_] [] e hb this
    ·have : a = it := by simpa using ha
     exact fm [.qe (.v 0) (.v 1),.qe (.v 1) (.a (.v 2) (.c 1)),.eq (.v 0) (.v 2)] [1,1,1] [] rfl [_,_,_] [] e hb this)
  (fun q hq => by
   obtain rfl := List.mem_singleton.mp hq
   exact ⟨_, _, hD, RDs.nil, by decide⟩)) fun r3 t3 f3 => ?_
 rw [List.append_assoc] at r3 f3
 have okC := comp_ok (p := it :: c.priv) k hS hok hgl hhd hc2 hc3 hcs (fun a ha => by
   refine o01 (liveNot a (Nat.le_trans (by exact fg (.le (.v 0) (.a (.v 0) (.c 2))) [] [1] [] rfl [_] []) (own1big a ha))) fun zz1 _ => ?_
   refine o03 zz1 fun h1 h2 h3 h4 => ?_
   clear zz1
   refine i03 h1 h2 (fun m => ?_) h4
   rcases List.mem_cons.mp m with e | m
   ·have z := own1big a ha; rw [e] at z; exact absurd z (by exact fg (.nle (.a (.v 0) (.c 2)) (.v 0)) [] [1] [] rfl [_] [])
   ·exact h3 m) (fun n ca hca m => (liveNot ca (Nat.le_trans (by exact fg (.le (.v 0) (.a (.v 0) (.c 2))) [] [1] [] rfl [_] []) (own1big ca m))).2 n ca hca rfl) (fun a ha => by
   rcases List.mem_cons.mp ha with rfl | ha
   ·exact (liveNot _ (Nat.le_refl _)).1.2.2.2
   ·exact k.privBase a ha) env' he
 have nIt : it ∉ c.own ∧ it ∉ c.ctl ∧ it ∉ c.priv ∧ c.base.get? it = none := (liveNot it (Nat.le_refl _)).1
 have loop : codeAny c.M c.A (.compLoop (.ListComp elt [⟨.Name x px, iter, ifs, 0⟩] scope pos) 0 (.ref it) (.ref (it + 1)) env') (compPost c.M c.A (EPost X c st s0) use W (.ref (it + 1)) (it + 2)) { s1 with heap := H3 } := by
  have own1nc : ∀ b ∈ (it + 2) :: Ks, b ∉ c.own ∧ b ∉ c.ctl ∧ b ∉ c.priv ∧ c.base.get? b = none := fun b hb => (liveNot b (Nat.le_trans (by exact fg (.le (.v 0) (.a (.v 0) (.c 2))) [] [1] [] rfl [_] []) (own1big b hb))).1
  have own1it : ∀ b ∈ (it + 2) :: Ks, b ≠ it := fun b hb e => by have z := own1big b hb; rw [e] at z; exact absurd z (by exact fg (.nle (.a (.v 0) (.c 2)) (.v 0)) [] [1] [] rfl [_] [])
  have hfreshOwn : ∀ b ∈ (it + 2) :: Ks, s0.heap.get? b = none := fun b hb => hfresh0 b (Nat.le_trans (by exact fg (.le (.v 0) (.a (.v 0) (.c 2))) [] [1] [] rfl [_] []) (own1big b hb))
  have look : ∀ n ca, cs.lookup n = some ca → ca ∈ Ks ∨ cl.lookup n = some ca := fun n ca h => by
   rcases hcs with ⟨q, rfl, _⟩ | ⟨q, K, rfl, rfl, _⟩
   ·exact .inr h
   ·rw [List.lookup_cons] at h
    split at h
    ·cases h; exact .inl (.head _)
    ·exact .inr h
  have lookK : ∀ K ∈ Ks, cs.lookup x = some K := fun K hK => by
   rcases hcs with ⟨q, rfl, rfl⟩ | ⟨q, K', rfl, rfl, _⟩
   ·cases hK
   ·rw [List.mem_singleton.mp hK]; simp
  have memIt : it ∈ ((it + 2) :: Ks) ++ ([it] ++ c.priv) := by simp
  have memOwn : ∀ b ∈ (it + 2) :: Ks, b ∈ ((it + 2) :: Ks) ++ ([it] ++ c.priv) := fun b hb => List.mem_append_left _ hb
  refine codeAny_compLoop_tests (fun n s' => ∃ xs out a, xs.length = n ∧ I xs out a ∧ Rel (c.rep (((it + 2) :: Ks) ++ ([it] ++ c.priv))) ⟨st.loc, M a ++ [(it + 1, AO.list out)]⟩ s' ∧ Tr c st s0 ⟨st.loc, M a ++ [(it + 1, AO.list out)]⟩ s' ∧
   IterAt c.w (fz (c.rep (((it + 2) :: Ks) ++ ([it] ++ c.priv))) ⟨st.loc, M a ++ [(it + 1, AO.list out)]⟩ s'.heap) s'.heap it xs ∧ (∃ m, s'.heap.Ns (it + 2) m) ∧ ∀ K ∈ Ks, ∃ v, s'.heap.IsCell K v) ?_ xs.length
   (i36 xs [] a0 rfl hI0 r3 (t1.trans t3) (hiter.keep f3 (up1 it)) ⟨_, hCns⟩ (fun K hK => ⟨_, (hKs K hK).2⟩))
  rintro n s' ⟨xs, out, a, rfl, hI, r, t, hit, ⟨mC, hns⟩, hcK⟩
  have hso := hlen _ _ _ hI
  cases xs with
  | nil =>
   refine IterAt.done (k.handled hhd) fz_sub hit rfl fun s2 hs2 hr2 => ?_
   have al : ∀ b, b ≠ it → (s'.heap.get? b).isSome = true → (s2.heap.get? b).isSome = true := fun b hb h => by
    refine o10 (Option.isSome_iff_exists.mp h) fun o ho => ?_
    rw [hs2 b o hb ho]; rfl
   refine o01 (r.rep (s' := s2) (it := it) (p := ((it + 2) :: Ks) ++ c.priv) (fun b o hb e => hs2 b o hb e) (.inl (i02 memIt nIt.2.1 nIt.2.2.2)) fun b m => by
    rcases List.mem_append.mp m with m | m
    ·exact ⟨.inl (memOwn b m), al b (own1it b m) (r.live b (.inr (.inr (memOwn b m))))⟩
    ·have : b ∈ ((it + 2) :: Ks) ++ ([it] ++ c.priv) := List.mem_append_right _ (List.mem_append_right _ m)
     exact ⟨.inl this, al b (fun e => nIt.2.2.1 (e ▸ m)) (r.live b (.inr (.inr this)))⟩) fun r4 f4 => ?_
   have t4 := t.but (it := it) (fun b o hb e => hs2 b o hb e) (hfresh0 it (Nat.le_refl _)) hr2
   exact okAny (fin ((it + 2) :: Ks) (it + 2) (it + 1) out a s2 (finF out a _ hI) (.head _) (fun b hb => i04 ((own1nc b hb).1) ((own1nc b hb).2.1) ((own1nc b hb).2.2.1) ((own1nc b hb).2.2.2) (hfreshOwn b hb)) r4 t4 ⟨mC, hns.at' fun o e => hs2 _ o (own1it _ (.head _)) e⟩)
  | cons y xs =>
   refine IterAt.item fz_sub hit rfl fun v s2 hs2 hr2 hxv hit2 hgo => ?_
   refine o22 hgo fun ob2 n2 ho2 _ _ => ?_
   try clear hgo
   have al2 : ∀ b, (s'.heap.get? b).isSome = true → (s2.heap.get? b).isSome = true := fun b hb => by
    by_cases q : b = it
    ·rw [q, ho2]; rfl
    ·rw [hs2.2 b q]; exact hb
   refine o01 (r.rep (s' := s2) (it := it) (p := ((it + 2) :: Ks) ++ ([it] ++ c.priv)) (fun b o hb e => hs2.extBut b o hb e) (.inl (i02 memIt nIt.2.1 nIt.2.2.2)) fun b m => ⟨.inl m, al2 b (r.live b (.inr (.inr m)))⟩) fun r4 f4 => ?_
   have t4 := t.but (it := it) (fun b o hb e => hs2.extBut b o hb e) (hfresh0 it (Nat.le_refl _)) hr2
   have r4' : Rel (c.rep (((it + 2) :: Ks) ++ ([it] ++ c.priv))) ⟨st.loc, M a ++ [(it + 1, .list out)]⟩ s2 := r4
   have hns2 : s2.heap.Ns env'.locals mC := by rw [hloc']; exact hns.at' fun o e => hs2.extBut _ o (own1it _ (.head _)) e
   refine wpAny_assign_Name (store1 (by rw [he]; exact hk) hns2 ?_ fun b h' tk hb hs' hl' hname hns' hcs' => ?_)
   ·rw [kd, hx]
    cases hxc : xc with
    | false => exact .inl rfl
    | true =>
     refine .inr ⟨rfl, ?_⟩
     rcases hcs with ⟨q, _, _⟩ | ⟨q, K, q1, q2, q3⟩
     ·rw [hxc] at q; cases q
     ·refine o10 (hcK K (by rw [q2]; exact .head _)) fun v0 hv0 => ?_
      exact i22 K v0 (by rw [hcells', q1]; simp) (hv0.sameBut hs2 (own1it K (.tail _ (by rw [q2]; exact .head _)))) (by rw [hloc']; exact q3)
   have hbo : b ∈ (it + 2) :: Ks := by
    rcases hb with rfl | hb
    ·rw [hloc']; exact .head _
    ·rw [hcells'] at hb
     rcases hcs with ⟨q, rfl, rfl⟩ | ⟨q, K', rfl, rfl, _⟩
     ·have := (hc2 x b hb).2
      have hxx : x ∈ fv := by
       rcases hfr _ this with z | z
       ·exact absurd rfl z
       ·simpa using z
      exact absurd hxx (List.nodup_cons.mp hnd).1
     ·have : K' = b := by simpa using hb
      rw [← this]; exact .tail _ (.head _)
   refine o01 (r4'.rep (s' := { s2 with heap := h', toks := tk }) (it := b) (p := ((it + 2) :: Ks) ++ ([it] ++ c.priv)) (fun d o hd e => hs'.extBut d o hd e) (.inl (i02 (memOwn b hbo) ((own1nc b hbo).2.1) ((own1nc b hbo).2.2.2))) fun d m => ⟨.inl m, by
    by_cases q : d = b
    ·rw [q]; exact hl'
    ·show (h'.get? d).isSome = true
     rw [hs'.2 d q]; exact r4'.live d (.inr (.inr m))⟩) fun r5 f5 => ?_
   have r5' : Rel (c.rep (((it + 2) :: Ks) ++ ([it] ++ c.priv))) ⟨st.loc, M a ++ [(it + 1, .list out)]⟩ { s2 with heap := h', toks := tk } := r5
   have t5 := t4.but (it := b) (s2 := { s2 with heap := h', toks := tk }) (fun d o hd e => hs'.extBut d o hd e) (hfreshOwn b hbo) ⟨rfl, rfl⟩
   have hRin := Rel.into (loc' := some (.d y) :: fvl) (p := [it] ++ c.priv) r5' okC hns' (fun n ca hca => by
    rw [hcells'] at hca
    rcases look n ca hca with q | q
    ·refine o10 (hcK ca q) fun v0 hv0 => ?_
     exact hcs' ca v0 (by rw [hloc']; intro e; have := (hKs ca q).1; rw [e] at this; exact absurd (show @Eq Nat (it + 2) (it + 3) from this) (by omega)) (hv0.sameBut hs2 (own1it ca (.tail _ q)))
    ·exact r5'.cells n ca (hc2 n ca q).1) fun i n av h1 h2 => by
    cases i with
    | zero =>
     simp at h1 h2
     subst h1 h2
     exact i11 v hname ((show RV _ (.d y) v from hxv).keeps fun b o e => f5 b o (f4 b o e))
    | succ i =>
     have h1 : fv[i]? = some n := by simpa using h1
     have h2 : fvl[i]? = some (some av) := by simpa using h2
     refine o13 (r5'.name (hfv.at i n av h1 h2)) fun v0 n0 q0 _ _ => ?_
     refine i11 v0 ?_ q0
     have hnf := List.mem_of_getElem? h1
     have hkc : c.env.kindOf n = some .cell := (kdc n).trans (hf n hnf).2
     rcases n0 with ⟨q1, _⟩ | ⟨_, ca, q2, q3⟩
     ·rw [show (c.rep (((it + 2) :: Ks) ++ ([it] ++ c.priv))).env.kindOf n = some .cell from hkc] at q1; cases q1
     ·have hcl : (cl.lookup n).isSome = true := hc3 (n, .free) (by simpa using hfn n hnf) rfl
      refine o10 (Option.isSome_iff_exists.mp hcl) fun ca' hca' => ?_
      have e1 := (hc2 n ca' hca').1
      have e2 : c.env.cells.lookup n = some ca := q2
      rw [e2] at e1
      obtain rfl : ca = ca' := by simpa using e1
      refine .inr ⟨.inl ((kd n).trans (hf n hnf).1), ca, ?_, q3⟩
      rw [hcells']
      rcases hcs with ⟨_, rfl, _⟩ | ⟨_, K', rfl, _, _⟩
      ·exact hca'
      ·rw [List.lookup_cons]
       split
       ·rename_i e
        have : n = x := by simpa using e
        exact absurd (this ▸ hnf) (List.nodup_cons.mp hnd).1
       ·exact hca'
   have hturn := turn ⟨c.w, c.A, env', c.frames, c.base, (it + 2) :: Ks, c.own ++ c.ctl, [it] ++ c.priv⟩ rfl henvS (it + 1) y xs out a hI _ hRin.1
   have itIn : ∀ {st2 : St} {s5 : Shared} {o : Obj}, Tr (c.comp env' (x :: fv) globs' fv (if xc then [x] else []) ((it + 2) :: Ks) ([it] ++ c.priv)) ⟨some (.d y) :: fvl, M a ++ [(it + 1, .list out)]⟩ { s2 with heap := h', toks := tk } st2 s5 → s2.heap.get? it = some o → s5.heap.get? it = some o := fun tt e =>
    tt.keep it _ (hs'.extBut it _ (fun z => own1it b hbo z.symm) e) (fun m => own1it it m rfl) (fun m => (List.mem_append.mp m).elim nIt.1 nIt.2.1) fun m => (hRin.1.apart it m).2.2.1 (.head _)
   refine wpAny_mono hturn (fun ok s5 zm6 => o23 zm6 fun b2 st2 h5 r6 t6 hb5 => ?_) fun _ _ zm5 => o52 zm5 fun _ _ _ _ _ _ hff _ => hff.elim
   obtain rfl : ok = b2 := hb5
   cases ok with
   | false =>
    rw [if_neg (by decide)] at h5
    refine o11 h5 fun a' hmu hI' => ?_
    try clear h5
    refine o02 (Rel.outof r5' r6 t6 t5 hfreshOwn) fun b1 b2 b3 => ?_
    rw [hmu] at b1 b2 b3
    simp only [Bool.false_eq_true, if_false]
    refine i11 xs.length (by simp) (i36 xs out a' rfl hI' b1 b2 (hit2.keep (fun d o e => b3 d o (hmu ▸ t6.fz d o (hRin.2 d o (f5 d o (f4 d o e))))) fun o e => itIn t6 e) ?_ (fun K hK => r6.cells x K (by show env'.cells.lookup x = _; rw [hcells']; exact lookK K hK)))
    refine o10 r6.ns fun m9 h9 => ?_
    have h9 : s5.heap.Ns env'.locals m9 := h9
    exact ⟨m9, hloc' ▸ h9⟩
   | true =>
    rw [if_pos rfl] at h5
    simp only [if_true]
    refine wpAny_mono (h5 s5 r6) (fun w s6 zm4 => o23 zm4 fun wa st3 h6 r7 t7 hw => ?_) fun _ _ zm3 => o52 zm3 fun _ _ _ _ _ _ hff _ => hff.elim
    refine o22 h6 fun p a' zz1 hmu hI' => ?_
    try clear h6
    subst zz1
    refine o02 (Rel.outof r5' r7 (t6.trans t7) t5 hfreshOwn) fun b1 b2 b3 => ?_
    have ns7 : ∃ m, s6.heap.Ns (it + 2) m := by
     refine o10 r7.ns fun m9 h9 => ?_
     have h9 : s6.heap.Ns env'.locals m9 := h9
     exact ⟨m9, hloc' ▸ h9⟩
    have cell7 : ∀ K ∈ Ks, ∃ v, s6.heap.IsCell K v := fun K hK => r7.cells x K (by show env'.cells.lookup x = _; rw [hcells']; exact lookK K hK)
    have hkG : (fz (c.rep (((it + 2) :: Ks) ++ ([it] ++ c.priv))) ⟨st.loc, M a ++ [(it + 1, .list out)]⟩ s'.heap).StaysIn (fz (c.rep (((it + 2) :: Ks) ++ ([it] ++ c.priv))) ⟨st.loc, st3.mu⟩ s6.heap) := fun d o e => b3 d o ((t6.trans t7).fz d o (hRin.2 d o (f5 d o (f4 d o e))))
    have hw' : RD (fz (c.rep (((it + 2) :: Ks) ++ ([it] ++ c.priv))) ⟨st.loc, st3.mu⟩ s6.heap) p w := RD.keeps b3 hw
    rw [hmu] at b1 b2 hkG hw'
    refine wpAny_mono (TC_append (p := p) (ps := out) (a := it + 1) (c := c.rep (((it + 2) :: Ks) ++ ([it] ++ c.priv))) (st := ⟨st.loc, M a' ++ [(it + 1, AO.list out)]⟩) (X := fun _ _ => False) (Q := fun _ st' => st' = ⟨st.loc, M a' ++ [(it + 1, .list (out ++ [p]))]⟩) MuSet.last (by exact fg (.lt (.v 0) (.c 1000000)) [.le (.v 0) (.c 1000)] [1,1] [] rfl [_] [] hso) rfl s6 [.ref (it + 1), w] b1 ⟨_, _, rfl, rfl, w, [], rfl, (show RV _ (.d p) w from hw'), rfl⟩) (fun _ s7 zm2 => o23 zm2 fun _ st7 e7 r8 t8 _ => ?_) fun _ _ zm1 => o52 zm1 fun _ _ _ _ _ _ hff _ => hff.elim
    subst e7
    have keepP : ∀ d o, d ∈ ((it + 2) :: Ks) ++ ([it] ++ c.priv) → d ∉ c.own → d ∉ c.ctl → s6.heap.get? d = some o → s7.heap.get? d = some o := fun d o m h1 h2 e => t8.keep d o e h1 h2 fun z => (b1.apart d z).2.2.1 m
    refine i11 xs.length (by simp) (i36 xs (out ++ [p]) a' rfl hI' r8 (b2.trans t8.of_rep) (hit2.keep (fun d o e => t8.fz d o (hkG d o e)) fun o e => keepP it o memIt nIt.1 nIt.2.1 (itIn (t6.trans t7) e)) ?_ (fun K hK => ?_))
    ·refine o10 ns7 fun m7 hm7 => ?_
     try clear ns7
     exact ⟨m7, hm7.at' fun o e => keepP _ o (memOwn _ (.head _)) (own1nc _ (.head _)).1 (own1nc _ (.head _)).2.1 e⟩
    ·refine o21 (cell7 K hK) fun v7 o7 ho7 hd7 => ?_
     exact ⟨v7, o7, keepP _ o7 (memOwn _ (.tail _ hK)) (own1nc _ (.tail _ hK)).1 (own1nc _ (.tail _ hK)).2.1 ho7, hd7⟩
 exact codeAny_compStart_list loop (IterAt.self (w := c.w) (G := fz c ⟨st.loc, M a0⟩ s1.heap) (hiter.keep (fun _ _ e => e) fun o e => up1 _ _ (by rw [← hH1] at e ⊢; exact e)) loop)
theorem Rel.letC {own1 : List Addr} {C : Addr} {loc' : List (Option AV)} {mu : List (Addr × AO)} {s0 s2 : Shared} {h' : Heap} (hC : C ∈ own1) (ho : ∀ b ∈ own1, b ∉ c.own ∧ b ∉ c.ctl ∧ b ∉ c.priv ∧ c.base.get? b = Option.none ∧ s0.heap.get? b = Option.none)
  (r : Rel (c.rep (own1 ++ c.priv)) ⟨loc', mu⟩ s2) (t : Tr c st s0 ⟨loc', mu⟩ s2) (hs : Heap.SameBut C s2.heap h') : Rel c ⟨loc', mu⟩ { s2 with heap := h' } ∧ Tr c st s0 ⟨loc', mu⟩ { s2 with heap := h' } := by
 refine o04 (ho C hC) fun q1 q2 q3 q4 q5 => ?_
 refine o01 (r.rep (s' := { s2 with heap := h' }) (it := C) (p := c.priv) (fun b o hb e => hs.extBut b o hb e) (.inl (i02 (List.mem_append_left _ hC) q2 q4)) fun b m => by
  have m1 : b ∈ own1 ++ c.priv := List.mem_append_right _ m
  refine ⟨.inl m1, ?_⟩
  refine o10 (Option.isSome_iff_exists.mp (r.live b (.inr (.inr m1)))) fun o ho => ?_
  show (h'.get? b).isSome = true
  rw [hs.extBut b o (fun e => q3 (e ▸ m)) ho]; rfl) fun r5 f5 => ?_
 exact ⟨r5, t.but (it := C) (s2 := { s2 with heap := h' }) (fun b o hb e => hs.extBut b o hb e) q5 ⟨rfl, rfl⟩⟩
theorem TE_comp {σ : Type} (M : σ → List (Addr × AO)) (I : List PyData → List PyData → σ → Prop) (xc : Bool) (fv : List Str) (fvl : List (Option AV)) (globs' : List (Str × Value))
  {elt iter : Expr} {x : Str} {px : Pos} {ifs : List Expr} {scope sc : Scope} {Q : AV → St → Prop}
  (hS : c.env.scope = sc) (hok : compOk scope sc x xc fv globs' = true) (hgl : ∀ P, globs'.all (globOk (KF P) (relabelS scope sc)) = true) (hhd : c.hd = false) (hfv : Frees c.vars st.loc fv fvl)
  (hlen : ∀ xs out a, I xs out a → out.length ≤ 1000)
  (h : TE c st iter (fun z st1 => ∃ xs a0, Iters c.w z xs ∧ st1 = ⟨st.loc, M a0⟩ ∧ I xs [] a0 ∧
   (∀ o' : Other, o'.w = c.w → o'.env.scope = relabelS scope sc → ∀ D y xs out a, I (y :: xs) out a →
    TI (mkIn (x :: fv) globs' c.room o' fv (if xc then [x] else [])) ⟨some (.d y) :: fvl, M a ++ [(D, .list out)]⟩ ifs (fun b st2 =>
     if b = true then TE (mkIn (x :: fv) globs' c.room o' fv (if xc then [x] else [])) st2 elt (fun w st3 => ∃ p a', w = .d p ∧ st3.mu = M a' ++ [(D, .list out)] ∧ I xs (out ++ [p]) a') (fun _ _ => False)
     else ∃ a', st2.mu = M a' ++ [(D, .list out)] ∧ I xs out a') (fun _ _ => False)) ∧
   ∀ out a D, I [] out a → Q (.v (.ref D)) ⟨st.loc, (D, .list out) :: M a⟩) X)
  (hs : ∀ v, foldedSetIterable iter c.env v = pure v) : TE c st (.ListComp elt [⟨.Name x px, iter, ifs, 0⟩] scope pos) Q X := fun s0 r0 => by
 rw [eval_ListComp]
 refine comp_core M I xc fv fvl globs' (use := none) (W := Post RV Q c st s0) r0 hS hok hgl hhd hfv hlen h (fun own1 C D out a s2 hF hC ho r t zm0 => o10 zm0 fun m hns => ⟨m, hns, fun h' hs' => ?_⟩) hs
 refine o01 (Rel.letC hC ho r t hs') fun r5 t5 => ?_
 refine o01 (r5.perm (mu' := (D, .list out) :: M a) (List.perm_append_comm)) fun r6 t6 => ?_
 exact ⟨.v (.ref D), _, hF, r6, t5.trans t6, rfl⟩
theorem TS_assign_comp {σ : Type} (M : σ → List (Addr × AO)) (I : List PyData → List PyData → σ → Prop) (xc : Bool) (fv : List Str) (fvl : List (Option AV)) (globs' : List (Str × Value))
  {elt iter : Expr} {x y : Str} {px py spos : Pos} {ifs : List Expr} {scope sc : Scope} {Q : AF → St → Prop}
  (hS : c.env.scope = sc) (hok : compOk scope sc x xc fv globs' = true) (hgl : ∀ P, globs'.all (globOk (KF P) (relabelS scope sc)) = true) (hhd : c.hd = false) (hfr : c.fr = []) (hfv : Frees c.vars st.loc fv fvl)
  (hlen : ∀ xs out a, I xs out a → out.length ≤ 1000)
  (h : TE c st iter (fun z st1 => ∃ xs a0, Iters c.w z xs ∧ st1 = ⟨st.loc, M a0⟩ ∧ I xs [] a0 ∧
   (∀ o' : Other, o'.w = c.w → o'.env.scope = relabelS scope sc → ∀ D y xs out a, I (y :: xs) out a →
    TI (mkIn (x :: fv) globs' c.room o' fv (if xc then [x] else [])) ⟨some (.d y) :: fvl, M a ++ [(D, .list out)]⟩ ifs (fun b st2 =>
     if b = true then TE (mkIn (x :: fv) globs' c.room o' fv (if xc then [x] else [])) st2 elt (fun w st3 => ∃ p a', w = .d p ∧ st3.mu = M a' ++ [(D, .list out)] ∧ I xs (out ++ [p]) a') (fun _ _ => False)
     else ∃ a', st2.mu = M a' ++ [(D, .list out)] ∧ I xs out a') (fun _ _ => False)) ∧
   ∀ out a D, I [] out a → ∃ loc', StoreAt c.vars st.loc y (.v (.ref D)) loc' ∧ Q .next ⟨loc', (D, .list out) :: M a⟩) X)
  (hsw : swapsWith (.ListComp elt [⟨.Name x px, iter, ifs, 0⟩] scope pos) (some (.Name y py)) spos.line c.env = pure true)
  (hs : ∀ v, foldedSetIterable iter c.env v = pure v) : TS c st (.Assign [.Name y py] (.ListComp elt [⟨.Name x px, iter, ifs, 0⟩] scope pos) spos) Q X := fun s0 r0 => by
 rw [exec_Assign_Name_used _ _ _ _ hsw]
 refine wpAny_bind (wpAny_standAt (wpAny_bind ?_))
 show wpAny _ _ (do let _ ← comprehension (.ListComp elt [⟨.Name x px, iter, ifs, 0⟩] scope pos) scope c.env (firstIterPos [⟨.Name x px, iter, ifs, 0⟩] pos) (newList []) (firstAsync [⟨.Name x px, iter, ifs, 0⟩]) (eval iter c.env) (some (assign (.Name y py) c.env))) _ _ _
 refine wpAny_bind (wpAny_mono (comp_core M I xc fv fvl globs' (use := some (assign (.Name y py) c.env)) (W := fun _ s' => Post RF Q c st s0 .next s') r0 hS hok hgl hhd hfv hlen h (fun own1 C D out a s2 hF hC ho r t hns => ?_) hs) (fun _ s' hq => wpAny_pure (wpAny_pure hq)) fun _ _ e => e)
 refine o11 hF fun loc' hst hQ => ?_
 try clear hF
 refine o04 (ho C hC) fun q1 q2 q3 q4 q5 => ?_
 show wpAny c.M c.A (assign (.Name y py) c.env (.ref D)) _ _ s2
 refine wpAny_assign_Name (wp_store (c := c.rep (own1 ++ c.priv)) (a := .v (.ref D)) r hst rfl hfr fun s3 r3 t3 => ?_)
 refine o10 hns fun m hm => ?_
 try clear hns
 refine i11 m (hm.at' fun o e => t3.keep C o e q1 q2 fun z => (r.apart C z).2.2.1 (List.mem_append_left _ hC)) (fun h' hs' => ?_)
 refine o01 (Rel.letC hC ho r3 (t.trans t3.of_rep) hs') fun r5 t5 => ?_
 refine o01 (r5.perm (mu' := (D, .list out) :: M a) (List.perm_append_comm)) fun r6 t6 => ?_
 exact ⟨.next, _, hQ, r6, t5.trans t6, rfl⟩
end
end
section
theorem enter_law_texts {c : Cx} {st : St} {X : Flds → List (Option AV) → Prop} {a0 : AV} {Q : AV → St → Prop} (pas post : List (Addr × AO)) (hmu : st.mu = pas ++ post) (hhd : c.hd = false) (hroom : 1 ≤ c.room)
  (body : ∀ o : Other, o.w = c.w → (mkCx ["pen"] [("range", .type "range"), ("_law_take", .ref 263)] (c.room - 1) o ["pen"]).Fn → o.env.scope = (fdOf 41).2.2 → TL (mkCx ["pen"] [("range", .type "range"), ("_law_take", .ref 263)] (c.room - 1) o ["pen"]) ⟨[some a0], pas⟩ (fdOf 41).2.1 (RetQ fun a st' => Q a ⟨st.loc, [] ++ st'.mu ++ post⟩) (fun fs _ => X fs st.loc)) :
  TC c st (.ref 282) [a0] Q X := by
 have h1 : ∀ P, (KF P).lookup 282 = some (fnO "_law_texts" "_law_texts" (fdOf 41) (.none) (.str "law_oj0059_01" 548) (.ref 281)) := fun P => by kernel_rfl
 have h2 : ∀ P, codeIn (KF P) (.ref 281) "_law_texts" = true := fun P => by kernel_rfl
 have h3 : ∀ P, scOkC (KF P) (fdOf 41).2.2 ["pen"] [("range", .type "range"), ("_law_take", .ref 263)] ["pen"] = true := fun P => by kernel_rfl
 have h4 : (fdOf 41).1 = ⟨[], (fdOf 41).1.args, none, [], [], none, []⟩ := by kernel_rfl
 have h5 : (fdOf 41).1.args.map (·.arg) = (["pen"] : List Str) := by kernel_rfl
 generalize fdOf 41 = f at *
 exact TC_defC (pre := []) (pas := pas) (post := post) (loc0 := [some a0]) (vars := ["pen"]) (ps := ["pen"]) (globs := [("range", .type "range"), ("_law_take", .ref 263)]) (cv := ["pen"]) (nm := "_law_texts") (qual := "_law_texts") (f := f) (pm := .str "law_oj0059_01" 548) (cd := .ref 281)
  h1 h2 h3 hhd hroom hmu h4 h5 (by decide) (i11 [] rfl rfl) rfl body
theorem enter_law_drawn {c : Cx} {st : St} {X : Flds → List (Option AV) → Prop} {a0 : AV} {Q : AV → St → Prop} (pas post : List (Addr × AO)) (hmu : st.mu = pas ++ post) (hhd : c.hd = false) (hroom : 1 ≤ c.room)
  (body : ∀ o : Other, o.w = c.w → (mkCx ["pen", "code", "value", "level", "ret", "is_error", "raising", "coded", "info", "others"] [("_law_take", .ref 263), ("_law_text", .ref 277), ("_law_number", .ref 289), ("_law_errorcode", .ref 296), ("range", .type "range")] (c.room - 1) o ["pen", "is_error"]).Fn → o.env.scope = (fdOf 45).2.2 → TL (mkCx ["pen", "code", "value", "level", "ret", "is_error", "raising", "coded", "info", "others"] [("_law_take", .ref 263), ("_law_text", .ref 277), ("_law_number", .ref 289), ("_law_errorcode", .ref 296), ("range", .type "range")] (c.room - 1) o ["pen", "is_error"]) ⟨[some a0, none, none, none, none, none, none, none, none, none], pas⟩ (fdOf 45).2.1 (RetQ fun a st' => Q a ⟨st.loc, [] ++ st'.mu ++ post⟩) (fun fs _ => X fs st.loc)) :
  TC c st (.ref 308) [a0] Q X := by
 have h1 : ∀ P, (KF P).lookup 308 = some (fnO "_law_drawn" "_law_drawn" (fdOf 45) (.none) (.str "law_oj0059_01" 548) (.ref 307)) := fun P => by kernel_rfl
 have h2 : ∀ P, codeIn (KF P) (.ref 307) "_law_drawn" = true := fun P => by kernel_rfl
 have h3 : ∀ P, scOkC (KF P) (fdOf 45).2.2 ["pen", "code", "value", "level", "ret", "is_error", "raising", "coded", "info", "others"] [("_law_take", .ref 263), ("_law_text", .ref 277), ("_law_number", .ref 289), ("_law_errorcode", .ref 296), ("range", .type "range")] ["pen", "is_error"] = true := fun P => by kernel_rfl
 have h4 : (fdOf 45).1 = ⟨[], (fdOf 45).1.args, none, [], [], none, []⟩ := by kernel_rfl
 have h5 : (fdOf 45).1.args.map (·.arg) = (["pen"] : List Str) := by kernel_rfl
 generalize fdOf 45 = f at *
 exact TC_defC (pre := []) (pas := pas) (post := post) (loc0 := [some a0, none, none, none, none, none, none, none, none, none]) (vars := ["pen", "code", "value", "level", "ret", "is_error", "raising", "coded", "info", "others"]) (ps := ["pen"]) (globs := [("_law_take", .ref 263), ("_law_text", .ref 277), ("_law_number", .ref 289), ("_law_errorcode", .ref 296), ("range", .type "range")]) (cv := ["pen", "is_error"]) (nm := "_law_drawn") (qual := "_law_drawn") (f := f) (pm := .str "law_oj0059_01" 548) (cd := .ref 307)
  h1 h2 h3 hhd hroom hmu h4 h5 (by decide) (i11 ["code", "value", "level", "ret", "is_error", "raising", "coded", "info", "others"] rfl rfl) rfl body
theorem enter_law_last {c : Cx} {st : St} {X : Flds → List (Option AV) → Prop} {a0 : AV} {Q : AV → St → Prop} (pas post : List (Addr × AO)) (hmu : st.mu = pas ++ post) (hhd : c.hd = false) (hroom : 1 ≤ c.room)
  (body : ∀ o : Other, o.w = c.w → (mkCx ["pairs", "names", "name", "text"] [] (c.room - 1) o ["pairs"]).Fn → o.env.scope = (fdOf 47).2.2 → TL (mkCx ["pairs", "names", "name", "text"] [] (c.room - 1) o ["pairs"]) ⟨[some a0, none, none, none], pas⟩ (fdOf 47).2.1 (RetQ fun a st' => Q a ⟨st.loc, [] ++ st'.mu ++ post⟩) (fun fs _ => X fs st.loc)) :
  TC c st (.ref 320) [a0] Q X := by
 have h1 : ∀ P, (KF P).lookup 320 = some (fnO "_law_last" "_law_last" (fdOf 47) (.none) (.str "law_oj0059_01" 548) (.ref 319)) := fun P => by kernel_rfl
 have h2 : ∀ P, codeIn (KF P) (.ref 319) "_law_last" = true := fun P => by kernel_rfl
 have h3 : ∀ P, scOkC (KF P) (fdOf 47).2.2 ["pairs", "names", "name", "text"] [] ["pairs"] = true := fun P => by kernel_rfl
 have h4 : (fdOf 47).1 = ⟨[], (fdOf 47).1.args, none, [], [], none, []⟩ := by kernel_rfl
 have h5 : (fdOf 47).1.args.map (·.arg) = (["pairs"] : List Str) := by kernel_rfl
 generalize fdOf 47 = f at *
 exact TC_defC (pre := []) (pas := pas) (post := post) (loc0 := [some a0, none, none, none]) (vars := ["pairs", "names", "name", "text"]) (ps := ["pairs"]) (globs := []) (cv := ["pairs"]) (nm := "_law_last") (qual := "_law_last") (f := f) (pm := .str "law_oj0059_01" 548) (cd := .ref 319)
  h1 h2 h3 hhd hroom hmu h4 h5 (by decide) (i11 ["names", "name", "text"] rfl rfl) rfl body
theorem enter_law_due {c : Cx} {st : St} {X : Flds → List (Option AV) → Prop} {a0 a1 a2 a3 : AV} {Q : AV → St → Prop} (pas post : List (Addr × AO)) (hmu : st.mu = pas ++ post) (hhd : c.hd = false) (hroom : 1 ≤ c.room)
  (body : ∀ o : Other, o.w = c.w → (mkCx ["pairs", "code", "level", "value", "held", "own", "coded", "info", "others"] [("dict", .type "dict")] (c.room - 1) o ["own"]).Fn → o.env.scope = (fdOf 50).2.2 → TL (mkCx ["pairs", "code", "level", "value", "held", "own", "coded", "info", "others"] [("dict", .type "dict")] (c.room - 1) o ["own"]) ⟨[some a0, some a1, some a2, some a3, none, none, none, none, none], pas⟩ (fdOf 50).2.1 (RetQ fun a st' => Q a ⟨st.loc, [] ++ st'.mu ++ post⟩) (fun fs _ => X fs st.loc)) :
  TC c st (.ref 339) [a0, a1, a2, a3] Q X := by
 have h1 : ∀ P, (KF P).lookup 339 = some (fnO "_law_due" "_law_due" (fdOf 50) (.none) (.str "law_oj0059_01" 548) (.ref 338)) := fun P => by kernel_rfl
 have h2 : ∀ P, codeIn (KF P) (.ref 338) "_law_due" = true := fun P => by kernel_rfl
 have h3 : ∀ P, scOkC (KF P) (fdOf 50).2.2 ["pairs", "code", "level", "value", "held", "own", "coded", "info", "others"] [("dict", .type "dict")] ["own"] = true := fun P => by kernel_rfl
 have h4 : (fdOf 50).1 = ⟨[], (fdOf 50).1.args, none, [], [], none, []⟩ := by kernel_rfl
 have h5 : (fdOf 50).1.args.map (·.arg) = (["pairs", "code", "level", "value"] : List Str) := by kernel_rfl
 generalize fdOf 50 = f at *
 exact TC_defC (pre := []) (pas := pas) (post := post) (loc0 := [some a0, some a1, some a2, some a3, none, none, none, none, none]) (vars := ["pairs", "code", "level", "value", "held", "own", "coded", "info", "others"]) (ps := ["pairs", "code", "level", "value"]) (globs := [("dict", .type "dict")]) (cv := ["own"]) (nm := "_law_due") (qual := "_law_due") (f := f) (pm := .str "law_oj0059_01" 548) (cd := .ref 338)
  h1 h2 h3 hhd hroom hmu h4 h5 (by decide) (i11 ["held", "own", "coded", "info", "others"] rfl rfl) rfl body
theorem enter_law_is_right {c : Cx} {st : St} {X : Flds → List (Option AV) → Prop} {a0 : AV} {Q : AV → St → Prop} (pas post : List (Addr × AO)) (hmu : st.mu = pas ++ post) (hhd : c.hd = false) (hroom : 1 ≤ c.room)
  (body : ∀ o : Other, o.w = c.w → (mkCx ["pen", "raising", "drawn", "value", "flat", "again", "text", "back", "ahead", "mark", "later", "beside", "wrapped", "pairs", "written", "got"] [("_law_drawn", .ref 308), ("_law_flat", .ref 327), ("_law_again", .ref 334), ("options_text", .ref 200), ("_law_raised", .ref 315), ("split_list", .ref 143), ("end_raised", .ref 256), ("_law_fields", .ref 346), ("_law_take", .ref 263), ("_law_text", .ref 277), ("join_list", .ref 172), ("_law_last", .ref 320), ("range", .type "range"), ("len", .builtin "len"), ("str", .type "str"), ("_law_due", .ref 339), ("_law_refused", .ref 367)] (c.room - 1) o ["flat"]).Fn → o.env.scope = (fdOf 55).2.2 → TL (mkCx ["pen", "raising", "drawn", "value", "flat", "again", "text", "back", "ahead", "mark", "later", "beside", "wrapped", "pairs", "written", "got"] [("_law_drawn", .ref 308), ("_law_flat", .ref 327), ("_law_again", .ref 334), ("options_text", .ref 200), ("_law_raised", .ref 315), ("split_list", .ref 143), ("end_raised", .ref 256), ("_law_fields", .ref 346), ("_law_take", .ref 263), ("_law_text", .ref 277), ("join_list", .ref 172), ("_law_last", .ref 320), ("range", .type "range"), ("len", .builtin "len"), ("str", .type "str"), ("_law_due", .ref 339), ("_law_refused", .ref 367)] (c.room - 1) o ["flat"]) ⟨[some a0, none, none, none, none, none, none, none, none, none, none, none, none, none, none, none], pas⟩ (fdOf 55).2.1 (RetQ fun a st' => Q a ⟨st.loc, [] ++ st'.mu ++ post⟩) (fun fs _ => X fs st.loc)) :
  TC c st (.ref 372) [a0] Q X := by
 have h1 : ∀ P, (KF P).lookup 372 = some (fnO "_law_is_right" "_law_is_right" (fdOf 55) (.none) (.str "law_oj0059_01" 548) (.ref 371)) := fun P => by kernel_rfl
 have h2 : ∀ P, codeIn (KF P) (.ref 371) "_law_is_right" = true := fun P => by kernel_rfl
 have h3 : ∀ P, scOkC (KF P) (fdOf 55).2.2 ["pen", "raising", "drawn", "value", "flat", "again", "text", "back", "ahead", "mark", "later", "beside", "wrapped", "pairs", "written", "got"] [("_law_drawn", .ref 308), ("_law_flat", .ref 327), ("_law_again", .ref 334), ("options_text", .ref 200), ("_law_raised", .ref 315), ("split_list", .ref 143), ("end_raised", .ref 256), ("_law_fields", .ref 346), ("_law_take", .ref 263), ("_law_text", .ref 277), ("join_list", .ref 172), ("_law_last", .ref 320), ("range", .type "range"), ("len", .builtin "len"), ("str", .type "str"), ("_law_due", .ref 339), ("_law_refused", .ref 367)] ["flat"] = true := fun P => by kernel_rfl
 have h4 : (fdOf 55).1 = ⟨[], (fdOf 55).1.args, none, [], [], none, []⟩ := by kernel_rfl
 have h5 : (fdOf 55).1.args.map (·.arg) = (["pen"] : List Str) := by kernel_rfl
 generalize fdOf 55 = f at *
 exact TC_defC (pre := []) (pas := pas) (post := post) (loc0 := [some a0, none, none, none, none, none, none, none, none, none, none, none, none, none, none, none]) (vars := ["pen", "raising", "drawn", "value", "flat", "again", "text", "back", "ahead", "mark", "later", "beside", "wrapped", "pairs", "written", "got"]) (ps := ["pen"]) (globs := [("_law_drawn", .ref 308), ("_law_flat", .ref 327), ("_law_again", .ref 334), ("options_text", .ref 200), ("_law_raised", .ref 315), ("split_list", .ref 143), ("end_raised", .ref 256), ("_law_fields", .ref 346), ("_law_take", .ref 263), ("_law_text", .ref 277), ("join_list", .ref 172), ("_law_last", .ref 320), ("range", .type "range"), ("len", .builtin "len"), ("str", .type "str"), ("_law_due", .ref 339), ("_law_refused", .ref 367)]) (cv := ["flat"]) (nm := "_law_is_right") (qual := "_law_is_right") (f := f) (pm := .str "law_oj0059_01" 548) (cd := .ref 371)
  h1 h2 h3 hhd hroom hmu h4 h5 (by decide) (i11 ["raising", "drawn", "value", "flat", "again", "text", "back", "ahead", "mark", "later", "beside", "wrapped", "pairs", "written", "got"] rfl rfl) rfl body
end
section
theorem getAttrQ_miss_list {prog : Program} {w : World} {A : Around} {E : Value → Shared → Prop} {s : Shared} {a : Addr} {o : Obj} {xs : Array Value} {k : Nat} {name : Str} {Q : Option Value → Shared → Prop}
  (hx : s.heap.get? a = some o) (hc : o.cls = .type "list") (hdat : o.data = .seq xs k) (hd : o.dict = none) (hmiss : typeLookup (.type "list") name = pure none) (hname : (["__module__", "__name__", "__qualname__", "__doc__", "__annotations__"] : List Str).contains name = false) (hA : A.handled = none)
  (h : ∀ h' tk, s.heap.StaysIn h' → Q none { s with heap := h', toks := tk }) (hsz : name.length + 100 ≤ sizeLine) :
  wpAny (model prog w) A (getAttr? (.ref a) name) Q E s := by
 obtain ⟨c, dct, dat, sl⟩ := o
 simp only at hc hdat hd
 subst hc hdat hd
 obtain ⟨hp, g, d, tk, os⟩ := s
 have hT : ∀ tk', (⟨hp, g, d, tk', os⟩ : Shared).TypeIs (.ref a) "list" := fun _ => ⟨_, hx, rfl⟩
 have f1 := sub_AttributeError
 have f3 := F.slot_list_getattribute.lookup
 have f4 := F.slot_list_getattribute.bind (.ref a)
 have f5 := am_list_getattr_none
 unfold getAttr? getAttrBy? getAttrBy
 repeat (any_goals (first | assumption | exact hT _ | ((with_reducible show wpAny _ _ (call (Value.builtin "list.__getattribute__") _ _) _ _ _); refine call_meets F.slot_list_getattribute (hT _) am_entry_list_getattribute (F.args_list_getattribute_2 _ _) (meets_getattribute_miss_list a xs k sl name _ hmiss hname hsz) ⟨hx, hA, fun h' tk' e hx' => ?_⟩) | wp_step))
 refine o20 hx'.there fun t' u' he => ?_
 show wpAny _ _ (getattributeRaised _ _ _ _ _ _ _) _ _ _
 unfold getattributeRaised
 repeat (any_goals (first | assumption | wp_step))
 exact h _ _ hx'.keeps
end
section
noncomputable def ns : Expr → Bool
 | .Starred .. => false
 | _ => true
theorem star_ns {e : Expr} {es : List Expr} {env : Env} (h : ns e = true) : starEach (e :: es) env = (false, eval e env) :: starEach es env := by
 cases e <;> first | rfl | cases h
theorem back_ns {pos : Pos} {env : Env} : ∀ {es : List Expr}, es.all ns = true → (backTo pos (starEach es env)).any (·.1) = false
 | [], _ => rfl
 | e :: es, h => by
  rw [List.all_cons, Bool.and_eq_true] at h
  rw [star_ns h.1]
  exact back_ns (es := es) h.2
section
variable {c : Cx} {X : Flds → List (Option AV) → Prop} {st : St} {pos : Pos}
noncomputable abbrev Nx (c : Cx) (X : Flds → List (Option AV) → Prop) (Q : AF → St → Prop) (xs : List Stmt) : AF → St → Prop := fun f st1 => match f with | .next => TL c st1 xs Q X | f => Q f st1
noncomputable def Sto (c : Cx) (Q : AF → St → Prop) (x : Str) : AV → St → Prop := fun a st1 => ∃ loc', StoreAt c.vars st1.loc x a loc' ∧ Q .next ⟨loc', st1.mu⟩
noncomputable abbrev Cns (a : AV) (Q : List AV → St → Prop) : List AV → St → Prop := fun as st2 => Q (a :: as) st2
noncomputable abbrev TAk (c : Cx) (X : Flds → List (Option AV) → Prop) (pos : Pos) (es : List Expr) (Q : List AV → St → Prop) : AV → St → Prop := fun a st1 => TA c st1 pos es (Cns a Q) X
noncomputable abbrev Cl (c : Cx) (X : Flds → List (Option AV) → Prop) (f : Value) (Q : AV → St → Prop) : List AV → St → Prop := fun as st1 => TC c st1 f as Q X
noncomputable abbrev Bn2 (op : Operator) (x : AV) (Q : AV → St → Prop) : AV → St → Prop := fun y st2 => Bin op x y fun z => Q z st2
noncomputable abbrev Bn1 (c : Cx) (X : Flds → List (Option AV) → Prop) (op : Operator) (r : Expr) (Q : AV → St → Prop) : AV → St → Prop := fun x st1 => TE c st1 r (Bn2 op x Q) X
noncomputable abbrev Bo (Q : AV → St → Prop) : Bool → St → Prop := fun b st => Q (.d (.bool b)) st
noncomputable def Cm2 (op : CmpOp) (x : AV) (Q : Bool → St → Prop) : AV → St → Prop := fun y st2 => ∃ b, Cmp st2 op x y b ∧ Q b st2
noncomputable abbrev Cm1 (c : Cx) (X : Flds → List (Option AV) → Prop) (op : CmpOp) (r : Expr) (Q : Bool → St → Prop) : AV → St → Prop := fun x st1 => TE c st1 r (Cm2 op x Q) X
noncomputable abbrev Br (c : Cx) (X : Flds → List (Option AV) → Prop) (a b : List Stmt) (Q : AF → St → Prop) : Bool → St → Prop := fun z st1 => if z then TL c st1 a Q X else TL c st1 b Q X
noncomputable abbrev Ix (c : Cx) (X : Flds → List (Option AV) → Prop) (a b : Expr) (Q : AV → St → Prop) : Bool → St → Prop := fun z st1 => if z then TE c st1 a Q X else TE c st1 b Q X
noncomputable def Trk (Q : Bool → St → Prop) : AV → St → Prop := fun x st1 => ∃ b, Tru x b ∧ Q b st1
noncomputable def Ret (Q : AF → St → Prop) : AV → St → Prop := fun x st1 => Q (.ret x) st1
noncomputable def Brk (Q : AF → St → Prop) (st : St) : Prop := Q .brk st
noncomputable abbrev Su2 (x : AV) (Q : AV → St → Prop) : AV → St → Prop := fun y st2 => Item st2 x y fun z => Q z st2
noncomputable abbrev Su1 (c : Cx) (X : Flds → List (Option AV) → Prop) (r : Expr) (Q : AV → St → Prop) : AV → St → Prop := fun x st1 => TE c st1 r (Su2 x Q) X
noncomputable def Tup (Q : AV → St → Prop) : List AV → St → Prop := fun as st1 => ∃ ps, as = AVs ps ∧ ps.length ≤ 1000000 ∧ Q (.d (.tuple ps)) st1
noncomputable def Lst (Q : AV → St → Prop) : List AV → St → Prop := fun as st1 => ∃ ps, as = AVs ps ∧ ps.length ≤ 1000000 ∧ Q (.d (.list ps)) st1
noncomputable abbrev Asn (c : Cx) (X : Flds → List (Option AV) → Prop) (t : Expr) (Q : AF → St → Prop) : AV → St → Prop := fun a st1 => TT c st1 t a (Q .next) X
noncomputable abbrev Ng (Q : Bool → St → Prop) : Bool → St → Prop := fun b st => Q (!b) st
noncomputable abbrev An (c : Cx) (X : Flds → List (Option AV) → Prop) (pos : Pos) (es : List Expr) (Q : Bool → St → Prop) : Bool → St → Prop := fun b st1 => if b then TB c st1 (.BoolOp .And es pos) Q X else Q false st1
noncomputable abbrev Orr (c : Cx) (X : Flds → List (Option AV) → Prop) (pos : Pos) (es : List Expr) (Q : Bool → St → Prop) : Bool → St → Prop := fun b st1 => if b then Q true st1 else TB c st1 (.BoolOp .Or es pos) Q X
theorem Sto_i {l l' : List (Option AV)} {m : List (Addr × AO)} {Q : AF → St → Prop} {x : Str} {a : AV} (h : StoreAt c.vars l x a l') (k : Q .next ⟨l', m⟩) : Sto c Q x a ⟨l, m⟩ := ⟨_, h, k⟩
theorem Trk_i {Q : Bool → St → Prop} {x : AV} {b : Bool} (h : Tru x b) (k : Q b st) : Trk Q x st := ⟨_, h, k⟩
theorem Trk_b {Q : Bool → St → Prop} {b : Bool} (k : Q b st) : Trk Q (.d (.bool b)) st := ⟨_, Tru.bool, k⟩
theorem Cm_i {op : CmpOp} {x y : AV} {Q : Bool → St → Prop} {b : Bool} (h : Cmp st op x y b) (k : Q b st) : Cm2 op x Q y st := ⟨_, h, k⟩
theorem Tup_i {as : List AV} {ps : List PyData} {Q : AV → St → Prop} (d : Dat as ps) (l : Nat.ble ps.length 1000000 = true) (k : Q (.d (.tuple ps)) st) : Tup Q as st := dat_intro d (Nat.le_of_ble_eq_true l) k
theorem Lst_i {as : List AV} {ps : List PyData} {Q : AV → St → Prop} (d : Dat as ps) (l : Nat.ble ps.length 1000000 = true) (k : Q (.d (.list ps)) st) : Lst Q as st := dat_intro d (Nat.le_of_ble_eq_true l) k
noncomputable abbrev Mc (c : Cx) (X : Flds → List (Option AV) → Prop) (id : String) (x : AV) (Q : AV → St → Prop) : List AV → St → Prop := fun as st2 => TC c st2 (.builtin id) (x :: as) Q X
noncomputable def Mt (c : Cx) (X : Flds → List (Option AV) → Prop) (pos : Pos) (name : Str) (es : List Expr) (Q : AV → St → Prop) : AV → St → Prop := fun x st1 => ∃ id, Meth st1 x name id ∧ match es with
   | [] => TC c st1 (.builtin id) [x] Q X
   | e :: es => TA c st1 pos (e :: es) (fun as st2 => TC c st2 (.builtin id) (x :: as) Q X) X
theorem Mt_0 {name : Str} {Q : AV → St → Prop} {x : AV} {id : String} (h : Meth st x name id) (k : TC c st (.builtin id) [x] Q X) : Mt c X pos name [] Q x st := ⟨_, h, k⟩
theorem Mt_1 {name : Str} {e : Expr} {es : List Expr} {Q : AV → St → Prop} {x : AV} {id : String} (h : Meth st x name id) (k : TA c st pos (e :: es) (Mc c X id x Q) X) : Mt c X pos name (e :: es) Q x st := ⟨_, h, k⟩
noncomputable abbrev Ag (c : Cx) (Q : AF → St → Prop) (x : Str) (op : Operator) (a : AV) : AV → St → Prop := fun b st1 => IBin op a b fun z => Sto c Q x z st1
theorem TS_au {x : Str} {pos' : Pos} {op : Operator} {e : Expr} {a : AV} {Q : AF → St → Prop} (hl : NameAt c.vars st.loc x a) (h : TE c st e (Ag c Q x op a) X) (hfr : c.fr = []) :
  TS c st (.AugAssign (.Name x pos') op e pos) Q X := TS_aug hl h hfr
theorem TL_c {x : Stmt} {xs : List Stmt} {Q : AF → St → Prop} (h : TS c st x (Nx c X Q xs) X) : TL c st (x :: xs) Q X := TL_cons h
theorem TS_sq {x : Stmt} {xs : List Stmt} {Q : AF → St → Prop} (P : St → Prop) (h1 : ∀ K : AF → St → Prop, (∀ f s, Seq P Q f s → K f s) → TS c st x K X) (h2 : ∀ st1, P st1 → TL c st1 xs Q X) : TS c st x (Nx c X Q xs) X := TS_seq P (h1 _ fun _ _ x => x) h2
theorem TS_as {x : Str} {pos' : Pos} {e : Expr} {Q : AF → St → Prop} (h : TE c st e (Sto c Q x) X) (hfr : c.fr = [])
  (hs : swapsWith e (some (.Name x pos')) pos.line c.env = pure false) : TS c st (.Assign [.Name x pos'] e pos) Q X := TS_assign h hfr hs
theorem TA_c {e : Expr} {es : List Expr} {Q : List AV → St → Prop} (h : TE c st e (TAk c X pos es Q) X) (he : ns e = true) : TA c st pos (e :: es) Q X := TA_cons h (star_ns he)
theorem CW_c {f : Value} {e : Expr} {es : List Expr} {Q : AV → St → Prop} (hk : Keeps f) (h : TA c st pos (e :: es) (Cl c X f Q) X)
  (he : (e :: es).all ns = true) : CW c st pos f (e :: es) Q X := CW_cons hk h (star_ns ((Bool.and_eq_true _ _).mp (List.all_cons ▸ he)).1) (back_ns he)
theorem TE_ca {x : Str} {p : Pos} {es : List Expr} {f : Value} {Q : AV → St → Prop} (hl : (x, f) ∈ c.globs) (h : CW c st pos f es Q X) : TE c st (.Call (.Name x p) es [] pos) Q X := TE_call hl h rfl
theorem TE_b {op : Operator} {l r : Expr} {Q : AV → St → Prop} (h : TE c st l (Bn1 c X op r Q) X) : TE c st (.BinOp l op r pos) Q X := TE_bin h
theorem TE_cm {op : CmpOp} {l r : Expr} {Q : AV → St → Prop} (h : TE c st l (Cm1 c X op r (Bo Q)) X) (hm : behindInMarks op r = false) : TE c st (.Compare l [op] [r] pos) Q X := TE_cmp h hm
theorem TB_cm {op : CmpOp} {l r : Expr} {Q : Bool → St → Prop} (h : TE c st l (Cm1 c X op r Q) X) (hm : behindInMarks op r = false) : TB c st (.Compare l [op] [r] pos) Q X := TB_cmp h hm
theorem TS_if' {t : Expr} {a b : List Stmt} {Q : AF → St → Prop} (h : TB c st t (Br c X a b Q) X) : TS c st (.If t a b pos) Q X := TS_if h
theorem TB_p {e : Expr} {Q : Bool → St → Prop} (h : TE c st e (Trk Q) X) (he : isTrue e c.env (eval e c.env) = (do let v ← eval e c.env; standAt e.pos; holding [v] (truthy v))) : TB c st e Q X := TB_plain h he
theorem TS_rt {e : Expr} {Q : AF → St → Prop} (h : TE c st e (Ret Q) X) : TS c st (.Return (some e) pos) Q X := TS_ret h
theorem TE_su {value slice : Expr} {Q : AV → St → Prop} (h : TE c st value (Su1 c X slice Q) X) (hs : ∀ o i, ∃ ops, subscripted slice false o i = operate ops (getItem o i)) : TE c st (.Subscript value slice pos) Q X := TE_sub h hs
theorem TE_tup {es : List Expr} {k} {Q : AV → St → Prop} (h : TA c st pos es (Tup Q) X) : TE c st (.Tuple es k pos) Q X := TE_tuple h
theorem TE_lst {es : List Expr} {Q : AV → St → Prop} (h : TA c st pos es (Lst Q) X) : TE c st (.List es pos) Q X := TE_list h
theorem TS_at {es : List Expr} {x1} {tpos : Pos} {e : Expr} {Q : AF → St → Prop} (h : TE c st e (Asn c X (.Tuple es x1 tpos) Q) X)
  (hs : swapsWithSole [.Tuple es x1 tpos] e pos.line c.env = pure false)
  (hw : swappedStores [.Tuple es x1 tpos] e c.env = pure none) : TS c st (.Assign [.Tuple es x1 tpos] e pos) Q X := TS_assign_tuple h hs hw
theorem TE_mt {o : Expr} {name : Str} {apos : Pos} {es : List Expr} {Q : AV → St → Prop} {pl : Sem Bool} (h : TE c st o (Mt c X pos name es Q) X) (hs : es.all ns = true)
  (he : eval (.Call (.Attribute o name apos) es [] pos) c.env = (do
   let ov ← eval o c.env
   standAt apos.atName
   let (f, first) ← holding [ov] (getMethod ov name pl)
   callWith pos f first (backTo pos (starEach es c.env)) [])) : TE c st (.Call (.Attribute o name apos) es [] pos) Q X := TE_meth h (by
  cases es with
  | nil => exact .inl rfl
  | cons e es => exact .inr (i21 _ _ rfl (star_ns ((Bool.and_eq_true _ _).mp (List.all_cons ▸ hs)).1))) (back_ns hs) ⟨_, he⟩
theorem TB_nt {e : Expr} {Q : Bool → St → Prop} (h : TB c st e (Ng Q) X) : TB c st (.UnaryOp .Not e pos) Q X := TB_not h
theorem TB_an {e : Expr} {es : List Expr} {Q : Bool → St → Prop} (h : TB c st e (An c X pos es Q) X) : TB c st (.BoolOp .And (e :: es) pos) Q X := TB_and h
theorem TB_o {e : Expr} {es : List Expr} {Q : Bool → St → Prop} (h : TB c st e (Orr c X pos es Q) X) : TB c st (.BoolOp .Or (e :: es) pos) Q X := TB_or h
theorem TE_ix {t a b : Expr} {Q : AV → St → Prop} (h : TB c st t (Ix c X a b Q) X) : TE c st (.IfExp t a b pos) Q X := TE_ifexp h
section
variable {l l' : List (Option AV)} {m mu1 mu' : List (Addr × AO)}
theorem TT_nm {x : Str} {a : AV} {K : St → Prop} (hl : StoreAt c.vars l x a l') (h : K ⟨l', m⟩) (hfr : c.fr = []) : TT c ⟨l, m⟩ (.Name x pos) a K X := TT_name hl h hfr
theorem swp2 {a b : Str} {p q : PyData} {loc1 loc2 : List (Option AV)} {K : St → Prop} (h1 : StoreAt c.vars l b (.d q) loc1) (h2 : StoreAt c.vars loc1 a (.d p) loc2) (k : K ⟨loc2, m⟩) :
  ∃ ps, AV.d (.tuple [p, q]) = .d (.tuple ps) ∧ ps.length = [a, b].length ∧ TNs c ⟨l, m⟩ [a, b].reverse ps.reverse K := swap2 h1 h2 k
theorem TC_app {a : Addr} {ps : List PyData} {p : PyData} {Q : AV → St → Prop} (hm : MuSet m a (.list ps) (.list (ps ++ [p])) mu') (hl : ps.length < 1000000) (h : Q (.d .none) ⟨l, mu'⟩) : TC c ⟨l, m⟩ (.builtin "list.append") [.v (.ref a), .d p] Q X := TC_append hm hl h
theorem TC_pp {a : Addr} {ps qs : List PyData} {p : PyData} {i : Int} {Q : AV → St → Prop} (hm : MuSet m a (.list ps) (.list qs) mu') (h0 : 0 ≤ i) (hp : ps[i.toNat]? = some p) (hq : qs = ps.eraseIdx i.toNat) (h : Q (.d p) ⟨l, mu'⟩) : TC c ⟨l, m⟩ (.builtin "list.pop") [.v (.ref a), .d (.int i)] Q X := TC_pop hm h0 hp hq h
theorem TC_ext {a b : Addr} {ps qs : List PyData} {Q : AV → St → Prop} (hb : MuOut m b (.list qs) mu1) (hm : MuSet mu1 a (.list ps) (.list (ps ++ qs)) mu') (hl : ps.length + qs.length ≤ 1000000) (h : Q (.d .none) ⟨l, mu'⟩) : TC c ⟨l, m⟩ (.builtin "list.extend") [.v (.ref a), .v (.ref b)] Q X := TC_extend hb hm hl h
theorem TE_dmu {Q : AV → St → Prop} (h : ∀ a, Q (.v (.ref a)) ⟨l, (a, .dict []) :: m⟩) : TE c ⟨l, m⟩ (.Dict [] [] pos) Q X := TE_dict_mu h
theorem setitm_list {a : Addr} {ps qs : List PyData} {i : Int} {p : PyData} {K : St → Prop} (hm : MuSet m a (.list ps) (.list qs) mu') (h0 : 0 ≤ i) (hi : i.toNat < ps.length) (hq : qs = ps.set i.toNat p) (h : K ⟨l, mu'⟩) :
  ∀ s v w u, Rel c ⟨l, m⟩ s → RV (fz c ⟨l, m⟩ s.heap) (.v (.ref a)) v → RV (fz c ⟨l, m⟩ s.heap) (.d (.int i)) w → RV (fz c ⟨l, m⟩ s.heap) (.d p) u → wpAny c.M c.A (setItem v w u) (fun _ s' => ∃ st', K st' ∧ Rel c st' s' ∧ Tr c ⟨l, m⟩ s st' s') (EPost X c ⟨l, m⟩ s) s := setitem_list (st := ⟨l, m⟩) hm h0 hi hq h
theorem setitm_dict {a : Addr} {kvs : List (Str × PyData)} {x : Str} {p : PyData} {K : St → Prop} (hm : MuSet m a (.dict kvs) (.dict (putS kvs x p)) mu') (hl : kvs.length < 900) (h : K ⟨l, mu'⟩) :
  ∀ s v w u, Rel c ⟨l, m⟩ s → RV (fz c ⟨l, m⟩ s.heap) (.v (.ref a)) v → RV (fz c ⟨l, m⟩ s.heap) (.d (.str x)) w → RV (fz c ⟨l, m⟩ s.heap) (.d p) u → wpAny c.M c.A (setItem v w u) (fun _ s' => ∃ st', K st' ∧ Rel c st' s' ∧ Tr c ⟨l, m⟩ s st' s') (EPost X c ⟨l, m⟩ s) s := setitem_dict (st := ⟨l, m⟩) hm hl h
noncomputable def LstM (Q : AV → St → Prop) : List AV → St → Prop := fun as st1 => ∃ ps, as = AVs ps ∧ ps.length ≤ 1000000 ∧ ∀ a, Q (.v (.ref a)) ⟨st1.loc, (a, .list ps) :: st1.mu⟩
theorem LM_i {as : List AV} {ps : List PyData} {Q : AV → St → Prop} (d : Dat as ps) (e : Nat.ble ps.length 1000000 = true) (k : ∀ a, Q (.v (.ref a)) ⟨l, (a, .list ps) :: m⟩) : LstM Q as ⟨l, m⟩ := dat_intro d (Nat.le_of_ble_eq_true e) k
theorem TE_lmu {es : List Expr} {Q : AV → St → Prop} (h : TA c st pos es (LstM Q) X) : TE c st (.List es pos) Q X := TE_list_mu h
end
theorem rm {n m a : Nat} (h : n ≤ a) (e : Nat.ble (m + 1) n = true) : m ≤ a - 1 := Nat.le_sub_of_add_le (Nat.le_trans (Nat.le_of_ble_eq_true e) h)
theorem rm0 {n m a : Nat} (h : n ≤ a) (e : Nat.ble m n = true) : m ≤ a := Nat.le_trans (Nat.le_of_ble_eq_true e) h
theorem TS_rn {Q : AF → St → Prop} (h : Ret Q (.d .none) st) : TS c st (.Return none pos) Q X := TS_ret_none h
theorem TS_bk {Q : AF → St → Prop} (h : Brk Q st) : TS c st (.Break pos) Q X := TS_break h
theorem Rt_k {Q K : AF → St → Prop} {a : AV} (hK : ∀ f s, Q f s → K f s) (h : Q (.ret a) st) : Ret K a st := hK _ _ h
theorem Rt_n {Q : AF → St → Prop} {xs : List Stmt} {a : AV} (h : Ret Q a st) : Ret (Nx c X Q xs) a st := h
theorem Rt_s {P : St → Prop} {Q : AF → St → Prop} {a : AV} (h : Ret Q a st) : Ret (Seq P Q) a st := h
theorem Bk_k {Q K : AF → St → Prop} (hK : ∀ f s, Q f s → K f s) (h : Q .brk st) : Brk K st := hK _ _ h
theorem Bk_n {Q : AF → St → Prop} {xs : List Stmt} (h : Brk Q st) : Brk (Nx c X Q xs) st := h
theorem Bk_s {P : St → Prop} {Q : AF → St → Prop} (h : Brk Q st) : Brk (Seq P Q) st := h
theorem Sq_r {P : St → Prop} {Q : AF → St → Prop} {a : AV} (h : Ret Q a st) : Seq P Q (.ret a) st := h
theorem Sq_b {P : St → Prop} {Q : AF → St → Prop} (h : Brk Q st) : Seq P Q .brk st := h
theorem ab {α : Type} {Q K : α → St → Prop} {a : α} (hK : ∀ f s, Q f s → K f s) (h : Q a st) : K a st := hK a st h
theorem absL {xs : List Stmt} {Q : AF → St → Prop} (h : ∀ K : AF → St → Prop, (∀ f s, Q f s → K f s) → TL c st xs K X) : TL c st xs Q X := h Q fun _ _ x => x
theorem exT {α : Type} {p q : α → Prop} {a : α} (h : p a) (k : q a) : ∃ a, p a ∧ q a := i11 a h k
theorem brI {α : Sort u} {p : α → Prop} {a : α} (h : p a) : ∃ a, p a := ⟨a, h⟩
theorem exI {α : Type} {p : α → Prop} {q : Prop} (h : ∀ a, p a → q) : (∃ a, p a) → q := fun zm2 => o10 zm2 fun a x => h a x
theorem aiI {a b q : Prop} (h : a → b → q) : a ∧ b → q := fun zm1 => o01 zm1 fun x y => h x y
theorem absN {xs xs' : List Stmt} {x : Stmt} {Q : AF → St → Prop} (e : xs = x :: xs') (h : ∀ K : AF → St → Prop, (∀ f s, Q f s → K f s) → TS c st x (Nx c X K xs') X) : TL c st xs Q X := e ▸ TL_c (h Q fun _ _ x => x)
theorem absS {x : Stmt} {Q : AF → St → Prop} (h : ∀ K : AF → St → Prop, (∀ f s, Q f s → K f s) → TS c st x K X) : TS c st x Q X := h Q fun _ _ x => x
theorem TL_w {xs : List Stmt} {Q K : AF → St → Prop} (hK : ∀ f s, Q f s → K f s) (h : TL c st xs Q X) : TL c st xs K X := T.conseq h hK fun _ _ x => x
noncomputable def WhileK {σ : Type} (Q : AF → St → Prop) (S : σ → St) (I : σ → Prop) (m : σ → Nat) (a : σ) : AF → St → Prop := WhileQ Q S I m a
theorem WK_n {σ : Type} {Q : AF → St → Prop} {S : σ → St} {I : σ → Prop} {m : σ → Nat} {a : σ} (h : ∃ a', Le (S a') st ∧ I a' ∧ m a' < m a) : WhileK Q S I m a .next st := h
theorem WK_c {σ : Type} {Q : AF → St → Prop} {S : σ → St} {I : σ → Prop} {m : σ → Nat} {a : σ} (h : ∃ a', Le (S a') st ∧ I a' ∧ m a' < m a) : WhileK Q S I m a .cont st := h
theorem WK_b {σ : Type} {Q : AF → St → Prop} {S : σ → St} {I : σ → Prop} {m : σ → Nat} {a : σ} (h : Q .next st) : WhileK Q S I m a .brk st := h
theorem WK_r {σ : Type} {Q : AF → St → Prop} {S : σ → St} {I : σ → Prop} {m : σ → Nat} {a : σ} {v : AV} (h : Ret Q v st) : WhileK Q S I m a (.ret v) st := h
noncomputable def ForK {σ : Type} (Q : AF → St → Prop) (S : σ → St) (I : List PyData → σ → Prop) (xs : List PyData) : AF → St → Prop := ForQ Q S I xs
theorem FK_n {σ : Type} {Q : AF → St → Prop} {S : σ → St} {I : List PyData → σ → Prop} {xs : List PyData} (h : ∃ a', Le (S a') st ∧ I xs a') : ForK Q S I xs .next st := h
theorem FK_c {σ : Type} {Q : AF → St → Prop} {S : σ → St} {I : List PyData → σ → Prop} {xs : List PyData} (h : ∃ a', Le (S a') st ∧ I xs a') : ForK Q S I xs .cont st := h
theorem FK_b {σ : Type} {Q : AF → St → Prop} {S : σ → St} {I : List PyData → σ → Prop} {xs : List PyData} (h : Q .next st) : ForK Q S I xs .brk st := h
theorem FK_r {σ : Type} {Q : AF → St → Prop} {S : σ → St} {I : List PyData → σ → Prop} {xs : List PyData} {v : AV} (h : Ret Q v st) : ForK Q S I xs (.ret v) st := h
noncomputable abbrev Lp (c : Cx) (X : Flds → List (Option AV) → Prop) (body : List Stmt) (Q K : AF → St → Prop) : Bool → St → Prop := fun b st1 => if b then TL c st1 body K X else Q .next st1
theorem TS_wh {σ : Type} (S : σ → St) (I : σ → Prop) (m : σ → Nat) (a0 : σ) (hF : c.Fn) {test : Expr} {body : List Stmt} {Q : AF → St → Prop} (hle : Le (S a0) st) (h0 : I a0)
  (turn : ∀ a, ∀ K : AF → St → Prop, (∀ f s, WhileK Q S I m a f s → K f s) → I a → TB c (S a) test (Lp c X body Q K) X) : TS c st (.While test body [] pos) Q X :=
 TS_while S I m a0 hF hle h0 fun a ha => turn a _ (fun _ _ x => x) ha
noncomputable abbrev Fb (c : Cx) (X : Flds → List (Option AV) → Prop) (body : List Stmt) (K : AF → St → Prop) : St → Prop := fun st2 => TL c st2 body K X
theorem TS_fr {vars : List Str} {globs : List (Str × Value)} {room : Nat} {o : Other} {cv : List Str} {σ : Type} (S : σ → St) (I : List PyData → σ → Prop) (hF : (mkCx vars globs room o cv).Fn) {target iter : Expr} {body : List Stmt} {Q : AF → St → Prop}
  (h : TE (mkCx vars globs room o cv) st iter (fun a st1 => ∃ xs a0, Iters o.w a xs ∧ Le (S a0) st1 ∧ I xs a0 ∧
   (∀ o' : Other, o'.w = o.w → (mkCx vars globs room o' cv).Fn → ∀ x xs a, I (x :: xs) a → ∀ K : AF → St → Prop, (∀ f s, ForK Q S I xs f s → K f s) → TT (mkCx vars globs room o' cv) (S a) target (.d x) (Fb (mkCx vars globs room o' cv) X body K) X) ∧
   ∀ a, I [] a → Q .next (S a)) X)
  (hs : ∀ x, foldedSetIterable iter (mkCx vars globs room o cv).env x = pure x) : TS (mkCx vars globs room o cv) st (.For target iter body [] pos) Q X :=
 TS_for S I hF (T.conseq h (fun a st1 zm0 => o24 zm0 fun xs a0 h1 h2 h3 h4 h5 => i24 xs a0 h1 h2 h3 (fun o' e hF' x xs a hi => h4 o' e hF' x xs a hi _ fun _ _ x => x) h5) fun _ _ x => x) hs
end
end
theorem not_cv {l : List Str} {x : Str} (h : l.contains x = false) : ¬ x ∈ l := fun m => by
 rw [List.contains_iff_mem.mpr m] at h; cases h
local macro_rules | `(tactic| walk_at "SN") => `(tactic| first | exact swap_none (by kernel_rfl!) | walk_at "R")
local macro_rules | `(tactic| walk_at "AS") => `(tactic| assumption)
local macro_rules | `(tactic| walk_at "R") => `(tactic| first | kernel_rfl! | with_unfolding_all rfl | skip)
local macro_rules | `(tactic| walk_at "DA") => `(tactic| with_reducible ((repeat apply Dat.cons); exact Dat.nil))
local macro_rules | `(tactic| walk_at "RM") => `(tactic| first | exact rm (by assumption) (by rfl) | exact rm0 (by assumption) (by rfl))
local macro_rules | `(tactic| walk_at "T") => `(tactic| (walk_at "V"; repeat ((with_reducible refine TL_c ?_); walk_at "V")))
local macro_rules | `(tactic| walk_at "LE") => `(tactic| (refine ⟨?_, rfl⟩; walk_at "LL"))
local macro_rules | `(tactic| walk_at "SU") => `(tactic| (intro o i; exact ⟨_, by walk_at "R"⟩))
local macro_rules | `(tactic| walk_at $s:str) => do
 let some t := [("NA", "NameAt.here|NameAt.there"), ("SA", "StoreAt.here|StoreAt.there"), ("ME", "mem_h|mem_t"), ("MS", "MuSet.here|MuSet.there"), ("MA", "MuAt.here|MuAt.there"), ("MO", "MuOut.here|MuOut.there"), ("LL", "LeL.nil|LeL.same|LeL.none"),
  ("CM", "Cmp.eq_int|Cmp.ne_int|Cmp.lt_int|Cmp.le_int|Cmp.gt_int|Cmp.ge_int|Cmp.eq_str|Cmp.ne_str|Cmp.is_none|Cmp.isNot_none|Cmp.isNot_ref|Cmp.is_ref|Cmp.in_tup R"), ("MT", "Meth.find|Meth.join|Meth.get|Meth.append MA|Meth.extend MA|Meth.pop MA"), ("KE", "keeps_bi|keeps_ty|keeps_ref R"),
  ("NC", "List.not_mem_nil|not_cv R"), ("SW", "swI ME NC ME NC R R R R R R"), ("LB", "Nat.le_of_ble_eq_true R"), ("BR", "brI R"),
  ("K", "ab AS _"), ("E", "Rt_n _|Rt_s _|Rt_k AS _|Sq_r _|WK_r _|FK_r _|ab AS _"), ("TM", "TE_tmeth ME _ R R BR"),
  ("N", "TL_c _|TS_expr _ R|TE_mt _ rfl R|TE_name NA _|Mt_1 MT _|TA_c _ rfl|TE_tup _"), ("V", "TE_name NA _|Sto_i SA _|Cm_i CM _|TE_str _|TE_int _|TA_c _ rfl|TA_nil _|TE_ca ME _|CW_c KE _ rfl|TS_as _ R R|TS_if' _|TB_cm _ R|ite_tt _|ite_ff _|TE_b _|Bin.add_int _|Bin.sub_int _|TE_su _ SU|Tup_i DA R _|LM_i DA R _|Lst_i DA R _|TE_tup _|TS_rt _|Rt_n _|Rt_k AS _|Rt_s _|TL_nil _|ab AS _|WK_n _|FK_n _|Trk_b _|TE_mt _ rfl R|Mt_0 MT _|Mt_1 MT _|TE_bool _|TE_none _|TE_cm _ R|TB_chain _ R|TB_nt _|TB_an _|TB_o _|TB_and_nil _|TB_or_nil _|TB_p _ R|TE_glob ME _|TS_rn _|TS_bk _|TS_au NA _ rfl|TS_expr _ R|TS_setattr _ R|TS_assign_swap _ SW R R R|TS_at _ R SN|TS_setitem _ R|TS_raise _ R|TE_un _|TE_ix _|TE_and _|TE_or _|TE_and_one _|TE_slice _|TP_none _|TP_some _|TE_attr _ R|CW_nil KE _|TT_nm SA _ R|TT_tuple _ R R R|TT_attr _|TTs_cons _ R|TTs_nil _|Bk_n _|Bk_k AS _|Bk_s _|Sq_r _|Sq_b _|WK_b _|WK_r _|FK_b _|FK_r _|WK_c _|FK_c _|swp2 SA SA _|dat_intro DA LB _|exT SA _|exT CM _|exT Tru.bool _|exT rfl _|IBin.add_int _|IBin.sub_int _|Un.not Tru.bool _|Un.neg_int _")].lookup s.getString | Lean.Macro.throwUnsupported
 let mut as := #[]
 for w in t.splitOn "|" do
  let f := Lean.mkIdent (w.splitOn " ").head!.toName
  let l := (w.splitOn " ").tail!
  let mut ts := #[]
  let mut cs := #[]
  for x in l do
   if x == "_" then ts := ts.push (← `(?_))
   else if x.length > 2 then ts := ts.push (Lean.mkIdent x.toName)
   else
    let n := Lean.mkIdent (.mkSimple (s.getString ++ toString cs.size))
    ts := ts.push (← `(?$n))
    cs := cs.push (← `(tactic| case $n:ident => walk_at $(Lean.Syntax.mkStrLit x)))
  as := as.push (← if l.isEmpty then `(tactic| apply $f) else `(tactic| (refine' $(Lean.Syntax.mkApp f ts); $[$cs];*)))
 `(tactic| repeat (with_reducible first $[| $as:tactic]*))
section
noncomputable abbrev S (l : List Nat) : Str := ⟨l.toArray⟩
noncomputable def chs (l : List Nat) : List PyData := l.map fun c => .str ⟨#[c]⟩
section
variable {c : Cx} {st : St} {X : Flds → List (Option AV) → Prop} {Q : AV → St → Prop}
theorem one_eq (k ch : Nat) : ((⟨#[k]⟩ : Str) == ⟨#[ch]⟩) = (ch == k) := by
 by_cases h : k = ch
 ·subst h; simp
 ·have : (⟨#[k]⟩ : Str) ≠ ⟨#[ch]⟩ := fun q => h (by injection q with q; simpa using q)
  rw [beq_eq_false_iff_ne.mpr this, beq_eq_false_iff_ne.mpr (fun q => h q.symm)]
theorem ite_in {ch : Nat} (l : List Nat) {ps : List PyData} {A B : Prop} (e : ps = chs l) (h : if l.contains ch = true then A else B) : if ps.any (eqStrD ⟨#[ch]⟩) = true then A else B := by
 subst e
 have : (chs l).any (eqStrD ⟨#[ch]⟩) = l.contains ch := by
  clear h
  induction l with
  | nil => rfl
  | cons k l ih =>
   show (((⟨#[k]⟩ : Str) == ⟨#[ch]⟩) || (chs l).any _) = _
   rw [ih, one_eq, List.contains_cons]
 rw [this]; exact h
theorem any_chars (ch : Nat) (l : List Nat) : (l.map fun k => PyData.str ⟨#[k]⟩).any (eqStrD ⟨#[ch]⟩) = l.contains ch := by
 induction l with
 | nil => rfl
 | cons k l ih =>
  rw [List.map_cons, List.any_cons, ih, List.contains_cons]
  show (((⟨#[k]⟩ : Str) == ⟨#[ch]⟩) || _) = _
  rw [one_eq]
noncomputable def blank (ch : Nat) : Bool := [32, 9, 10, 11, 12, 13].contains ch
theorem is_blank_T {ch : Nat} (hhd : c.hd = false) (hr : 1 ≤ c.room) (h : Q (.d (.bool (blank ch))) st) : TC c st (.ref 52) [.d (.str ⟨#[ch]⟩)] Q X := by
 refine enter_is_blank [] st.mu rfl hhd hr fun o ho hF => ?_
 with_reducible refine' absN ?e fun K0 hK0 => ?_
 case e => exact rfl
 walk_at "T"
 have e := any_chars ch [32, 9, 10, 11, 12, 13]
 rw [← show _ = blank ch from e] at h
 walk_at "E"; exact h
noncomputable def digitN (ch : Nat) : Int := if 48 ≤ ch ∧ ch ≤ 57 then ch - 48 else if 97 ≤ ch ∧ ch ≤ 122 then ch - 87 else if 65 ≤ ch ∧ ch ≤ 90 then ch - 55 else -1
theorem digit_T {ch : Nat} (hhd : c.hd = false) (hr : 1 ≤ c.room) (h : Q (.d (.int (digitN ch))) st) : TC c st (.ref 59) [.d (.str ⟨#[ch]⟩)] Q X := by
 refine enter_digit [] st.mu rfl hhd hr fun o ho hF => ?_
 with_reducible refine' absN ?e fun K0 hK0 => ?_
 case e => exact rfl
 walk_at "T"
 refine TC_len_str (by show 1 ≤ _; decide) ?_
 walk_at "T"
 refine ite_f rfl ?_
 walk_at "T"
 refine TC_ord rfl ?_
 walk_at "T"
 have e : ((⟨#[ch]⟩ : Str).cps.getD 0 0) = ch := rfl
 rw [e]
 have key : ∀ {a b : Int} {A B : Prop}, ((a ≤ ch ∧ ch ≤ b) → A) → (¬(a ≤ ch ∧ (ch : Int) ≤ b) → B) → if decide (a ≤ (ch : Int)) = true then (if decide ((ch : Int) ≤ b) = true then A else B) else B := fun {a b A B} x y => by
  by_cases q : a ≤ (ch : Int)
  ·refine ite_dt q ?_
   by_cases q' : (ch : Int) ≤ b
   ·exact ite_dt q' (x ⟨q, q'⟩)
   ·exact ite_df q' (y fun z => q' z.2)
  ·exact ite_df q (y fun z => q z.1)
 by_cases q1 : 48 ≤ ch ∧ ch ≤ 57
 ·refine ite_dt (by exact fg (.ile (.c 48) (.n (.v 0))) [.le (.c 48) (.v 0)] [1,1] [] rfl [_] [] q1.1) ?_
  walk_at "T"
  refine ite_dt (by exact fg (.ile (.n (.v 0)) (.c 57)) [.le (.v 0) (.c 57)] [1,1] [] rfl [_] [] q1.2) ?_
  walk_at "T"
  rw [show digitN ch = (ch : Int) - 48 from by unfold digitN; rw [if_pos q1]] at h
  walk_at "E"; exact h
 by_cases q2 : 97 ≤ ch ∧ ch ≤ 122
 ·have d : digitN ch = (ch : Int) - 87 := by unfold digitN; rw [if_neg q1, if_pos q2]
  rw [d] at h
  refine ite_dt (by exact fg (.ile (.c 48) (.n (.v 0))) [.le (.c 97) (.v 0)] [1,1] [] rfl [_] [] q2.1) ?_
  walk_at "T"
  refine ite_df (by exact fg (.inle (.n (.v 0)) (.c 57)) [.le (.c 97) (.v 0)] [1,1] [] rfl [_] [] q2.1) ?_
  walk_at "T"
  refine ite_dt (by exact fg (.ile (.c 97) (.n (.v 0))) [.le (.c 97) (.v 0)] [1,1] [] rfl [_] [] q2.1) ?_
  walk_at "T"
  refine ite_dt (by exact fg (.ile (.n (.v 0)) (.c 122)) [.le (.v 0) (.c 122)] [1,1] [] rfl [_] [] q2.2) ?_
  walk_at "T"
  walk_at "E"; exact h
 by_cases q3 : 65 ≤ ch ∧ ch ≤ 90
 ·have d : digitN ch = (ch : Int) - 55 := by unfold digitN; rw [if_neg q1, if_neg q2, if_pos q3]
  rw [d] at h
  refine ite_dt (by exact fg (.ile (.c 48) (.n (.v 0))) [.le (.c 65) (.v 0)] [1,1] [] rfl [_] [] q3.1) ?_
  walk_at "T"
  refine ite_df (by exact fg (.inle (.n (.v 0)) (.c 57)) [.le (.c 65) (.v 0)] [1,1] [] rfl [_] [] q3.1) ?_
  walk_at "T"
  refine ite_df (by exact fg (.inle (.c 97) (.n (.v 0))) [.le (.v 0) (.c 90)] [1,1] [] rfl [_] [] q3.2) ?_
  walk_at "T"
  refine ite_dt (by exact fg (.ile (.c 65) (.n (.v 0))) [.le (.c 65) (.v 0)] [1,1] [] rfl [_] [] q3.1) ?_
  walk_at "T"
  refine ite_dt (by exact fg (.ile (.n (.v 0)) (.c 90)) [.le (.v 0) (.c 90)] [1,1] [] rfl [_] [] q3.2) ?_
  walk_at "T"
  walk_at "E"; exact h
 have d : digitN ch = -1 := by unfold digitN; rw [if_neg q1, if_neg q2, if_neg q3]
 rw [d] at h
 refine ite_d (fun z1 => ?_) fun z1 => ?_ <;> walk_at "T"
 ·refine ite_df (fun z => q1 ⟨(Int.ofNat_le (m := 48)).mp z1, (Int.ofNat_le (n := 57)).mp z⟩) ?_
  walk_at "T"
  refine ite_d (fun z2 => ?_) fun z2 => ?_ <;> walk_at "T"
  ·refine ite_df (fun z => q2 ⟨(Int.ofNat_le (m := 97)).mp z2, (Int.ofNat_le (n := 122)).mp z⟩) ?_
   walk_at "T"
   refine ite_dt (by exact fg (.ile (.c 65) (.n (.v 0))) [.ile (.c 97) (.n (.v 0))] [1,1] [] rfl [_] [] z2) ?_
   walk_at "T"
   refine ite_df (by exact fg (.inle (.n (.v 0)) (.c 90)) [.ile (.c 97) (.n (.v 0))] [1,1] [] rfl [_] [] z2) ?_
   walk_at "T"
   walk_at "E"; exact h
  ·refine ite_d (fun z3 => ?_) fun z3 => ?_ <;> walk_at "T"
   ·refine ite_df (fun z => q3 ⟨(Int.ofNat_le (m := 65)).mp z3, (Int.ofNat_le (n := 90)).mp z⟩) ?_
    walk_at "T"
    walk_at "E"; exact h
   ·walk_at "E"; exact h
 ·refine ite_df (by exact fg (.inle (.c 97) (.n (.v 0))) [.inle (.c 48) (.n (.v 0))] [1,1] [] rfl [_] [] z1) ?_
  walk_at "T"
  refine ite_df (by exact fg (.inle (.c 65) (.n (.v 0))) [.inle (.c 48) (.n (.v 0))] [1,1] [] rfl [_] [] z1) ?_
  walk_at "T"
  walk_at "E"; exact h
noncomputable def digitsGo (base : Int) : Int → List Nat → Option Int
 | acc, [] => some acc
 | acc, ch :: l => if digitN ch < 0 ∨ digitN ch ≥ base then none else digitsGo base (acc * base + digitN ch) l
noncomputable def digitsN (base : Int) (l : List Nat) : Option Int := if l = [] then none else digitsGo base 0 l
noncomputable def optI : Option Int → PyData
 | none => .none
 | some i => .int i
theorem S_nil {l : List Nat} : (S l == ("" : Str)) = decide (l = []) := by
 cases l with
 | nil => rfl
 | cons a l =>
  rw [decide_eq_false (by simp)]
  refine beq_eq_false_iff_ne.mpr fun q => ?_
  have : (S (a :: l)).cps = ("" : Str).cps := by rw [q]
  have h2 : (S (a :: l)).cps.size = ("" : Str).cps.size := by rw [this]
  have h3 : ("" : Str).cps.size = 0 := by decide
  rw [h3] at h2
  simp at h2
end
end
section
section
variable {c : Cx} {st : St} {X : Flds → List (Option AV) → Prop} {Q : AV → St → Prop}
theorem digits_value_T {l : List Nat} {base : Int} (hb : Builtin.Int.intBits base ≤ 64) (hhd : c.hd = false) (hr : 2 ≤ c.room) (h : Q (.d (optI (digitsN base l))) st) : TC c st (.ref 66) [.d (.str (S l)), .d (.int base)] Q X := by
 refine enter_digits_value [] st.mu rfl hhd (rm0 hr rfl) fun o ho hF => ?_
 with_reducible refine' absN ?e fun K0 hK0 => ?_
 case e => exact rfl
 walk_at "T"
 rw [S_nil]
 refine ite_d (fun q => ?_) fun q => ?_
 ·walk_at "T"
  rw [digitsN, if_pos q] at h
  walk_at "E"; exact h
 rw [digitsN, if_neg q] at h
 walk_at "T"
 refine TS_fr (S := fun acc : Int => ⟨[some (.d (.str (S l))), some (.d (.int base)), some (.d (.int acc)), none, none], []⟩) (I := fun xs acc => ∃ l', xs = chs l' ∧ digitsGo base acc l' = digitsGo base 0 l) hF ?_ (by intro _; rfl)
 walk_at "T"
 refine i24 _ 0 Iters.str (by walk_at "LE") (i11 l rfl rfl) (fun o' ho' hF' x xs a hI K1 hK1 => ?_) (fun a hI => ?_)
 ·refine o11 hI fun l' e1 e2 => ?_
  try clear hI
  cases l' with
  | nil => cases e1
  | cons ch l' =>
   simp only [chs, List.map_cons, List.cons.injEq] at e1
   refine o01 e1 fun zz1 zz2 => ?_
   try clear e1
   subst zz1
   subst zz2
   walk_at "T"
   refine digit_T rfl (by walk_at "RM") ?_
   walk_at "T"
   refine ite_d (fun z1 => ?_) fun z1 => ?_ <;> walk_at "T"
   ·rw [digitsGo, if_pos (.inl z1)] at e2
    rw [← e2] at h
    walk_at "E"; exact h
   ·refine ite_d (fun z2 => ?_) fun z2 => ?_ <;> walk_at "T"
    ·rw [digitsGo, if_pos (.inr z2)] at e2
     rw [← e2] at h
     walk_at "E"; exact h
    ·refine Bin.mul_int (.of_right hb) ?_
     walk_at "T"
     rw [digitsGo, if_neg (by exact not_or.mpr ⟨z1, z2⟩)] at e2
     exact i11 _ (by walk_at "LE") (i11 l' rfl e2)
 ·refine o11 hI fun l' e1 e2 => ?_
  try clear hI
  cases l' with
  | cons ch l' => cases e1
  | nil =>
   walk_at "T"
   rw [← e2] at h
   walk_at "E"; exact h
end
end
section
theorem slice_S (l : List Nat) (a b : Nat) : Txt.slice (S l) (some (a : Int)) (some (b : Int)) = S ((l.drop a).take (b - a)) := by
 have hn : (S l).length = l.length := by simp [Str.length]
 have e : PySem.Builtin.Str.strSliceIndices (some (a : Int)) (some (b : Int)) 1 (S l).length = sliceRange ((min a l.length : Nat) : Int) ((min b l.length : Nat) : Int) 1 := by
  rw [hn]
  unfold PySem.Builtin.Str.strSliceIndices
  have h1 : ¬ ((a : Int) < 0) := by exact fg (.inlt (.n (.v 0)) (.c 0)) [] [1] [1] rfl [_] []
  have h2 : ¬ ((b : Int) < 0) := by exact fg (.inlt (.n (.v 0)) (.c 0)) [] [1] [1] rfl [_] []
  simp only [h1, h2, if_false, show (1 : Int) > 0 by decide, if_true]
  rw [mxm, mxm]
 have p : (sliceRange ((min a l.length : Nat) : Int) ((min b l.length : Nat) : Int) 1).filterMap ((S l).cps[·]?) = (l.drop a).take (b - a) := by
  rw [sliceRange_one, pick_run]
  show List.take _ (List.drop _ l) = _
  rcases Nat.le_total a l.length with h | h
  ·rw [Nat.min_eq_left h]
   rcases Nat.le_total b l.length with h' | h'
   ·rw [Nat.min_eq_left h']
   ·rw [Nat.min_eq_right h', List.take_of_length_le (by simp), List.take_of_length_le (by simp; rw [Nat.sub_add_cancel (Nat.le_trans h h')]; exact h')]
  ·rw [Nat.min_eq_right h, List.drop_eq_nil_of_le (Nat.le_refl _), List.drop_eq_nil_of_le h]
   simp
 unfold Txt.slice
 rw [e, p]
 split
 ·rename_i hc
  simp only [Bool.and_eq_true, beq_iff_eq] at hc
  have hl := hc.2
  rw [hn] at hl
  have hlen : (sliceRange ((min a l.length : Nat) : Int) ((min b l.length : Nat) : Int) 1).length = min b l.length - min a l.length := by
   rw [sliceRange_one]; simp
  rw [hlen] at hl
  have : (l.drop a).take (b - a) = l := by
   by_cases h0 : l.length = 0
   ·have : l = [] := List.length_eq_zero_iff.mp h0
    subst this; simp
   ·have ha : a = 0 := Nat.eq_zero_of_not_pos fun z => Nat.ne_of_lt (Nat.lt_of_le_of_lt (Nat.sub_le_sub_right (Nat.min_le_right b _) _) (Nat.sub_lt (Nat.pos_of_ne_zero h0) (Nat.lt_min.mpr ⟨z, Nat.pos_of_ne_zero h0⟩))) hl
    subst ha
    rw [List.drop_zero, List.take_of_length_le (by rw [Nat.sub_zero]; exact Nat.le_trans (Nat.le_of_eq hl.symm) (Nat.le_trans (Nat.sub_le _ _) (Nat.min_le_left _ _)))]
  rw [this]
 ·rfl
theorem drop_get {l t : List Nat} {a ch : Nat} (h : l.drop a = ch :: t) : l[a]? = some ch ∧ l.drop (a + 1) = t ∧ a < l.length := by
 refine o01 (drop_cons h) fun h1 h2 => ?_
 exact i02 h1 h2 ((List.getElem?_eq_some_iff.mp h1).1)
theorem item_S {l : List Nat} {a : Int} {k ch : Nat} (ha : a = k) (h : l[k]? = some ch) : (S l).cps[a.toNat]? = some ch := by
 subst ha
 simpa using h
theorem len_S {l : List Nat} : (S l).length = l.length := by simp [Str.length]
noncomputable def baseN (ch : Nat) : Int := if ch = 120 ∨ ch = 88 then 16 else if ch = 111 ∨ ch = 79 then 8 else if ch = 98 ∨ ch = 66 then 2 else if ch = 100 ∨ ch = 68 then 10 else 0
section
variable {c : Cx} {st : St} {X : Flds → List (Option AV) → Prop} {Q : AV → St → Prop}
theorem ite_in2 {ch a b : Nat} {ps : List PyData} {A B : Prop} (e : ps = chs [a, b]) (ha : (ch = a ∨ ch = b) → A) (hb : ¬ (ch = a ∨ ch = b) → B) : if ps.any (eqStrD ⟨#[ch]⟩) = true then A else B := by
 refine ite_in [a, b] e ?_
 by_cases h : ch = a ∨ ch = b
 ·exact ite_t (by simpa using h) (ha h)
 ·exact ite_f (by simpa using h) (hb h)
theorem base_of_T {ch : Nat} (hhd : c.hd = false) (hr : 1 ≤ c.room) (h : Q (.d (.int (baseN ch))) st) : TC c st (.ref 73) [.d (.str ⟨#[ch]⟩)] Q X := by
 refine enter_base_of [] st.mu rfl hhd hr fun o ho hF => ?_
 with_reducible refine' absN ?e fun K0 hK0 => ?_
 case e => exact rfl
 walk_at "T"
 unfold baseN at h
 refine ite_in2 (a := 120) (b := 88) rfl (fun q => ?_) (fun q => ?_) <;> walk_at "T"
 ·rw [if_pos q] at h; exact h
 rw [if_neg q] at h
 refine ite_in2 (a := 111) (b := 79) rfl (fun q => ?_) (fun q => ?_) <;> walk_at "T"
 ·rw [if_pos q] at h; exact h
 rw [if_neg q] at h
 refine ite_in2 (a := 98) (b := 66) rfl (fun q => ?_) (fun q => ?_) <;> walk_at "T"
 ·rw [if_pos q] at h; exact h
 rw [if_neg q] at h
 refine ite_in2 (a := 100) (b := 68) rfl (fun q => ?_) (fun q => ?_) <;> walk_at "T"
 ·rw [if_pos q] at h; exact h
 rw [if_neg q] at h
 walk_at "E"; exact h
noncomputable def stripB (l : List Nat) : List Nat := ((l.dropWhile blank).reverse.dropWhile blank).reverse
noncomputable def signN (m : List Nat) : Bool × List Nat := match m with
 | 43 :: t => (false, t)
 | 45 :: t => (true, t)
 | _ => (false, m)
noncomputable def markN (m : List Nat) : Int := match m with
 | 48 :: b :: _ :: _ => baseN b
 | _ => 0
noncomputable def wholeN (l : List Nat) : Option Int :=
 let p := signN (stripB l)
 let v := if markN p.2 > 0 then digitsN (markN p.2) (p.2.drop 2) else digitsN 10 p.2
 v.map fun x => if p.1 then -x else x
theorem baseN_bits {ch : Nat} : Builtin.Int.intBits (baseN ch) ≤ 64 := by
 unfold baseN; repeat' split
 all_goals decide
theorem markN_bits {m : List Nat} : Builtin.Int.intBits (markN m) ≤ 64 := by
 unfold markN; split
 ·exact baseN_bits
 ·decide
end
end
section
theorem dropWhile_cons_true {l : List Nat} {a : Nat} (h : blank a = true) : (a :: l).dropWhile blank = l.dropWhile blank := by rw [List.dropWhile_cons, if_pos h]
theorem dropWhile_cons_false {l : List Nat} {a : Nat} (h : blank a = false) : (a :: l).dropWhile blank = a :: l := by rw [List.dropWhile_cons, if_neg (by rw [h]; decide)]
theorem sub_last {l : List Nat} {f b ch : Nat} (hfb : f < b) (hb : b ≤ l.length) (hc : l[b - 1]? = some ch) : (l.drop f).take (b - f) = (l.drop f).take (b - 1 - f) ++ [ch] := by
 have e : b - f = (b - 1 - f) + 1 := by rw [Nat.sub_right_comm, Nat.sub_add_cancel (Nat.sub_pos_of_lt hfb)]
 rw [e, List.take_add_one]
 congr 1
 rw [List.getElem?_drop, show f + (b - 1 - f) = b - 1 from Nat.add_sub_cancel' (Nat.le_sub_one_of_lt hfb), hc]
 rfl
theorem drop_of_get {l : List Nat} {f ch : Nat} (hc : l[f]? = some ch) : l.drop f = ch :: l.drop (f + 1) := by
 have hl : f < l.length := (List.getElem?_eq_some_iff.mp hc).1
 rw [List.drop_eq_getElem_cons hl, (List.getElem?_eq_some_iff.mp hc).2]
theorem sub_head {l : List Nat} {f b ch : Nat} (hfb : f < b) (hc : l[f]? = some ch) : (l.drop f).take (b - f) = ch :: (l.drop (f + 1)).take (b - (f + 1)) := by
 rw [drop_of_get hc, show b - f = (b - (f + 1)) + 1 from (Nat.sub_add_cancel (Nat.sub_pos_of_lt hfb)).symm, List.take_succ_cons]
theorem get_lt {l : List Nat} {f : Nat} (h : f < l.length) : ∃ ch, l[f]? = some ch := ⟨_, List.getElem?_eq_getElem h⟩
section
variable {c : Cx} {st : St} {X : Flds → List (Option AV) → Prop} {Q : AV → St → Prop}
theorem whole_of_T {l : List Nat} (hl : l.length ≤ 1000000) (hhd : c.hd = false) (hr : 3 ≤ c.room) (h : Q (.d (optI (wholeN l))) st) : TC c st (.ref 80) [.d (.str (S l))] Q X := by
 refine enter_whole_of [] st.mu rfl hhd (rm0 hr rfl) fun o ho hF => ?_
 with_reducible refine' absN ?e fun K0 hK0 => ?_
 case e => exact rfl
 have hls : (S l).length ≤ 1000000 := by rw [len_S]; exact hl
 walk_at "T"
 refine TC_len_str hls ?_
 walk_at "T"
 rw [len_S]
 refine TS_sq (fun st1 => ∃ k : Nat, st1 = ⟨[some (.d (.str (S l))), some (.d (.int (k : Nat))), some (.d (.int (l.length : Nat))), none, none, none], []⟩ ∧ k ≤ l.length ∧ l.drop k = l.dropWhile blank) (fun K3 hK3 => ?_) fun st1 => exI fun f => aiI fun e1 => aiI fun hf => fun hd => ?_
 ·refine TS_wh (S := fun a : Int => ⟨[some (.d (.str (S l))), some (.d (.int a)), some (.d (.int (l.length : Nat))), none, none, none], []⟩) (I := fun a => ∃ k : Nat, a = k ∧ k ≤ l.length ∧ (l.drop k).dropWhile blank = l.dropWhile blank) (m := fun a => l.length - a.toNat) (a0 := 0) hF (by walk_at "LE") (i12 0 rfl (Nat.zero_le _) rfl) fun a K1 hK1 => exI fun k => aiI fun ha => aiI fun hk => fun hd => ?_
  walk_at "T"
  refine ite_d (fun q => ?_) fun q => ?_ <;> walk_at "T"
  ·refine o10 (get_lt (l := l) (f := k) (by exact fg (.lt (.v 0) (.v 1)) [.iqe (.v 0) (.n (.v 0)),.ilt (.v 0) (.n (.v 1))] [1,1,1] [] rfl [_,_] [_] ha q)) fun ch hch => ?_
   refine Item.str (by exact fg (.ile (.c 0) (.v 0)) [.iqe (.v 0) (.n (.v 0))] [1,1] [1] rfl [_] [_] ha) (item_S ha hch) hls ?_
   walk_at "T"
   refine is_blank_T rfl (by walk_at "RM") ?_
   walk_at "T"
   refine ite_split (fun z => ?_) fun z => ?_ <;> walk_at "T"
   ·refine i12 _ (by walk_at "LE") (i12 (k + 1) (by exact fi (.a (.v 0) (.c 1)) (.n (.a (.v 0) (.c 1))) [.ieq (.v 0) (.n (.v 0)),.iqe (.v 0) (.n (.v 0))] [1,0,1] [] [1,1,0] [] rfl [_] [_] ha ha) (by exact fg (.le (.a (.v 0) (.c 1)) (.v 1)) [.iqe (.v 0) (.n (.v 0)),.ilt (.v 0) (.n (.v 1))] [1,1,1] [] rfl [_,_] [_] ha q) ?_) (tni ha q)
    rw [← hd, drop_of_get hch, dropWhile_cons_true z]
   ·subst ha
    walk_at "K"; refine Seq.next (i12 k rfl hk ?_)
    rw [← hd, drop_of_get hch, dropWhile_cons_false z]
  ·subst ha
   have : k = l.length := by exact fe (.v 0) (.v 1) [.le (.v 0) (.v 1),.inlt (.n (.v 0)) (.n (.v 1))] [1,0,1] [] [1,1,0] [] rfl [_,_] [] hk q
   subst this
   walk_at "K"; refine Seq.next (i12 l.length rfl (Nat.le_refl _) ?_)
   rw [← hd]; simp
 subst e1
 walk_at "T"
 refine TS_sq (fun st1 => ∃ b : Nat, st1 = ⟨[some (.d (.str (S l))), some (.d (.int (f : Nat))), some (.d (.int (b : Nat))), none, none, none], []⟩ ∧ f ≤ b ∧ b ≤ l.length ∧ (l.drop f).take (b - f) = stripB l) (fun K4 hK4 => ?_) fun st1 => exI fun b => aiI fun e1 => aiI fun hfb => aiI fun hb => fun hm => ?_
 ·refine TS_wh (S := fun b : Int => ⟨[some (.d (.str (S l))), some (.d (.int f)), some (.d (.int b)), none, none, none], []⟩) (I := fun b => ∃ k : Nat, b = k ∧ f ≤ k ∧ k ≤ l.length ∧ ((l.drop f).take (k - f)).reverse.dropWhile blank = (l.drop f).reverse.dropWhile blank) (m := fun a => a.toNat) (a0 := (l.length : Nat)) hF (by walk_at "LE") (i13 l.length rfl hf (Nat.le_refl _) (by rw [List.take_of_length_le (by simp)])) fun a K2 hK2 => exI fun k => aiI fun ha => aiI fun hk1 => aiI fun hk => fun hr => ?_
  have fin : ∀ m : List Nat, m.reverse.dropWhile blank = (l.drop f).reverse.dropWhile blank → m.reverse.dropWhile blank = m.reverse → m = stripB l := fun m h1 h2 => by
   unfold stripB
   rw [← hd, ← h1, h2, List.reverse_reverse]
  walk_at "T"
  refine ite_d (fun q => ?_) fun q => ?_ <;> walk_at "T"
  ·refine o10 (get_lt (l := l) (f := k - 1) (Nat.sub_one_lt_of_le (kps ha q) hk)) fun ch hch => ?_
   refine Item.str (by exact fg (.ile (.c 0) (.s (.v 0) (.c 1))) [.ilt (.n (.v 0)) (.v 0)] [1,1] [1] rfl [_] [_] q) (item_S (k := k - 1) (cps ha q) hch) hls ?_
   walk_at "T"
   refine is_blank_T rfl (by walk_at "RM") ?_
   walk_at "T"
   have hs := sub_last (f := f) (b := k) (by exact fg (.lt (.v 1) (.v 0)) [.ieq (.v 0) (.n (.v 0)),.ilt (.n (.v 1)) (.v 0)] [1,1,1] [] rfl [_,_] [_] ha q) hk hch
   refine ite_split (fun z => ?_) fun z => ?_ <;> walk_at "T"
   ·refine i12 _ (by walk_at "LE") (i13 (k - 1) (cps ha q) (Nat.le_sub_one_of_lt (kls ha q)) (Nat.le_trans (Nat.sub_le k 1) hk) ?_) (tnd ha q)
    rw [← hr, hs, List.reverse_append, List.reverse_singleton, List.singleton_append, dropWhile_cons_true z]
   ·subst ha
    walk_at "K"; refine Seq.next (i13 k rfl hk1 hk (fin _ hr ?_))
    rw [hs, List.reverse_append, List.reverse_singleton, List.singleton_append, dropWhile_cons_false z]
  ·subst ha
   have : k = f := by exact fe (.v 1) (.v 0) [.le (.v 0) (.v 1),.inlt (.n (.v 0)) (.n (.v 1))] [1,1,0] [] [1,0,1] [] rfl [_,_] [] hk1 q
   subst this
   walk_at "K"; refine Seq.next (i13 k rfl (Nat.le_refl _) hk (fin _ hr ?_))
   simp
 subst e1
 with_reducible refine TL_c ?_
 walk_at "V"
 with_reducible refine TL_c (TS_sq (fun st1 => ∃ f' : Nat, st1 = ⟨[some (.d (.str (S l))), some (.d (.int (f' : Nat))), some (.d (.int (b : Nat))), some (.d (.bool (signN (stripB l)).1)), none, none], []⟩ ∧ f' ≤ b ∧ (l.drop f').take (b - f') = (signN (stripB l)).2) (fun K5 hK5 => ?_) fun st1 => exI fun f' => aiI fun e1 => aiI fun hfb' => fun hm' => ?_)
 ·walk_at "V"
  refine ite_d (fun q => ?_) fun q => ?_ <;> walk_at "V"
  ·refine o10 (get_lt (l := l) (f := f) (by exact fg (.lt (.v 2) (.v 1)) [.le (.v 0) (.v 1),.ilt (.n (.v 2)) (.n (.v 0))] [1,1,1] [] rfl [_,_,_] [] hb q)) fun ch hch => ?_
   have hs := sub_head (b := b) (by exact fg (.lt (.v 0) (.v 1)) [.ilt (.n (.v 0)) (.n (.v 1))] [1,1] [] rfl [_,_] [] q) hch
   rw [hm] at hs
   refine Item.str (by exact fg (.ile (.c 0) (.n (.v 0))) [] [1] [1] rfl [_] []) (item_S rfl hch) hls ?_
   walk_at "V"
   refine ite_in2 (a := 43) (b := 45) rfl (fun z => ?_) fun z => ?_ <;> walk_at "V"
   ·with_reducible refine TL_c ?_
    walk_at "V"
    refine Item.str (by exact fg (.ile (.c 0) (.n (.v 0))) [] [1] [1] rfl [_] []) (item_S rfl hch) hls ?_
    walk_at "V"
    with_reducible refine TL_c ?_
    walk_at "V"
    have e : ((⟨#[ch]⟩ : Str) == ("-" : Str)) = (signN (stripB l)).1 := by
     rw [hs]
     rcases z with rfl | rfl <;> rfl
    rw [e]
    walk_at "K"; refine Seq.next (i12 (f + 1) rfl (by exact fg (.le (.a (.v 0) (.c 1)) (.v 1)) [.ilt (.n (.v 0)) (.n (.v 1))] [1,1] [] rfl [_,_] [] q) ?_)
    rw [hs]
    rcases z with rfl | rfl <;> rfl
   ·have e : signN (stripB l) = (false, stripB l) := by
     rw [hs]
     unfold signN
     split
     ·rename_i e; cases e; exact absurd (.inl rfl) z
     ·rename_i e; cases e; exact absurd (.inr rfl) z
     ·rfl
    walk_at "K"; refine Seq.next (i12 f (by rw [e]) hfb (by rw [e]; exact hm))
  ·have : f = b := by exact fe (.v 0) (.v 1) [.le (.v 0) (.v 1),.inlt (.n (.v 0)) (.n (.v 1))] [1,0,1] [] [1,1,0] [] rfl [_,_] [] hfb q
   have e0 : stripB l = [] := by rw [← hm, this]; simp
   walk_at "K"; refine Seq.next (i12 f (by rw [e0]; rfl) hfb (by rw [e0, ← e0]; rw [hm, e0]; rfl))
 subst e1
 generalize hneg : (signN (stripB l)).1 = neg at *
 generalize hrest : (signN (stripB l)).2 = m at *
 with_reducible refine TL_c ?_
 walk_at "V"
 with_reducible refine TL_c (TS_sq (fun st1 => st1 = ⟨[some (.d (.str (S l))), some (.d (.int (f' : Nat))), some (.d (.int (b : Nat))), some (.d (.bool neg)), some (.d (.int (markN m))), none], []⟩) (fun K6 hK6 => ?_) fun st1 e1 => ?_)
 ·walk_at "V"
  refine ite_d (fun q => ?_) fun q => ?_ <;> walk_at "V"
  ·refine o10 (get_lt (l := l) (f := f') (by exact fg (.lt (.v 2) (.v 1)) [.le (.v 0) (.v 1),.ilt (.c 2) (.s (.n (.v 0)) (.n (.v 2)))] [1,1,1] [] rfl [_,_,_] [] hb q)) fun ch hch => ?_
   refine o10 (get_lt (l := l) (f := f' + 1) (by exact fg (.lt (.a (.v 2) (.c 1)) (.v 1)) [.le (.v 0) (.v 1),.ilt (.c 2) (.s (.n (.v 0)) (.n (.v 2)))] [1,1,1] [] rfl [_,_,_] [] hb q)) fun ch2 hch2 => ?_
   have hs := sub_head (b := b) (by exact fg (.lt (.v 1) (.v 0)) [.ilt (.c 2) (.s (.n (.v 0)) (.n (.v 1)))] [1,1] [] rfl [_,_] [] q) hch
   have hs2 := sub_head (b := b) (by exact fg (.lt (.a (.v 1) (.c 1)) (.v 0)) [.ilt (.c 2) (.s (.n (.v 0)) (.n (.v 1)))] [1,1] [] rfl [_,_] [] q) hch2
   rw [hm', hs2] at hs
   refine o10 (get_lt (l := l) (f := f' + 1 + 1) (by exact fg (.lt (.a (.a (.v 2) (.c 1)) (.c 1)) (.v 1)) [.le (.v 0) (.v 1),.ilt (.c 2) (.s (.n (.v 0)) (.n (.v 2)))] [1,1,1] [] rfl [_,_,_] [] hb q)) fun ch3 hch3 => ?_
   rw [sub_head (b := b) (by exact fg (.lt (.a (.a (.v 1) (.c 1)) (.c 1)) (.v 0)) [.ilt (.c 2) (.s (.n (.v 0)) (.n (.v 1)))] [1,1] [] rfl [_,_] [] q) hch3] at hs
   refine Item.str (by exact fg (.ile (.c 0) (.n (.v 0))) [] [1] [1] rfl [_] []) (item_S rfl hch) hls ?_
   walk_at "V"
   have e : ((⟨#[ch]⟩ : Str) == ("0" : Str)) = (48 == ch) := one_eq ch 48
   rw [e]
   refine ite_split (fun z => ?_) fun z => ?_ <;> walk_at "V"
   ·with_reducible refine TL_c ?_
    walk_at "V"
    refine Item.str (by exact fg (.ile (.c 0) (.a (.n (.v 0)) (.c 1))) [] [1] [1] rfl [_] []) (item_S (k := f' + 1) rfl hch2) hls ?_
    walk_at "V"
    refine base_of_T rfl (by walk_at "RM") ?_
    walk_at "V"
    have : ch = 48 := (by simpa using z : 48 = ch).symm
    subst this
    walk_at "K"; refine Seq.next ?_
    rw [hs]; rfl
   ·walk_at "K"; refine Seq.next ?_
    have : markN m = 0 := by
     rw [hs]
     unfold markN
     split
     ·rename_i e; cases e; exact absurd z (by decide)
     ·rfl
    rw [this]
  ·walk_at "K"; refine Seq.next ?_
   have hlen : m.length = b - f' := by rw [← hm']; simp; exact Nat.min_eq_left (Nat.sub_le_sub_right hb f')
   have : markN m = 0 := by
    unfold markN
    split
    ·simp at hlen; omega
    ·rfl
   rw [this]
 subst e1
 with_reducible refine TL_c (TS_sq (fun st1 => st1 = ⟨[some (.d (.str (S l))), some (.d (.int (f' : Nat))), some (.d (.int (b : Nat))), some (.d (.bool neg)), some (.d (.int (markN m))), some (.d (optI (if markN m > 0 then digitsN (markN m) (m.drop 2) else digitsN 10 m)))], []⟩) (fun K7 hK7 => ?_) fun st1 e1 => ?_)
 ·walk_at "V"
  refine ite_d (fun q => ?_) fun q => ?_ <;> walk_at "V"
  ·with_reducible refine TL_c ?_
   walk_at "V"
   refine Item.str_slice hls ?_
   rw [show ((f' : Int) + 2) = ((f' + 2 : Nat) : Int) from rfl, slice_S]
   have e : (l.drop (f' + 2)).take (b - (f' + 2)) = m.drop 2 := by
    rw [← hm', List.drop_take, List.drop_drop]
    first | rfl | (congr 1; omega)
   rw [e]
   walk_at "V"
   refine digits_value_T markN_bits rfl (by walk_at "RM") ?_
   walk_at "V"
   walk_at "K"; refine Seq.next ?_
   rw [if_pos q]
  ·with_reducible refine TL_c ?_
   walk_at "V"
   refine Item.str_slice hls ?_
   rw [slice_S, hm']
   walk_at "V"
   refine digits_value_T (by decide) rfl (by walk_at "RM") ?_
   walk_at "V"
   walk_at "K"; refine Seq.next ?_
   rw [if_neg q]
 subst e1
 generalize hv : (if markN m > 0 then digitsN (markN m) (m.drop 2) else digitsN 10 m) = v at *
 have hw : wholeN l = v.map fun x => if neg = true then -x else x := by
  unfold wholeN
  dsimp only
  rw [hrest, hneg, hv]
 rw [hw] at h
 walk_at "T"
 cases v with
 | none =>
  refine ite_t rfl ?_
  walk_at "T"
  walk_at "E"; exact h
 | some v =>
  refine ite_f rfl ?_
  dsimp only [optI]
  walk_at "T"
  cases neg <;> walk_at "T" <;> exact h
end
end
section
theorem pl_code : Plain "code" := ⟨fun P => by kernel_rfl!, by rw [typeLookup_type, builtinLookup_eq_fast]; kernel_rfl⟩
theorem pl_value : Plain "value" := ⟨fun P => by kernel_rfl!, by rw [typeLookup_type, builtinLookup_eq_fast]; kernel_rfl⟩
theorem pl_errorcode : Plain "errorcode" := ⟨fun P => by kernel_rfl!, by rw [typeLookup_type, builtinLookup_eq_fast]; kernel_rfl⟩
theorem pl_level : Plain "level" := ⟨fun P => by kernel_rfl!, by rw [typeLookup_type, builtinLookup_eq_fast]; kernel_rfl⟩
theorem pl_ret : Plain "ret" := ⟨fun P => by kernel_rfl!, by rw [typeLookup_type, builtinLookup_eq_fast]; kernel_rfl⟩
theorem pl_info : Plain "info" := ⟨fun P => by kernel_rfl!, by rw [typeLookup_type, builtinLookup_eq_fast]; kernel_rfl⟩
theorem pl_is_noted : Plain "is_noted" := ⟨fun P => by kernel_rfl!, by rw [typeLookup_type, builtinLookup_eq_fast]; kernel_rfl⟩
theorem pl_line : Plain "line" := ⟨fun P => by kernel_rfl!, by rw [typeLookup_type, builtinLookup_eq_fast]; kernel_rfl⟩
theorem pl_extra : Plain "extra" := ⟨fun P => by kernel_rfl!, by rw [typeLookup_type, builtinLookup_eq_fast]; kernel_rfl⟩
noncomputable def rF (code value ec level ret : PyData) (info : PyData) (noted line extra : PyData) : Flds := [("code", code), ("value", value), ("errorcode", ec), ("level", level), ("ret", ret), ("info", info), ("is_noted", noted), ("line", line), ("extra", extra)]
section
variable {c : Cx} {st : St} {X : Flds → List (Option AV) → Prop} {Q : AV → St → Prop}
theorem set_next {e dx : Addr} {l : List (Addr × AO)} {loc : List (Option AV)} {fs fs' : Flds} {name : Str} {p : PyData} {K : St → Prop} (pn : Plain name) (hlen : fs.length < 900) (hp : putS fs name p = fs') (h : K ⟨loc, (e, .inst dx fs' none) :: l⟩) :
  ∀ s v w, Rel c ⟨loc, (e, .inst dx fs none) :: l⟩ s → RV (fz c ⟨loc, (e, .inst dx fs none) :: l⟩ s.heap) (.v (.ref e)) v → RV (fz c ⟨loc, (e, .inst dx fs none) :: l⟩ s.heap) (.d p) w → wpAny c.M c.A (setAttr v name w) (fun _ s' => ∃ st', K st' ∧ Rel c st' s' ∧ Tr c ⟨loc, (e, .inst dx fs none) :: l⟩ s st' s') (EPost X c ⟨loc, (e, .inst dx fs none) :: l⟩ s) s := fun s v w r hv hw => by
 obtain rfl : v = .ref e := hv
 subst hp
 exact setattr_next r .here hlen pn hw h
theorem set_first {e : Addr} {l : List (Addr × AO)} {loc : List (Option AV)} {name : Str} {p : PyData} {K : St → Prop} (pn : Plain name) (h : ∀ dx, K ⟨loc, (e, .inst dx [(name, p)] none) :: l⟩) :
  ∀ s v w, Rel c ⟨loc, (e, .raw) :: l⟩ s → RV (fz c ⟨loc, (e, .raw) :: l⟩ s.heap) (.v (.ref e)) v → RV (fz c ⟨loc, (e, .raw) :: l⟩ s.heap) (.d p) w → wpAny c.M c.A (setAttr v name w) (fun _ s' => ∃ st', K st' ∧ Rel c st' s' ∧ Tr c ⟨loc, (e, .raw) :: l⟩ s st' s') (EPost X c ⟨loc, (e, .raw) :: l⟩ s) s := fun s v w r hv hw => by
 obtain rfl : v = .ref e := hv
 exact setattr_first r pn hw h
theorem init_T {e : Addr} {l : List (Addr × AO)} {loc : List (Option AV)} {as : List AV} {code value ec level ret : PyData} (hhd : c.hd = false) (hr : 1 ≤ c.room)
  (hbind : ∀ s vs, Rel c ⟨loc, (e, .raw) :: l⟩ s → RVs (fz c ⟨loc, (e, .raw) :: l⟩ s.heap) as vs → ∃ ws, BindsTo s (fdO "__init__" "Raised.__init__" (fdI) (.ref 23) (.str "tclcore.faults" 187) (.ref 29)) ⟨vs, []⟩ ((["self", "code", "value", "errorcode", "level", "ret"] : List Str).zip ws) ∧ RVs (fz c ⟨loc, (e, .raw) :: l⟩ s.heap) [.v (.ref e), .d code, .d value, .d ec, .d level, .d ret] ws)
  (h : ∀ dx, Q (.d .none) ⟨loc, (e, .inst dx (rF code value ec level ret (.str "") (.bool false) (.int 0) (.list [])) none) :: l⟩) : TC c ⟨loc, (e, .raw) :: l⟩ (.ref 30) as Q X := by
 refine enter_init [(e, .raw)] l rfl hhd hr hbind fun o ho hF => ?_
 with_reducible refine' absN ?e fun K0 hK0 => ?_
 case e => exact rfl
 with_reducible refine TS_expr ?_ (by walk_at "R")
 walk_at "TM"
 walk_at "T"
 refine TC_excInit ?_
 walk_at "T"
 refine set_first pl_code fun dx => ?_
 walk_at "T"
 refine set_next (fs' := [("code", code), ("value", value)]) pl_value (by simp) (by kernel_rfl!) ?_
 walk_at "T"
 refine set_next (fs' := [("code", code), ("value", value), ("errorcode", ec)]) pl_errorcode (by simp) (by kernel_rfl!) ?_
 walk_at "T"
 refine set_next (fs' := [("code", code), ("value", value), ("errorcode", ec), ("level", level)]) pl_level (by simp) (by kernel_rfl!) ?_
 walk_at "T"
 refine set_next (fs' := [("code", code), ("value", value), ("errorcode", ec), ("level", level), ("ret", ret)]) pl_ret (by simp) (by kernel_rfl!) ?_
 walk_at "T"
 refine set_next (fs' := [("code", code), ("value", value), ("errorcode", ec), ("level", level), ("ret", ret), ("info", .str "")]) pl_info (by simp) (by kernel_rfl!) ?_
 walk_at "T"
 refine set_next (fs' := [("code", code), ("value", value), ("errorcode", ec), ("level", level), ("ret", ret), ("info", .str ""), ("is_noted", .bool false)]) pl_is_noted (by simp) (by kernel_rfl!) ?_
 walk_at "T"
 refine set_next (fs' := [("code", code), ("value", value), ("errorcode", ec), ("level", level), ("ret", ret), ("info", .str ""), ("is_noted", .bool false), ("line", .int 0)]) pl_line (by simp) (by kernel_rfl!) ?_
 walk_at "T"
 refine TE_lst ?_
 walk_at "T"
 refine set_next (fs' := rF code value ec level ret (.str "") (.bool false) (.int 0) (.list [])) pl_extra (by simp) (by kernel_rfl!) ?_
 walk_at "T"
 walk_at "E"; exact h dx
noncomputable def errF (text : Str) (ec : PyData) : Flds := rF (.int 1) (.str text) ec (.int 0) (.int 0) (.str "") (.bool false) (.int 0) (.list [])
theorem RV.int_of {G : Heap} {i : Int} {t : Tok} : RV G (.d (.int i)) (.int i t) := RD.of_int
theorem raised_bind3 {s : Shared} {a b d z : AV} {vs : List Value} (r : Rel c st s) (hv : RVs (fz c st s.heap) [z, a, b, d] vs) :
  ∃ ws, BindsTo s (fdO "__init__" "Raised.__init__" (fdI) (.ref 23) (.str "tclcore.faults" 187) (.ref 29)) ⟨vs, []⟩ ((["self", "code", "value", "errorcode", "level", "ret"] : List Str).zip ws) ∧ RVs (fz c st s.heap) [z, a, b, d, .d (.int 0), .d (.int 0)] ws := by
 refine o22 hv fun v0 vs1 zz1 h0 h1 => ?_
 try clear hv
 subst zz1
 obtain ⟨v1, v2, v3, rfl, h1, h2, h3⟩ := RVs.three h1
 exact i11 [v0, v1, v2, v3, .int 0 202, .int 0 203] (kp_binds (K_here r) (fun S => by kernel_rfl!)) ⟨v0, _, rfl, h0, v1, _, rfl, h1, v2, _, rfl, h2, v3, _, rfl, h3, _, _, rfl, RD.of_int, _, _, rfl, RD.of_int, rfl⟩
theorem raised_bind2 {s : Shared} {a b z : AV} {vs : List Value} (r : Rel c st s) (hv : RVs (fz c st s.heap) [z, a, b] vs) :
  ∃ ws, BindsTo s (fdO "__init__" "Raised.__init__" (fdI) (.ref 23) (.str "tclcore.faults" 187) (.ref 29)) ⟨vs, []⟩ ((["self", "code", "value", "errorcode", "level", "ret"] : List Str).zip ws) ∧ RVs (fz c st s.heap) [z, a, b, .d (.tuple [.str "NONE"]), .d (.int 0), .d (.int 0)] ws := by
 refine o33 (RVs.three hv) fun v1 v2 v3 zz1 h1 h2 h3 => ?_
 subst zz1
 exact i11 [v1, v2, v3, .ref 22, .int 0 202, .int 0 203] (kp_binds (K_here r) (fun S => by kernel_rfl!)) ⟨v1, _, rfl, h1, v2, _, rfl, h2, v3, _, rfl, h3, .ref 22, _, rfl, rd_base r (t := 201) (by kernel_rfl!), _, _, rfl, RD.of_int, _, _, rfl, RD.of_int, rfl⟩
theorem raised_bind5 {s : Shared} {z a b d e f : AV} {vs : List Value} (r : Rel c st s) (hv : RVs (fz c st s.heap) [z, a, b, d, e, f] vs) :
  ∃ ws, BindsTo s (fdO "__init__" "Raised.__init__" (fdI) (.ref 23) (.str "tclcore.faults" 187) (.ref 29)) ⟨vs, []⟩ ((["self", "code", "value", "errorcode", "level", "ret"] : List Str).zip ws) ∧ RVs (fz c st s.heap) [z, a, b, d, e, f] ws := by
 refine i11 vs ?_ hv
 refine o22 hv fun v0 vs1 zz1 h0 h1 => ?_
 try clear hv
 subst zz1
 refine o22 h1 fun v1 vs2 zz1 h2 h3 => ?_
 try clear h1
 subst zz1
 refine o22 h3 fun v2 vs3 zz1 h4 h5 => ?_
 try clear h3
 subst zz1
 refine o31 (RVs.three h5) fun v3 v4 v5 zz1 _ => ?_
 subst zz1
 exact kp_binds (K_here r) (fun S => by kernel_rfl!)
theorem raised_T3 {code value ec : PyData} (hhd : c.hd = false) (hr : 2 ≤ c.room)
  (h : ∀ e dx, Q (.v (.ref e)) ⟨st.loc, (e, .inst dx (rF code value ec (.int 0) (.int 0) (.str "") (.bool false) (.int 0) (.list [])) none) :: st.mu⟩) : TC c st (.ref 33) [.d code, .d value, .d ec] Q X :=
 TC_raised (by exact fg (.le (.c 1) (.v 0)) [.le (.c 2) (.v 0)] [1,1] [] rfl [_] [] hr) (by simp) fun e A' => init_T hhd (rm hr rfl) (fun s vs r hv => raised_bind3 r hv) fun dx => ⟨rfl, h e dx⟩
theorem raised_T2 {code value : PyData} (hhd : c.hd = false) (hr : 2 ≤ c.room)
  (h : ∀ e dx, Q (.v (.ref e)) ⟨st.loc, (e, .inst dx (rF code value (.tuple [.str "NONE"]) (.int 0) (.int 0) (.str "") (.bool false) (.int 0) (.list [])) none) :: st.mu⟩) : TC c st (.ref 33) [.d code, .d value] Q X :=
 TC_raised (by exact fg (.le (.c 1) (.v 0)) [.le (.c 2) (.v 0)] [1,1] [] rfl [_] [] hr) (by simp) fun e A' => init_T hhd (rm hr rfl) (fun s vs r hv => raised_bind2 r hv) fun dx => ⟨rfl, h e dx⟩
theorem raised_T5 {code value ec level ret : PyData} (hhd : c.hd = false) (hr : 2 ≤ c.room)
  (h : ∀ e dx, Q (.v (.ref e)) ⟨st.loc, (e, .inst dx (rF code value ec level ret (.str "") (.bool false) (.int 0) (.list [])) none) :: st.mu⟩) : TC c st (.ref 33) [.d code, .d value, .d ec, .d level, .d ret] Q X :=
 TC_raised (by exact fg (.le (.c 1) (.v 0)) [.le (.c 2) (.v 0)] [1,1] [] rfl [_] [] hr) (by simp) fun e A' => init_T hhd (rm hr rfl) (fun s vs r hv => raised_bind5 r hv) fun dx => ⟨rfl, h e dx⟩
theorem error_T2 {text : Str} {ec : PyData} (hhd : c.hd = false) (hr : 3 ≤ c.room) (h : ∀ e dx, Q (.v (.ref e)) ⟨st.loc, (e, .inst dx (errF text ec) none) :: st.mu⟩) : TC c st (.ref 45) [.d (.str text), .d ec] Q X := by
 refine enter_error (a0 := .d (.str text)) (a1 := .d ec) [] st.mu rfl hhd (by exact fg (.le (.c 1) (.v 0)) [.le (.c 3) (.v 0)] [1,1] [] rfl [_] [] hr) (fun s vs r hv => ?_) fun o ho hF => ?_
 ·refine i11 vs ?_ hv
  refine o21 (RVs.two hv) fun v w zz1 _ => ?_
  subst zz1
  exact kp_binds (K_here r) (fun S => by kernel_rfl!)
 refine TL_c ?_
 walk_at "T"
 refine raised_T3 rfl (by walk_at "RM") fun e dx => ?_
 walk_at "T"
 exact h e dx
end
end
section
theorem find_none {l : List Nat} {s : Nat} (h : s ∉ l) : Txt.find (S l) (S [s]) = -1 := by
 rcases PyProof.Rows.find_spec (S l) (S [s]) with e | ⟨i, e1, e2, e3⟩
 ·exact e
 ·exfalso
  have h2 : (S [s]).length = 1 := rfl
  rw [h2] at e2 e3
  have hi : i < l.length := by rw [len_S] at e2; exact fg (.lt (.v 0) (.v 1)) [.le (.a (.v 0) (.c 1)) (.v 1)] [1,1] [] rfl [_,_] [] e2
  have : (PySem.Builtin.Str.strSub (S l) i (i + 1)).cps = (S [s]).cps := by rw [e3]
  have h3 : ((S l).cps.extract i (i + 1)).toList = [s] := by
   have := congrArg Array.toList this
   simpa [PySem.Builtin.Str.strSub] using this
  rw [Array.toList_extract] at h3
  have h4 : (l.drop i).take 1 = [s] := by
   simp only [List.extract_eq_take_drop] at h3
   rw [show i + 1 - i = 1 from Nat.add_sub_cancel_left _ _] at h3
   exact h3
  have h5 : l.drop i = l[i] :: l.drop (i + 1) := List.drop_eq_getElem_cons hi
  rw [h5, List.take_succ_cons, List.take_zero] at h4
  have h6 : l[i] = s := by simpa using h4
  exact h (h6 ▸ List.getElem_mem hi)
noncomputable def esc (s : Nat) : Option Nat :=
 if s = 97 then some 7 else if s = 98 then some 8 else if s = 102 then some 12 else if s = 110 then some 10 else if s = 114 then some 13 else if s = 116 then some 9 else if s = 118 then some 11
 else if [10, 120, 117, 85, 48, 49, 50, 51, 52, 53, 54, 55].contains s then none else some s
section
variable {c : Cx} {st : St} {X : Flds → List (Option AV) → Prop} {Q : AV → St → Prop}
theorem S1_eq (k ch : Nat) : (S [k] == S [ch]) = (ch == k) := one_eq k ch
theorem backslash_T {l : List Nat} {at' : Nat} (hl : l.length ≤ 1000000) (hhd : c.hd = false) (hr : 1 ≤ c.room)
  (h : match l.drop (at' + 1) with
   | [] => Q (.d (.tuple [.str (S [92]), .int ((at' : Int) + 1)])) st
   | s :: _ => ∃ d, esc s = some d ∧ Q (.d (.tuple [.str (S [d]), .int ((at' : Int) + 2)])) st) : TC c st (.ref 101) [.d (.str (S l)), .d (.int (at' : Nat))] Q X := by
 refine enter_backslash [] st.mu rfl hhd (rm0 hr rfl) fun o ho hF => ?_
 with_reducible refine' absN ?e fun K0 hK0 => ?_
 case e => exact rfl
 have hls : (S l).length ≤ 1000000 := by rw [len_S]; exact hl
 walk_at "T"
 refine Item.str_slice hls ?_
 rw [show ((at' : Int) + 1) = ((at' + 1 : Nat) : Int) from rfl, show ((at' : Int) + 2) = ((at' + 2 : Nat) : Int) from rfl, slice_S, show at' + 2 - (at' + 1) = 1 from Nat.add_sub_add_left at' 2 1]
 cases hd : l.drop (at' + 1) with
 | nil =>
  rw [hd] at h
  walk_at "T"
  rw [show List.take 1 ([] : List Nat) = [] from rfl]
  refine ite_t rfl ?_
  walk_at "T"
  walk_at "E"; exact h
 | cons s r =>
  rw [hd] at h
  refine o11 h fun d he _ => ?_
  clear h
  rename_i h
  rw [List.take_succ_cons, List.take_zero]
  walk_at "T"
  refine ite_f (by rw [S_nil]; simp) ?_
  walk_at "T"
  refine TC_find ?_
  walk_at "T"
  have known : ∀ (j : Nat) (d : Nat), ([7, 8, 12, 10, 13, 9, 11] : List Nat)[j]? = some d → Txt.find (Str.ofString "abfnrtv") (S [s]) = (j : Int) → esc s = some d → True := fun _ _ _ _ _ => trivial
  by_cases k : s ∈ ([97, 98, 102, 110, 114, 116, 118] : List Nat)
  ·have : ∃ j : Nat, Txt.find (Str.ofString "abfnrtv") (S [s]) = (j : Int) ∧ ([7, 8, 12, 10, 13, 9, 11] : List Nat)[j]? = some d := by
    simp only [List.mem_cons, List.not_mem_nil, or_false] at k
    rcases k with rfl | rfl | rfl | rfl | rfl | rfl | rfl <;> (cases he)
    ·exact i11 0 (by kernel_rfl!) rfl
    ·exact i11 1 (by kernel_rfl!) rfl
    ·exact i11 2 (by kernel_rfl!) rfl
    ·exact i11 3 (by kernel_rfl!) rfl
    ·exact i11 4 (by kernel_rfl!) rfl
    ·exact i11 5 (by kernel_rfl!) rfl
    ·exact i11 6 (by kernel_rfl!) rfl
   refine o11 this fun j hj1 hj2 => ?_
   try clear this
   rw [hj1]
   refine ite_dt (by exact fg (.ile (.c 0) (.n (.v 0))) [] [1] [1] rfl [_] []) ?_
   walk_at "T"
   refine Item.str (ch := d) (by exact fg (.ile (.c 0) (.n (.v 0))) [] [1] [1] rfl [_] []) (item_S (l := [7, 8, 12, 10, 13, 9, 11]) rfl hj2) (by decide) ?_
   walk_at "T"
   walk_at "E"; exact h
  ·have e : Txt.find (Str.ofString "abfnrtv") (S [s]) = -1 := find_none (l := [97, 98, 102, 110, 114, 116, 118]) k
   rw [e]
   refine ite_df (by exact fg (.inle (.c 0) (.g (.c 1))) [] [1] [] rfl [] []) ?_
   walk_at "T"
   have hs : ¬ s = 10 ∧ ¬ s = 120 ∧ ¬ s = 117 ∧ ¬ s = 85 ∧ [48, 49, 50, 51, 52, 53, 54, 55].contains s = false ∧ d = s := by
    simp only [List.mem_cons, List.not_mem_nil, or_false, not_or] at k
    refine o06 k fun k1 k2 k3 k4 k5 k6 k7 => ?_
    try clear k
    unfold esc at he
    rw [if_neg k1, if_neg k2, if_neg k3, if_neg k4, if_neg k5, if_neg k6, if_neg k7] at he
    split at he
    ·cases he
    ·rename_i hn
     cases he
     simp only [List.contains_cons, List.contains_nil, Bool.or_eq_true, beq_iff_eq, not_or, Bool.or_false] at hn
     refine i05 hn.1 hn.2.1 hn.2.2.1 hn.2.2.2.1 ?_ rfl
     simp only [List.contains_cons, List.contains_nil, Bool.or_false, Bool.or_eq_false_iff, beq_eq_false_iff_ne]
     exact hn.2.2.2.2
   refine o05 hs fun h1 h2 h3 h4 h5 zz1 => ?_
   try clear hs
   subst zz1
   refine ite_f (by show (S [d] == S [10]) = false; rw [S1_eq]; simpa using fun q : 10 = d => h1 q.symm) ?_
   walk_at "T"
   refine ite_in [120, 117, 85] rfl (ite_f (by simp; exact i02 h2 h3 h4) ?_)
   walk_at "T"
   refine ite_in [48, 49, 50, 51, 52, 53, 54, 55] rfl (ite_f h5 ?_)
   walk_at "T"
   walk_at "E"; exact h
end
end
section
noncomputable def intercal (sep : List Nat) : List (List Nat) → List Nat
 | [] => []
 | [x] => x
 | x :: rest => x ++ sep ++ intercal sep rest
theorem S_append (a b : List Nat) : S a ++ S b = S (a ++ b) := by
 show (⟨(S a).cps ++ (S b).cps⟩ : Str) = _
 simp
theorem join_S (sep : List Nat) : ∀ ys : List (List Nat), Str.join (S sep) (ys.map S) = S (intercal sep ys)
 | [] => rfl
 | [x] => rfl
 | x :: y :: r => by
  show S x ++ S sep ++ Str.join (S sep) ((y :: r).map S) = _
  rw [join_S sep (y :: r), S_append, S_append]
  rfl
theorem intercal_one (l : List Nat) : intercal [] (l.map fun k => [k]) = l := by
 induction l with
 | nil => rfl
 | cons a l ih =>
  cases l with
  | nil => rfl
  | cons b l =>
   show [a] ++ [] ++ intercal [] ((b :: l).map fun k => [k]) = _
   rw [ih]; rfl
theorem txt_join (sep : List Nat) (ys : List (List Nat)) : Txt.join (S sep) (ys.map S) = S (intercal sep ys) := by
 unfold Txt.join
 rw [StrLaws.glued_eq_join, join_S]
theorem chs_eq (l : List Nat) : chs l = ((l.map fun k => [k]).map S).map PyData.str := by
 unfold chs; rw [List.map_map, List.map_map]; rfl
theorem join_chs (l : List Nat) : Txt.join (S []) ((l.map fun k => [k]).map S) = S l := by rw [txt_join, intercal_one]
section
variable {c : Cx} {st : St} {X : Flds → List (Option AV) → Prop} {Q : AV → St → Prop}
theorem TC_join_mu {x : Str} {a : Addr} {ps : List PyData} {ys : List Str} {mu' : List (Addr × AO)} (hm : MuOut st.mu a (.list ps) mu') (hp : ps = ys.map .str) (hl : (ys.map (·.length)).sum + ys.length * x.length ≤ 16777216) (h : Q (.d (.str (Txt.join x ys))) ⟨st.loc, mu'⟩) :
  TC c st (.builtin "str.join") [.d (.str x), .v (.ref a)] Q X := fun s vs r hv => by
 subst hp
 refine o22 hv.two fun v w zz1 h1 h2 => ?_
 subst zz1
 obtain rfl : w = .ref a := h2
 refine o02 (out_list r hm) fun r1 t1 q => ?_
 have hv' : RVs (fz c ⟨st.loc, mu'⟩ s.heap) [.d (.str x), .d (.list (ys.map .str))] [v, .ref a] := ⟨v, _, rfl, h1.keeps t1.fz, .ref a, [], rfl, q, rfl⟩
 exact wpAny_mono (TC_join (c := c) (Q := Q) (X := X) hl h s _ r1 hv') (fun _ _ p => p.lift t1) fun _ _ p => p.lift t1
theorem chs_snoc (l : List Nat) (d : Nat) : chs l ++ [PyData.str (S [d])] = chs (l ++ [d]) := by simp [chs]
theorem sum_ones (l : List Nat) : ((((l.map fun k => [k]).map S).map (·.length)).sum : Nat) = l.length := by
 induction l with
 | nil => rfl
 | cons a l ih =>
  simp only [List.map_cons, List.sum_cons, ih, List.length_cons]
  rw [len_S]; simp; exact fe (.a (.c 1) (.v 0)) (.a (.v 0) (.c 1)) [] [1] [] [1] [] rfl [_] []
noncomputable def bareN : List Nat → Option (List Nat × Nat)
 | [] => some ([], 0)
 | ch :: l => if blank ch = true then some ([], 0) else if ch = 92 then (match l with
   | [] => some ([92], 1)
   | s :: l' => (esc s).bind fun d => (bareN l').map fun p => (d :: p.1, p.2 + 2)) else (bareN l).map fun p => (ch :: p.1, p.2 + 1)
theorem bareN_blank {ch : Nat} {l : List Nat} (h : blank ch = true) : bareN (ch :: l) = some ([], 0) := by
 rw [bareN.eq_def]; dsimp only; rw [if_pos h]
theorem bareN_92 : bareN [92] = some ([92], 1) := by rfl
theorem bareN_esc {s : Nat} {l : List Nat} : bareN (92 :: s :: l) = (esc s).bind fun d => (bareN l).map fun p => (d :: p.1, p.2 + 2) := by rfl
theorem bareN_ch {ch : Nat} {l : List Nat} (h : blank ch = false) (h' : ¬ ch = 92) : bareN (ch :: l) = (bareN l).map fun p => (ch :: p.1, p.2 + 1) := by
 rw [bareN.eq_def]; dsimp only; rw [if_neg (by rw [h]; decide), if_neg h']
theorem ofI {k : Nat} : (((k : Nat) : Int) + 1) = ((k + 1 : Nat) : Int) := rfl
theorem bare_element_T {l : List Nat} {at' : Nat} {R : List Nat} {n : Nat} (hl : l.length ≤ 100000) (hb : bareN (l.drop at') = some (R, n)) (ha : at' ≤ l.length) (hhd : c.hd = false) (hr : 2 ≤ c.room)
  (h : Q (.d (.tuple [.str (S R), .int ((at' + n : Nat) : Int)])) st) : TC c st (.ref 129) [.d (.str (S l)), .d (.int (at' : Nat))] Q X := by
 refine enter_bare_element [] st.mu rfl hhd (rm0 hr rfl) fun o ho hF => ?_
 with_reducible refine' absN ?e fun K0 hK0 => ?_
 case e => exact rfl
 have hls : (S l).length ≤ 1000000 := by rw [len_S]; exact fg (.le (.v 0) (.c 1000000)) [.le (.v 0) (.c 100000)] [1,1] [] rfl [_] [] hl
 walk_at "T"
 refine TE_lmu ?_
 walk_at "T"
 intro a
 walk_at "T"
 refine TS_sq (fun st1 => ∃ at2 ca, st1 = ⟨[some (.d (.str (S l))), some (.d (.int at2)), some (.v (.ref a)), ca], [(a, .list (chs R))]⟩ ∧ at2 = ((at' + n : Nat) : Int) ∧ R.length ≤ l.length) (fun K2 hK2 => ?_) fun st1 => exI fun at2 => exI fun ca => aiI fun e1 => aiI fun e2 => fun hRl => ?_
 ·refine TS_wh (S := fun σ : Int × List Nat => ⟨[some (.d (.str (S l))), some (.d (.int σ.1)), some (.v (.ref a)), none], [(a, .list (chs σ.2))]⟩)
   (I := fun σ => ∃ k : Nat, σ.1 = k ∧ k ≤ l.length ∧ σ.2.length ≤ k ∧ ∃ r m, bareN (l.drop k) = some (r, m) ∧ σ.2 ++ r = R ∧ k + m = at' + n) (m := fun σ => l.length - σ.1.toNat) (a0 := ((at' : Int), [])) hF (by walk_at "LE")
   (i13 at' rfl ha (Nat.zero_le _) (i22 R n hb rfl rfl)) fun ⟨i, outs⟩ K1 hK1 => exI fun k => aiI fun hk1 => aiI fun hk2 => aiI fun hk3 => exI fun r => exI fun m => aiI fun hk4 => aiI fun hk5 => fun hk6 => ?_
  dsimp only at hk1 hk3 hk5 ⊢
  subst hk1
  walk_at "T"
  refine TC_len_str hls ?_
  rw [len_S]
  walk_at "T"
  refine ite_d (fun q => ?_) fun q => ?_ <;> walk_at "T"
  ·refine o10 (get_lt (l := l) (f := k) (by exact fg (.lt (.v 0) (.v 1)) [.ilt (.n (.v 0)) (.n (.v 1))] [1,1] [] rfl [_,_] [] q)) fun ch hch => ?_
   have hd := drop_of_get hch
   refine Item.str (by exact fg (.ile (.c 0) (.n (.v 0))) [] [1] [1] rfl [_] []) (item_S rfl hch) hls ?_
   walk_at "T"
   refine is_blank_T rfl (by walk_at "RM") ?_
   walk_at "T"
   refine ite_not (fun z => ?_) fun z => ?_ <;> walk_at "T"
   ·refine Item.str (by exact fg (.ile (.c 0) (.n (.v 0))) [] [1] [1] rfl [_] []) (item_S rfl hch) hls ?_
    walk_at "T"
    rw [show ((⟨#[ch]⟩ : Str) == ("\\" : Str)) = (92 == ch) from one_eq ch 92]
    refine ite_split (fun z2 => ?_) fun z2 => ?_ <;> walk_at "T"
    ·obtain rfl : 92 = ch := by simpa using z2
     rw [hd] at hk4
     cases hd2 : l.drop (k + 1) with
     | nil =>
      rw [hd2] at hk4
      obtain ⟨rfl, rfl⟩ : [92] = r ∧ 1 = m := by rw [bareN_92] at hk4; simpa using hk4
      refine backslash_T (by exact fg (.le (.v 0) (.c 1000000)) [.le (.v 0) (.c 100000)] [1,1] [] rfl [_] [] hl) rfl (by walk_at "RM") ?_
      rw [hd2]
      walk_at "T"
      refine TC_app (by walk_at "MS") (by simp [chs]; exact fg (.lt (.v 2) (.c 1000000)) [.le (.v 0) (.c 100000),.le (.v 1) (.v 0),.le (.v 2) (.v 1)] [1,1,1,1] [] rfl [_,_,_] [] hl hk2 hk3) ?_
      rw [chs_snoc]
      walk_at "T"
      refine i12 ((k : Int) + 1, outs ++ [92]) (by walk_at "LE") (i13 (k + 1) rfl (by exact fg (.le (.a (.v 0) (.c 1)) (.v 1)) [.ilt (.n (.v 0)) (.n (.v 1))] [1,1] [] rfl [_,_] [] q) (by simp; exact fg (.le (.v 0) (.v 1)) [.le (.v 0) (.v 1)] [1,1] [] rfl [_,_] [] hk3) (i22 [] 0 ?_ (by rw [← hk5]; simp) (by exact fe (.a (.a (.v 0) (.c 1)) (.c 0)) (.a (.v 1) (.v 2)) [.eq (.a (.v 0) (.c 1)) (.a (.v 1) (.v 2)),.qe (.a (.v 0) (.c 1)) (.a (.v 1) (.v 2))] [1,0,1] [] [1,1,0] [] rfl [_,_,_] [] hk6 hk6))) (tn1 q)
      rw [List.drop_eq_nil_iff.mpr (by have := List.drop_eq_nil_iff.mp hd2; exact fg (.le (.v 0) (.a (.v 1) (.c 1))) [.le (.v 0) (.a (.v 1) (.c 1))] [1,1] [] rfl [_,_] [] this)]
      rfl
     | cons s t =>
      rw [hd2] at hk4
      have hk4' : ∃ d r' m', esc s = some d ∧ bareN t = some (r', m') ∧ r = d :: r' ∧ m = m' + 2 := by
       rw [bareN_esc] at hk4
       cases e1 : esc s with
       | none => rw [e1] at hk4; simp at hk4
       | some d =>
        cases e2 : bareN t with
        | none => rw [e1, e2] at hk4; simp at hk4
        | some p =>
         obtain ⟨r', m'⟩ := p
         rw [e1, e2] at hk4
         simp at hk4
         exact i33 d r' m' rfl rfl hk4.1.symm hk4.2.symm
      refine o33 hk4' fun d r' m' he ht zz1 zz2 => ?_
      try clear hk4'
      subst zz1
      subst zz2
      have hlt := (drop_get hd2).2.2
      refine backslash_T (by exact fg (.le (.v 0) (.c 1000000)) [.le (.v 0) (.c 100000)] [1,1] [] rfl [_] [] hl) rfl (by walk_at "RM") ?_
      rw [hd2]
      refine ⟨d, he, ?_⟩
      walk_at "T"
      refine TC_app (by walk_at "MS") (by simp [chs]; exact fg (.lt (.v 2) (.c 1000000)) [.le (.v 0) (.c 100000),.le (.v 1) (.v 0),.le (.v 2) (.v 1)] [1,1,1,1] [] rfl [_,_,_] [] hl hk2 hk3) ?_
      rw [chs_snoc]
      walk_at "T"
      refine i12 ((k : Int) + 2, outs ++ [d]) (by walk_at "LE") (i13 (k + 2) rfl (by exact fg (.le (.a (.v 0) (.c 2)) (.v 1)) [.lt (.a (.v 0) (.c 1)) (.v 1)] [1,1] [] rfl [_,_] [] hlt) (by simp; exact fg (.le (.v 0) (.a (.v 1) (.c 1))) [.le (.v 0) (.v 1)] [1,1] [] rfl [_,_] [] hk3) (i22 r' m' ?_ (by rw [← hk5]; simp) (by exact fe (.a (.a (.v 0) (.c 2)) (.v 1)) (.a (.v 2) (.v 3)) [.eq (.a (.v 0) (.a (.v 1) (.c 2))) (.a (.v 2) (.v 3)),.qe (.a (.v 0) (.a (.v 1) (.c 2))) (.a (.v 2) (.v 3))] [1,0,1] [] [1,1,0] [] rfl [_,_,_,_] [] hk6 hk6))) (tn2 q)
      rw [(drop_get hd2).2.1]
      walk_at "E"; exact ht
    ·have hne : ¬ ch = 92 := fun e => by subst e; simp at z2
     rw [hd] at hk4
     have hk4' : ∃ r' m', bareN (l.drop (k + 1)) = some (r', m') ∧ r = ch :: r' ∧ m = m' + 1 := by
      rw [bareN_ch z hne] at hk4
      cases e2 : bareN (l.drop (k + 1)) with
      | none => rw [e2] at hk4; simp at hk4
      | some p =>
       obtain ⟨r', m'⟩ := p
       rw [e2] at hk4
       simp at hk4
       exact i22 r' m' rfl hk4.1.symm hk4.2.symm
     refine o22 hk4' fun r' m' ht zz1 zz2 => ?_
     try clear hk4'
     subst zz1
     subst zz2
     refine TC_app (by walk_at "MS") (by simp [chs]; exact fg (.lt (.v 2) (.c 1000000)) [.le (.v 0) (.c 100000),.le (.v 1) (.v 0),.le (.v 2) (.v 1)] [1,1,1,1] [] rfl [_,_,_] [] hl hk2 hk3) ?_
     rw [chs_snoc]
     walk_at "T"
     exact i12 ((k : Int) + 1, outs ++ [ch]) (by walk_at "LE") (i13 (k + 1) rfl (by exact fg (.le (.a (.v 0) (.c 1)) (.v 1)) [.ilt (.n (.v 0)) (.n (.v 1))] [1,1] [] rfl [_,_] [] q) (by simp; exact fg (.le (.v 0) (.v 1)) [.le (.v 0) (.v 1)] [1,1] [] rfl [_,_] [] hk3) (i22 r' m' ht (by rw [← hk5]; simp) (by exact fe (.a (.a (.v 0) (.c 1)) (.v 1)) (.a (.v 2) (.v 3)) [.eq (.a (.v 0) (.a (.v 1) (.c 1))) (.a (.v 2) (.v 3)),.qe (.a (.v 0) (.a (.v 1) (.c 1))) (.a (.v 2) (.v 3))] [1,0,1] [] [1,1,0] [] rfl [_,_,_,_] [] hk6 hk6))) (tn1 q)
   ·have hne : ¬ ch = 92 := fun e => by subst e; exact absurd z (by decide)
    rw [hd] at hk4
    have hk4' : r = [] ∧ m = 0 := by
     rw [bareN_blank z] at hk4
     simp at hk4
     exact ⟨by simp [hk4], by simp [hk4]⟩
    refine o01 hk4' fun zz1 zz2 => ?_
    try clear hk4'
    subst zz1
    subst zz2
    rw [List.append_nil] at hk5
    subst hk5
    walk_at "K"; exact Seq.next (i22 _ none rfl (by exact fi (.n (.v 0)) (.n (.a (.v 1) (.v 2))) [.eq (.a (.v 0) (.c 0)) (.a (.v 1) (.v 2)),.qe (.a (.v 0) (.c 0)) (.a (.v 1) (.v 2))] [1,0,1] [] [1,1,0] [] rfl [_,_,_] [] hk6 hk6) (by exact fg (.le (.v 0) (.v 2)) [.le (.v 0) (.v 1),.ilt (.n (.v 1)) (.n (.v 2))] [1,1,1] [] rfl [_,_,_] [] hk3 q))
  ·have : k = l.length := by exact fe (.v 0) (.v 1) [.le (.v 0) (.v 1),.inlt (.n (.v 0)) (.n (.v 1))] [1,0,1] [] [1,1,0] [] rfl [_,_] [] hk2 q
   subst this
   rw [List.drop_length] at hk4
   obtain ⟨rfl, rfl⟩ : [] = r ∧ 0 = m := by simpa [bareN] using hk4
   rw [List.append_nil] at hk5
   subst hk5
   walk_at "K"; exact Seq.next (i22 _ none rfl (by exact fi (.n (.v 0)) (.n (.a (.v 1) (.v 2))) [.eq (.a (.v 0) (.c 0)) (.a (.v 1) (.v 2)),.qe (.a (.v 0) (.c 0)) (.a (.v 1) (.v 2))] [1,0,1] [] [1,1,0] [] rfl [_,_,_] [] hk6 hk6) (by exact fg (.le (.v 0) (.v 1)) [.le (.v 0) (.v 1)] [1,1] [] rfl [_,_] [] hk3))
 subst e1 e2
 walk_at "T"
 refine TC_join_mu (by walk_at "MO") (chs_eq R) (by rw [sum_ones]; simp; show R.length + R.length * 0 ≤ _; exact Nat.le_trans (Nat.add_le_add (Nat.le_trans hRl hl) (Nat.le_of_eq (Nat.mul_zero _))) (by decide)) ?_
 rw [show (Str.ofString "") = S [] from rfl, join_chs]
 walk_at "T"
 walk_at "E"; exact h
end
end
section
noncomputable def openEnd : List Nat → Bool
 | [] => true
 | ch :: _ => blank ch
noncomputable def bracedN : Nat → List Nat → Option Nat
 | _, [] => none
 | d, ch :: l => if ch = 92 then (match l with
   | [] => none
   | _ :: l' => (bracedN d l').map (· + 2)) else if ch = 123 then (bracedN (d + 1) l).map (· + 1) else if ch = 125 then (if d = 1 then some 0 else (bracedN (d - 1) l).map (· + 1)) else (bracedN d l).map (· + 1)
theorem bracedN_92 {d : Nat} : bracedN d [92] = none := by rfl
theorem bracedN_esc {d s : Nat} {l : List Nat} : bracedN d (92 :: s :: l) = (bracedN d l).map (· + 2) := by rfl
theorem bracedN_123 {d : Nat} {l : List Nat} : bracedN d (123 :: l) = (bracedN (d + 1) l).map (· + 1) := by
 rw [bracedN.eq_def]; dsimp only; rw [if_neg (by decide), if_pos rfl]
theorem bracedN_125 {d : Nat} {l : List Nat} : bracedN d (125 :: l) = if d = 1 then some 0 else (bracedN (d - 1) l).map (· + 1) := by
 rw [bracedN.eq_def]; dsimp only; rw [if_neg (by decide), if_neg (by decide), if_pos rfl]
theorem bracedN_ch {d ch : Nat} {l : List Nat} (h1 : ¬ ch = 92) (h2 : ¬ ch = 123) (h3 : ¬ ch = 125) : bracedN d (ch :: l) = (bracedN d l).map (· + 1) := by
 rw [bracedN.eq_def]; dsimp only; rw [if_neg h1, if_neg h2, if_neg h3]
noncomputable def openF : Flds := errF "unmatched open brace in list" (.tuple [.str "TCL", .str "VALUE", .str "LIST", .str "BRACE"])
section
variable {c : Cx} {st : St} {X : Flds → List (Option AV) → Prop} {Q : AV → St → Prop}
theorem check_behind_T {l : List Nat} {at' : Nat} {what : Str} (hl : l.length ≤ 100000) (ho : openEnd (l.drop at') = true) (hhd : c.hd = false) (hr : 2 ≤ c.room) (h : Q (.d .none) st) : TC c st (.ref 108) [.d (.str (S l)), .d (.int (at' : Nat)), .d (.str what)] Q X := by
 refine enter_check_behind [] st.mu rfl hhd (rm0 hr rfl) fun o ho' hF => ?_
 with_reducible refine' absN ?e fun K0 hK0 => ?_
 case e => exact rfl
 have hls : (S l).length ≤ 1000000 := by rw [len_S]; exact fg (.le (.v 0) (.c 1000000)) [.le (.v 0) (.c 100000)] [1,1] [] rfl [_] [] hl
 walk_at "T"
 refine TC_len_str hls ?_
 rw [len_S]
 walk_at "T"
 refine ite_d (fun q => ?_) fun q => ?_ <;> walk_at "T"
 ·walk_at "E"; exact h
 ·refine o10 (get_lt (l := l) (f := at') (by exact fg (.lt (.v 1) (.v 0)) [.inle (.n (.v 0)) (.n (.v 1))] [1,1] [] rfl [_,_] [] q)) fun ch hch => ?_
  rw [drop_of_get hch] at ho
  refine Item.str (by exact fg (.ile (.c 0) (.n (.v 0))) [] [1] [1] rfl [_] []) (item_S rfl hch) hls ?_
  walk_at "T"
  refine is_blank_T rfl (by walk_at "RM") ?_
  walk_at "T"
  refine ite_t ho ?_
  walk_at "T"
  walk_at "E"; exact h
theorem braced_element_T {l : List Nat} {first : Nat} {R : Option Nat} (hl : l.length ≤ 100000) (hb : bracedN 1 (l.drop first) = R) (hf : first ≤ l.length) (ho : ∀ m, R = some m → openEnd (l.drop (first + m + 1)) = true) (hhd : c.hd = false) (hr : 4 ≤ c.room)
  (h : ∀ m, R = some m → Q (.d (.tuple [.str (S ((l.drop first).take m)), .int ((first + m + 1 : Nat) : Int)])) st) (hx : R = none → X openF st.loc) : TC c st (.ref 115) [.d (.str (S l)), .d (.int (first : Nat))] Q X := by
 refine enter_braced_element [] st.mu rfl hhd (rm0 hr rfl) fun o ho' hF => ?_
 with_reducible refine' absN ?e fun K0 hK0 => ?_
 case e => exact rfl
 have hls : (S l).length ≤ 1000000 := by rw [len_S]; exact fg (.le (.v 0) (.c 1000000)) [.le (.v 0) (.c 100000)] [1,1] [] rfl [_] [] hl
 walk_at "T"
 refine TS_sq (fun st1 => R = none ∧ ∃ loc, st1 = ⟨loc, []⟩) (fun K3 hK3 => ?_) fun st1 => aiI fun e1 => exI fun loc => fun e2 => ?_
 ·refine TS_wh (S := fun σ : Int × Int => ⟨[some (.d (.str (S l))), some (.d (.int (first : Nat))), some (.d (.int σ.1)), some (.d (.int σ.2)), none], []⟩)
   (I := fun σ => ∃ d k : Nat, σ.1 = d ∧ σ.2 = k ∧ 1 ≤ d ∧ first ≤ k ∧ k ≤ l.length + 1 ∧ R = (bracedN d (l.drop k)).map (· + (k - first))) (m := fun σ => l.length + 1 - σ.2.toNat) (a0 := ((1 : Int), (first : Int))) hF (by walk_at "LE")
   (i25 1 first rfl rfl (Nat.le_refl _) (Nat.le_refl _) (by exact fg (.le (.v 0) (.a (.v 1) (.c 1))) [.le (.v 0) (.v 1)] [1,1] [] rfl [_,_] [] hf) (by rw [hb, Nat.sub_self]; cases R <;> rfl)) fun ⟨i, j⟩ K1 hK1 => exI fun d => exI fun k => aiI fun hk1 => aiI fun hk2 => aiI fun hk3 => aiI fun hk4 => aiI fun hk5 => fun hk6 => ?_
  dsimp only at hk1 hk2 ⊢
  subst hk1 hk2
  walk_at "T"
  refine TC_len_str hls ?_
  rw [len_S]
  walk_at "T"
  refine ite_d (fun q => ?_) fun q => ?_ <;> walk_at "T"
  ·refine o10 (get_lt (l := l) (f := k) (by exact fg (.lt (.v 0) (.v 1)) [.ilt (.n (.v 0)) (.n (.v 1))] [1,1] [] rfl [_,_] [] q)) fun ch hch => ?_
   have hd := drop_of_get hch
   rw [hd] at hk6
   refine Item.str (by exact fg (.ile (.c 0) (.n (.v 0))) [] [1] [1] rfl [_] []) (item_S rfl hch) hls ?_
   walk_at "T"
   rw [show ((⟨#[ch]⟩ : Str) == ("\\" : Str)) = (92 == ch) from one_eq ch 92]
   refine ite_split (fun z2 => ?_) fun z2 => ?_ <;> walk_at "T"
   ·obtain rfl : 92 = ch := by simpa using z2
    refine i12 ((d : Int), (k : Int) + 1 + 1) (by walk_at "LE") (i25 d (k + 2) rfl rfl hk3 (by exact fg (.le (.v 0) (.a (.v 1) (.c 2))) [.le (.v 0) (.v 1)] [1,1] [] rfl [_,_] [] hk4) (by exact fg (.le (.a (.v 0) (.c 2)) (.a (.v 1) (.c 1))) [.ilt (.n (.v 0)) (.n (.v 1))] [1,1] [] rfl [_,_] [] q) ?_) (tn11 (lts q))
    cases hd2 : l.drop (k + 1) with
    | nil =>
     rw [hd2, bracedN_92] at hk6
     rw [List.drop_eq_nil_iff.mpr (by have := List.drop_eq_nil_iff.mp hd2; exact fg (.le (.v 0) (.a (.v 1) (.c 2))) [.le (.v 0) (.a (.v 1) (.c 1))] [1,1] [] rfl [_,_] [] this)]
     exact hk6
    | cons s t =>
     rw [hd2, bracedN_esc] at hk6
     rw [(drop_get hd2).2.1, hk6]
     cases bracedN d t <;> simp; exact ksub hk4
   ·have n1 : ¬ ch = 92 := fun e => by subst e; simp at z2
    rw [show ((⟨#[ch]⟩ : Str) == ("{" : Str)) = (123 == ch) from one_eq ch 123]
    refine ite_split (fun z3 => ?_) fun z3 => ?_ <;> walk_at "T"
    ·obtain rfl : 123 = ch := by simpa using z3
     refine i12 ((d : Int) + 1, (k : Int) + 1) (by walk_at "LE") (i25 (d + 1) (k + 1) rfl rfl (by exact fg (.le (.c 1) (.a (.v 0) (.c 1))) [] [1] [1] rfl [_] []) (by exact fg (.le (.v 0) (.a (.v 1) (.c 1))) [.le (.v 0) (.v 1)] [1,1] [] rfl [_,_] [] hk4) (by exact fg (.le (.a (.v 0) (.c 1)) (.a (.v 1) (.c 1))) [.ilt (.n (.v 0)) (.n (.v 1))] [1,1] [] rfl [_,_] [] q) ?_) (tn1 (lts q))
     rw [bracedN_123] at hk6
     rw [hk6]
     cases bracedN (d + 1) (l.drop (k + 1)) <;> simp; exact ksub hk4
    ·have n2 : ¬ ch = 123 := fun e => by subst e; simp at z3
     rw [show ((⟨#[ch]⟩ : Str) == ("}" : Str)) = (125 == ch) from one_eq ch 125]
     refine ite_split (fun z4 => ?_) fun z4 => ?_ <;> walk_at "T"
     ·obtain rfl : 125 = ch := by simpa using z4
      rw [bracedN_125] at hk6
      refine ite_eq (fun z5 => ?_) fun z5 => ?_ <;> walk_at "T"
      ·rw [if_pos (by exact fe (.v 0) (.c 1) [.ieq (.s (.n (.v 0)) (.c 1)) (.c 0),.iqe (.s (.n (.v 0)) (.c 1)) (.c 0)] [1,0,1] [] [1,1,0] [] rfl [_] [] z5 z5)] at hk6
       have hR : R = some (k - first) := by rw [hk6]; simp
       have hop := ho _ hR
       rw [show first + (k - first) + 1 = k + 1 from congrArg (· + 1) (Nat.add_sub_cancel' hk4)] at hop
       refine check_behind_T (at' := k + 1) hl hop rfl (by walk_at "RM") ?_
       walk_at "T"
       refine Item.str_slice hls ?_
       rw [slice_S]
       walk_at "T"
       have := h _ hR
       rw [show first + (k - first) + 1 = k + 1 from congrArg (· + 1) (Nat.add_sub_cancel' hk4)] at this
       walk_at "E"; exact this
      ·rw [if_neg (by exact fun z => z5 (by rw [z]; decide))] at hk6
       refine i12 ((d : Int) - 1, (k : Int) + 1) (by walk_at "LE") (i25 (d - 1) (k + 1) ((Int.ofNat_sub hk3).symm) rfl (Nat.le_sub_one_of_lt (Nat.lt_of_le_of_ne hk3 fun z => z5 (by rw [← z]; decide))) (by exact fg (.le (.v 0) (.a (.v 1) (.c 1))) [.le (.v 0) (.v 1)] [1,1] [] rfl [_,_] [] hk4) (by exact fg (.le (.a (.v 0) (.c 1)) (.a (.v 1) (.c 1))) [.ilt (.n (.v 0)) (.n (.v 1))] [1,1] [] rfl [_,_] [] q) ?_) (tn1 (lts q))
       rw [hk6]
       cases bracedN (d - 1) (l.drop (k + 1)) <;> simp; exact ksub hk4
     ·have n3 : ¬ ch = 125 := fun e => by subst e; simp at z4
      refine i12 ((d : Int), (k : Int) + 1) (by walk_at "LE") (i25 d (k + 1) rfl rfl hk3 (by exact fg (.le (.v 0) (.a (.v 1) (.c 1))) [.le (.v 0) (.v 1)] [1,1] [] rfl [_,_] [] hk4) (by exact fg (.le (.a (.v 0) (.c 1)) (.a (.v 1) (.c 1))) [.ilt (.n (.v 0)) (.n (.v 1))] [1,1] [] rfl [_,_] [] q) ?_) (tn1 (lts q))
      rw [bracedN_ch n1 n2 n3] at hk6
      rw [hk6]
      cases bracedN d (l.drop (k + 1)) <;> simp; exact ksub hk4
  ·walk_at "K"; refine Seq.next ⟨?_, _, rfl⟩
   rw [hk6, List.drop_eq_nil_iff.mpr (by exact fg (.le (.v 1) (.v 0)) [.inlt (.n (.v 0)) (.n (.v 1))] [1,1] [] rfl [_,_] [] q)]
   rfl
 subst e2
 walk_at "T"
 refine error_T2 rfl (by walk_at "RM") fun e dx => ?_
 exact i32 e dx _ rfl .here (hx e1)
inductive FRes where
 | none
 | ok (e : List Nat) (n : Nat)
 | bad
 | unk
noncomputable def findN (l : List Nat) : FRes :=
 let k := (l.takeWhile blank).length
 match l.dropWhile blank with
 | [] => .none
 | 123 :: r => (match bracedN 1 r with
  | Option.none => .bad
  | some m => if openEnd (r.drop (m + 1)) then .ok (r.take m) (k + m + 2) else .unk)
 | 34 :: _ => .unk
 | r => (match bareN r with
  | some (e, n) => .ok e (k + n)
  | Option.none => .unk)
noncomputable def fresQ (at' : Nat) : FRes → Option PyData
 | .none => some .none
 | .ok e n => some (.tuple [.str (S e), .int ((at' + n : Nat) : Int)])
 | _ => Option.none
theorem findN_ws {l : List Nat} : l.drop (l.takeWhile blank).length = l.dropWhile blank := by
 induction l with
 | nil => rfl
 | cons a l ih =>
  cases hb : blank a with
  | true => simp [hb, ih]
  | false => simp [hb]
theorem find_element_T {l : List Nat} {at' : Nat} {r : FRes} (hl : l.length ≤ 100000) (ha : at' ≤ l.length) (hr' : findN (l.drop at') = r) (hu : r ≠ .unk) (hhd : c.hd = false) (hr : 5 ≤ c.room)
  (h : ∀ p, fresQ at' r = some p → Q (.d p) st) (hx : r = .bad → X openF st.loc) : TC c st (.ref 136) [.d (.str (S l)), .d (.int (at' : Nat))] Q X := by
 refine enter_find_element [] st.mu rfl hhd (rm0 hr rfl) fun o ho' hF => ?_
 with_reducible refine' absN ?e fun K0 hK0 => ?_
 case e => exact rfl
 have hls : (S l).length ≤ 1000000 := by rw [len_S]; exact fg (.le (.v 0) (.c 1000000)) [.le (.v 0) (.c 100000)] [1,1] [] rfl [_] [] hl
 refine TS_sq (fun st1 => ∃ k : Nat, st1 = ⟨[some (.d (.str (S l))), some (.d (.int (k : Nat)))], []⟩ ∧ k = at' + ((l.drop at').takeWhile blank).length ∧ k ≤ l.length) (fun K4 hK4 => ?_) fun st1 => exI fun k => aiI fun e1 => aiI fun e2 => fun e3 => ?_
 ·refine TS_wh (S := fun a : Int => ⟨[some (.d (.str (S l))), some (.d (.int a))], []⟩) (I := fun a => ∃ k : Nat, a = k ∧ k ≤ l.length ∧ k + ((l.drop k).takeWhile blank).length = at' + ((l.drop at').takeWhile blank).length) (m := fun a => l.length - a.toNat) (a0 := (at' : Int)) hF (by walk_at "LE") (i12 at' rfl ha rfl) fun a K2 hK2 => exI fun k => aiI fun hk1 => aiI fun hk2 => fun hk3 => ?_
  subst hk1
  walk_at "T"
  refine TC_len_str hls ?_
  rw [len_S]
  walk_at "T"
  refine ite_d (fun q => ?_) fun q => ?_ <;> walk_at "T"
  ·refine o10 (get_lt (l := l) (f := k) (by exact fg (.lt (.v 0) (.v 1)) [.ilt (.n (.v 0)) (.n (.v 1))] [1,1] [] rfl [_,_] [] q)) fun ch hch => ?_
   rw [drop_of_get hch] at hk3
   refine Item.str (by exact fg (.ile (.c 0) (.n (.v 0))) [] [1] [1] rfl [_] []) (item_S rfl hch) hls ?_
   walk_at "T"
   refine is_blank_T rfl (by walk_at "RM") ?_
   walk_at "T"
   refine ite_split (fun z => ?_) fun z => ?_ <;> walk_at "T"
   ·refine i12 ((k : Int) + 1) (by walk_at "LE") (i12 (k + 1) rfl (by exact fg (.le (.a (.v 0) (.c 1)) (.v 1)) [.ilt (.n (.v 0)) (.n (.v 1))] [1,1] [] rfl [_,_] [] q) ?_) (tn1 q)
    rw [List.takeWhile_cons, if_pos z, List.length_cons] at hk3
    exact fe (.a (.a (.v 0) (.c 1)) (.v 1)) (.a (.v 2) (.v 3)) [.eq (.a (.v 0) (.a (.v 1) (.c 1))) (.a (.v 2) (.v 3)),.qe (.a (.v 0) (.a (.v 1) (.c 1))) (.a (.v 2) (.v 3))] [1,0,1] [] [1,1,0] [] rfl [_,_,_,_] [] hk3 hk3
   ·walk_at "K"; refine Seq.next (i12 k rfl ?_ hk2)
    rw [List.takeWhile_cons, if_neg (by rw [z]; decide)] at hk3
    simpa using hk3
  ·walk_at "K"; refine Seq.next (i12 k rfl ?_ hk2)
   rw [List.drop_eq_nil_iff.mpr (by exact fg (.le (.v 1) (.v 0)) [.inlt (.n (.v 0)) (.n (.v 1))] [1,1] [] rfl [_,_] [] q)] at hk3
   simpa using hk3
 subst e1
 have hw : l.drop k = (l.drop at').dropWhile blank := by rw [e2, ← findN_ws, List.drop_drop]
 have hk' : k - at' = ((l.drop at').takeWhile blank).length := by rw [e2, Nat.add_sub_cancel_left]
 unfold findN at hr'
 dsimp only at hr'
 rw [← hw, ← hk'] at hr'
 walk_at "T"
 refine TC_len_str hls ?_
 rw [len_S]
 walk_at "T"
 refine ite_d (fun q => ?_) fun q => ?_ <;> walk_at "T"
 ·rw [List.drop_eq_nil_iff.mpr (by exact fg (.le (.v 0) (.v 1)) [.ile (.n (.v 0)) (.n (.v 1))] [1,1] [] rfl [_,_] [] q)] at hr'
  subst hr'
  walk_at "E"; exact h _ rfl
 refine o10 (get_lt (l := l) (f := k) (by exact fg (.lt (.v 1) (.v 0)) [.inle (.n (.v 0)) (.n (.v 1))] [1,1] [] rfl [_,_] [] q)) fun ch hch => ?_
 rw [drop_of_get hch] at hr'
 refine Item.str (by exact fg (.ile (.c 0) (.n (.v 0))) [] [1] [1] rfl [_] []) (item_S rfl hch) hls ?_
 walk_at "T"
 rw [show ((⟨#[ch]⟩ : Str) == ("{" : Str)) = (123 == ch) from one_eq ch 123]
 refine ite_split (fun z => ?_) fun z => ?_ <;> walk_at "T"
 ·obtain rfl : 123 = ch := by simpa using z
  have hr' : (match bracedN 1 (l.drop (k + 1)) with | Option.none => FRes.bad | some m => if openEnd ((l.drop (k + 1)).drop (m + 1)) = true then .ok ((l.drop (k + 1)).take m) (k - at' + m + 2) else .unk) = r := hr'
  refine braced_element_T (first := k + 1) hl rfl (by exact fg (.le (.a (.v 1) (.c 1)) (.v 0)) [.inle (.n (.v 0)) (.n (.v 1))] [1,1] [] rfl [_,_] [] q) (fun m hm => ?_) rfl (by walk_at "RM") (fun m hm => ?_) fun hm => ?_
  ·rw [hm] at hr'
   dsimp only at hr'
   split at hr'
   ·rename_i ho
    rw [show k + 1 + m + 1 = (k + 1) + (m + 1) by exact fe (.a (.a (.a (.v 0) (.c 1)) (.v 1)) (.c 1)) (.a (.a (.v 0) (.c 1)) (.a (.v 1) (.c 1))) [] [1] [] [1] [] rfl [_,_] [], ← List.drop_drop]
    exact ho
   ·exact absurd hr'.symm hu
  ·rw [hm] at hr'
   dsimp only at hr'
   split at hr'
   ·subst hr'
    have := h _ rfl
    rw [show at' + (k - at' + m + 2) = k + 1 + m + 1 by exact fe (.a (.v 1) (.a (.a (.v 3) (.v 4)) (.c 2))) (.a (.a (.a (.v 0) (.c 1)) (.v 4)) (.c 1)) [.eq (.v 0) (.a (.v 1) (.v 2)),.qe (.v 0) (.a (.v 1) (.v 2)),.eq (.v 3) (.v 2),.qe (.v 3) (.v 2)] [1,1,0,0,1] [] [1,0,1,1,0] [] rfl [_,_,_,_,_] [] e2 e2 hk' hk'] at this
    walk_at "E"; exact this
   ·exact absurd hr'.symm hu
  ·rw [hm] at hr'
   walk_at "E"; exact hx hr'.symm
 have n1 : ¬ ch = 123 := fun e => by subst e; simp at z
 refine Item.str (by exact fg (.ile (.c 0) (.n (.v 0))) [] [1] [1] rfl [_] []) (item_S rfl hch) hls ?_
 walk_at "T"
 rw [show ((⟨#[ch]⟩ : Str) == ("\"" : Str)) = (34 == ch) from one_eq ch 34]
 refine ite_split (fun z2 => ?_) fun z2 => ?_ <;> walk_at "T"
 ·obtain rfl : 34 = ch := by simpa using z2
  exact absurd hr'.symm hu
 have n2 : ¬ ch = 34 := fun e => by subst e; simp at z2
 have hr2 : (match bareN (ch :: l.drop (k + 1)) with | some (e, n) => FRes.ok e (k - at' + n) | Option.none => .unk) = r := by
  rw [← hr']
  split
  ·rename_i e n hb
   split
   ·rename_i e; cases e
   ·rename_i e; cases e; exact absurd rfl n1
   ·rename_i e; cases e; exact absurd rfl n2
   ·rw [hb]
  ·rename_i hb
   split
   ·rename_i e; cases e
   ·rename_i e; cases e; exact absurd rfl n1
   ·rename_i e; cases e; exact absurd rfl n2
   ·rw [hb]
 cases hb : bareN (ch :: l.drop (k + 1)) with
 | none => rw [hb] at hr2; exact absurd hr2.symm hu
 | some p =>
  obtain ⟨e, n⟩ := p
  rw [hb] at hr2
  subst hr2
  refine bare_element_T (R := e) (n := n) hl (by rw [drop_of_get hch]; exact hb) (by exact fg (.le (.v 1) (.v 0)) [.inle (.n (.v 0)) (.n (.v 1))] [1,1] [] rfl [_,_] [] q) rfl (by walk_at "RM") ?_
  walk_at "T"
  have := h _ rfl
  rw [show at' + (k - at' + n) = k + n by exact fe (.a (.v 1) (.a (.v 3) (.v 4))) (.a (.v 0) (.v 4)) [.eq (.v 0) (.a (.v 1) (.v 2)),.qe (.v 0) (.a (.v 1) (.v 2)),.eq (.v 3) (.v 2),.qe (.v 3) (.v 2)] [1,1,0,0,1] [] [1,0,1,1,0] [] rfl [_,_,_,_,_] [] e2 e2 hk' hk'] at this
  walk_at "E"; exact this
end
end
section
noncomputable def txs (es : List (List Nat)) : List PyData := es.map fun e => .str (S e)
theorem txs_snoc (es : List (List Nat)) (e : List Nat) : txs es ++ [PyData.str (S e)] = txs (es ++ [e]) := by simp [txs]
theorem txs_map (es : List (List Nat)) : txs es = (es.map S).map PyData.str := by simp [txs]
theorem txs_len (es : List (List Nat)) : (txs es).length = es.length := by simp [txs]
inductive SplitAt (l : List Nat) : Nat → Option (List (List Nat)) → Nat → Prop
 | done {a} : findN (l.drop a) = .none → SplitAt l a (some []) 0
 | bad {a} : findN (l.drop a) = .bad → SplitAt l a none 0
 | ok {a e n r s} : findN (l.drop a) = .ok e n → a + n ≤ l.length → SplitAt l (a + n) r s → SplitAt l a (r.map (e :: ·)) (s + 1)
section
variable {c : Cx} {st : St} {X : Flds → List (Option AV) → Prop} {Q : AV → St → Prop}
theorem tail_find {l : List Nat} {at' : Nat} {R : Option (List (List Nat))} {s : Nat} (hs : SplitAt l at' R s) : ∃ r, findN (l.drop at') = r ∧ r ≠ .unk ∧ (r = .bad → R = none) ∧ (r = .none → R = some []) ∧ (∀ e n, r = .ok e n → at' + n ≤ l.length ∧ ∃ r' s', R = r'.map (e :: ·) ∧ s = s' + 1 ∧ SplitAt l (at' + n) r' s') := by
 cases hs with
 | done h => exact i14 _ h (by simp) (by simp) (fun _ => rfl) (fun _ _ q => by cases q)
 | bad h => exact i14 _ h (by simp) (fun _ => rfl) (fun q => by cases q) (fun _ _ q => by cases q)
 | ok h1 h2 h3 => exact i14 _ h1 (by simp) (fun q => by cases q) (fun q => by cases q) (fun _ _ q => by cases q; exact ⟨h2, _, _, rfl, rfl, h3⟩)
theorem split_list_T {l : List Nat} {R : Option (List (List Nat))} {s : Nat} (hl : l.length ≤ 100000) (hs : SplitAt l 0 R s) (hsm : s ≤ 100000) (hhd : c.hd = false) (hr : 6 ≤ c.room)
  (h : ∀ es, R = some es → Q (.d (.list (txs es))) st) (hx : R = none → X openF st.loc) : TC c st (.ref 143) [.d (.str (S l))] Q X := by
 refine enter_split_list [] st.mu rfl hhd (rm0 hr rfl) fun o ho' hF => ?_
 with_reducible refine' absN ?e fun K0 hK0 => ?_
 case e => exact rfl
 walk_at "T"
 refine TE_lmu ?_
 walk_at "T"
 intro a
 walk_at "T"
 refine o14 (tail_find hs) fun r hf hu h1 h2 h3 => ?_
 refine find_element_T (at' := 0) hl (Nat.zero_le _) hf hu rfl (by walk_at "RM") (fun p hp => ?_) fun q => hx (h1 q)
 walk_at "T"
 refine TS_sq (fun st1 => ∃ es f, R = some es ∧ st1 = ⟨[some (.d (.str (S l))), some (.v (.ref a)), f], [(a, .list (txs es))]⟩) (fun K2 hK2 => ?_) fun st1 => exI fun es => exI fun f => aiI fun e1 => fun e2 => ?_
 ·refine TS_wh (S := fun σ : PyData × List (List Nat) × Nat => ⟨[some (.d (.str (S l))), some (.v (.ref a)), some (.d σ.1)], [(a, .list (txs σ.2.1))]⟩)
   (I := fun σ => σ.2.1.length + σ.2.2 ≤ s ∧ ((σ.1 = .none ∧ R = some σ.2.1 ∧ σ.2.2 = 0) ∨ ∃ at2 e r' s', σ.2.2 = s' + 1 ∧ σ.1 = .tuple [.str (S e), .int ((at2 : Nat) : Int)] ∧ at2 ≤ l.length ∧ R = r'.map (σ.2.1 ++ e :: ·) ∧ SplitAt l at2 r' s')) (m := fun σ => σ.2.2) (a0 := (p, [], s)) hF (by walk_at "LE") ?_ fun ⟨p, es, m⟩ K1 hK1 => aiI fun hm => fun hI => ?_
  ·refine ⟨by simp, ?_⟩
   cases r with
   | none =>
    cases hp
    have := h2 rfl
    refine .inl (i02 rfl this ?_)
    cases hs with
    | done _ => rfl
    | bad q => rw [hf] at q; first | done | cases q
    | ok q _ _ => rw [hf] at q; first | done | cases q
   | bad => cases hp
   | unk => cases hp
   | ok e n =>
    cases hp
    refine o01 (h3 e n rfl) fun q1 zz1 => ?_
    refine o22 zz1 fun r' s' q2 q3 q4 => ?_
    clear zz1
    exact .inr (i44 (0 + n) e r' s' q3 rfl q1 (by rw [q2]; rfl) q4)
  ·walk_at "T"
   rcases hI with ⟨i1, i2, i3⟩ | ⟨at2, e, r', s', i1, i2, i3, i4, i5⟩
   ·dsimp only at i1 i2
    subst i1
    refine ite_f rfl ?_
    walk_at "K"; exact Seq.next (i21 es _ i2 rfl)
   ·dsimp only at i1 i2 i4 hm
    subst i2 i1
    refine ite_t rfl ?_
    walk_at "T"
    refine Item.tuple (by decide) rfl (by simp) ?_
    walk_at "T"
    refine TC_app (by walk_at "MS") (by rw [txs_len]; (try dsimp only); exact fg (.lt (.v 1) (.c 1000000)) [.le (.v 0) (.c 100000),.le (.a (.v 1) (.a (.v 2) (.c 1))) (.v 0)] [1,1,1] [0,0,1] rfl [_,_,_] [] hsm hm) ?_
    rw [txs_snoc]
    walk_at "T"
    refine Item.tuple (i := 1) (by decide) rfl (by simp) ?_
    walk_at "T"
    refine o14 (tail_find i5) fun r2 g1 g2 g3 g4 g5 => ?_
    refine find_element_T (at' := at2) hl i3 g1 g2 rfl (by walk_at "RM") (fun p2 hp2 => ?_) fun q => hx (by rw [i4, g3 q]; rfl)
    walk_at "T"
    refine i12 (p2, es ++ [e], s') (by walk_at "LE") ⟨by simp; exact fg (.le (.a (.a (.v 0) (.c 1)) (.v 1)) (.v 2)) [.le (.a (.v 0) (.a (.v 1) (.c 1))) (.v 2)] [1,1] [] rfl [_,_,_] [] hm, ?_⟩ (by (try dsimp only); exact fg (.lt (.v 0) (.a (.v 0) (.c 1))) [] [1] [] rfl [_] [])
    cases r2 with
    | none =>
     cases hp2
     refine .inl (i02 rfl (by rw [i4, g4 rfl]; rfl) ?_)
     cases i5 with
     | done _ => rfl
     | bad q => rw [g1] at q; first | done | cases q
     | ok q _ _ => rw [g1] at q; first | done | cases q
    | bad => cases hp2
    | unk => cases hp2
    | ok e2 n2 =>
     cases hp2
     refine o01 (g5 e2 n2 rfl) fun q1 zz1 => ?_
     refine o22 zz1 fun r3 s3 q2 q3 q4 => ?_
     clear zz1
     refine .inr (i44 (at2 + n2) e2 r3 s3 q3 rfl q1 ?_ q4)
     rw [i4, q2]
     cases r3 <;> simp
 subst e2
 with_reducible refine TL_c (TS_rt ?_)
 refine TE_freeze ?_
 walk_at "T"
 refine i32 a _ _ rfl .here ?_
 walk_at "V"
 exact h es e1
theorem list_or_none_T {l : List Nat} {R : Option (List (List Nat))} {s : Nat} (hl : l.length ≤ 100000) (hs : SplitAt l 0 R s) (hsm : s ≤ 100000) (hhd : c.hd = false) (hr : 7 ≤ c.room)
  (h : Q (.d (match R with | some es => .list (txs es) | none => .none)) st) : TC c st (.ref 214) [.d (.str (S l))] Q X := by
 refine enter_list_or_none [] st.mu rfl hhd (rm0 hr rfl) fun o ho' hF => ?_
 with_reducible refine' absN ?e fun K0 hK0 => ?_
 case e => exact rfl
 refine TS_try hF (by with_reducible (repeat (first | exact mem_h | apply mem_t))) ?_
 walk_at "T"
 refine split_list_T hl hs hsm rfl (by walk_at "RM") (fun es he => ?_) fun he => ?_
 ·walk_at "T"
  subst he
  walk_at "E"; exact h
 ·intro e dx T
  subst he
  walk_at "T"
  exact hK0 _ _ h
end
end
section
noncomputable def escN (ch : Nat) (deep : Bool) : List Nat :=
 if ch = 12 then [92, 102] else if ch = 10 then [92, 110] else if ch = 13 then [92, 114] else if ch = 9 then [92, 116] else if ch = 11 then [92, 118]
 else if [93, 91, 36, 59, 32, 92, 34].contains ch || (deep && (ch == 123 || ch == 125)) then [92, ch] else [ch]
section
variable {c : Cx} {st : St} {X : Flds → List (Option AV) → Prop} {Q : AV → St → Prop}
theorem escaped_T {ch : Nat} {deep : Bool} (hhd : c.hd = false) (hr : 1 ≤ c.room) (h : Q (.d (.str (S (escN ch deep)))) st) : TC c st (.ref 157) [.d (.str (S [ch])), .d (.bool deep)] Q X := by
 refine enter_escaped [] st.mu rfl hhd (rm0 hr rfl) fun o ho' hF => ?_
 with_reducible refine' absN ?e fun K0 hK0 => ?_
 case e => exact rfl
 walk_at "T"
 refine TC_find ?_
 walk_at "T"
 by_cases k : ch ∈ ([12, 10, 13, 9, 11] : List Nat)
 ·have : ∃ (j d : Nat), Txt.find (Str.ofString "\x0c\n\r\t\x0b") (S [ch]) = (j : Int) ∧ ([102, 110, 114, 116, 118] : List Nat)[j]? = some d ∧ escN ch deep = [92, d] := by
   simp only [List.mem_cons, List.not_mem_nil, or_false] at k
   rcases k with rfl | rfl | rfl | rfl | rfl
   ·exact i22 0 102 (by kernel_rfl!) rfl rfl
   ·exact i22 1 110 (by kernel_rfl!) rfl rfl
   ·exact i22 2 114 (by kernel_rfl!) rfl rfl
   ·exact i22 3 116 (by kernel_rfl!) rfl rfl
   ·exact i22 4 118 (by kernel_rfl!) rfl rfl
  refine o22 this fun j d h1 h2 h3 => ?_
  try clear this
  rw [h1]
  refine ite_dt (by exact fg (.ile (.c 0) (.n (.v 0))) [] [1] [1] rfl [_] []) ?_
  walk_at "T"
  refine Item.str (ch := d) (by exact fg (.ile (.c 0) (.n (.v 0))) [] [1] [1] rfl [_] []) (item_S (l := [102, 110, 114, 116, 118]) rfl h2) (by decide) ?_
  walk_at "T"
  refine Bin.add_str (by show (1 : Nat) + 1 ≤ _; decide) ?_
  rw [h3] at h
  walk_at "E"; exact h
 ·have e : Txt.find (Str.ofString "\x0c\n\r\t\x0b") (S [ch]) = -1 := find_none (l := [12, 10, 13, 9, 11]) k
  rw [e]
  refine ite_df (by exact fg (.inle (.c 0) (.g (.c 1))) [] [1] [] rfl [] []) ?_
  walk_at "T"
  have he : escN ch deep = if ([93, 91, 36, 59, 32, 92, 34].contains ch || (deep && (ch == 123 || ch == 125))) = true then [92, ch] else [ch] := by
   simp only [List.mem_cons, List.not_mem_nil, or_false, not_or] at k
   refine o04 k fun k1 k2 k3 k4 k5 => ?_
   try clear k
   unfold escN
   rw [if_neg k1, if_neg k2, if_neg k3, if_neg k4, if_neg k5]
  rw [he] at h
  refine ite_in [93, 91, 36, 59, 32, 92, 34] rfl (ite_split (fun z => ?_) fun z => ?_) <;> walk_at "T"
  ·refine Bin.add_str (by show (1 : Nat) + 1 ≤ _; decide) ?_
   rw [z] at h
   walk_at "E"; exact h
  ·rw [z] at h
   cases deep with
   | false =>
    walk_at "T"
    walk_at "E"; exact h
   | true =>
    walk_at "T"
    refine ite_in2 (a := 123) (b := 125) rfl (fun q => ?_) (fun q => ?_) <;> walk_at "T"
    ·refine Bin.add_str (by show (1 : Nat) + 1 ≤ _; decide) ?_
     rw [if_pos (by simpa using q)] at h
     walk_at "E"; exact h
    ·rw [if_neg (by simpa using q)] at h
     walk_at "E"; exact h
end
end
section
inductive Mode where
 | brace
 | escape
 | mask
 | none
 deriving DecidableEq
noncomputable def Mode.str : Mode → Str
 | .brace => "brace"
 | .escape => "escape"
 | .mask => "mask"
 | .none => "none"
noncomputable def modeEnd (h b wb we : Bool) (d : Nat) : Mode := if d > 0 then .escape else if b then (if we && !wb then .mask else .brace) else if h then .brace else .none
noncomputable def modeGo (h : Bool) : Bool → Bool → Bool → Nat → List Nat → Mode
 | b, wb, we, d, [] => modeEnd h b wb we d
 | b, wb, we, d, ch :: l => if ch = 123 then modeGo h b wb we (d + 1) l else if ch = 125 then (if d = 0 then .escape else modeGo h b wb we (d - 1) l)
  else if ch = 93 ∨ ch = 34 then modeGo h true wb true d l
  else if ch = 92 then (match l with
   | [] => .escape
   | s :: l' => if s = 10 then .escape else if s = 123 ∨ s = 125 ∨ s = 92 then modeGo h true true we d l' else modeGo h true true we d (s :: l'))
  else if ch = 91 ∨ ch = 36 ∨ ch = 59 ∨ blank ch = true then modeGo h true true we d l else modeGo h b wb we d l
theorem modeGo_nil {h b wb we : Bool} {d : Nat} : modeGo h b wb we d [] = modeEnd h b wb we d := by rw [modeGo.eq_def]
theorem modeGo_123 {h b wb we : Bool} {d : Nat} {l : List Nat} : modeGo h b wb we d (123 :: l) = modeGo h b wb we (d + 1) l := by
 rw [modeGo.eq_def]; dsimp only; rw [if_pos rfl]
theorem modeGo_125 {h b wb we : Bool} {d : Nat} {l : List Nat} : modeGo h b wb we d (125 :: l) = if d = 0 then .escape else modeGo h b wb we (d - 1) l := by
 rw [modeGo.eq_def]; dsimp only; rw [if_neg (by decide), if_pos rfl]
theorem modeGo_we {h b wb we : Bool} {d ch : Nat} {l : List Nat} (hc : ch = 93 ∨ ch = 34) : modeGo h b wb we d (ch :: l) = modeGo h true wb true d l := by
 rw [modeGo.eq_def]; dsimp only; rw [if_neg (fun z => absurd hc (by rw [z]; decide)), if_neg (fun z => absurd hc (by rw [z]; decide)), if_pos hc]
theorem modeGo_92n {h b wb we : Bool} {d : Nat} : modeGo h b wb we d [92] = .escape := by
 rw [modeGo.eq_def]; dsimp only; rw [if_neg (by decide), if_neg (by decide), if_neg (by decide), if_pos rfl]
theorem modeGo_92 {h b wb we : Bool} {d s : Nat} {l : List Nat} : modeGo h b wb we d (92 :: s :: l) = if s = 10 then .escape else if s = 123 ∨ s = 125 ∨ s = 92 then modeGo h true true we d l else modeGo h true true we d (s :: l) := by
 rw [modeGo.eq_def]; dsimp only; rw [if_neg (by decide), if_neg (by decide), if_neg (by decide), if_pos rfl]
theorem modeGo_wb {h b wb we : Bool} {d ch : Nat} {l : List Nat} (h1 : ¬ ch = 92) (h2 : ¬ ch = 123) (h3 : ¬ ch = 125) (h4 : ¬ (ch = 93 ∨ ch = 34)) (hc : ch = 91 ∨ ch = 36 ∨ ch = 59 ∨ blank ch = true) : modeGo h b wb we d (ch :: l) = modeGo h true true we d l := by
 rw [modeGo.eq_def]; dsimp only; rw [if_neg h2, if_neg h3, if_neg h4, if_neg h1, if_pos hc]
theorem modeGo_ch {h b wb we : Bool} {d ch : Nat} {l : List Nat} (h1 : ¬ ch = 92) (h2 : ¬ ch = 123) (h3 : ¬ ch = 125) (h4 : ¬ (ch = 93 ∨ ch = 34)) (hc : ¬ (ch = 91 ∨ ch = 36 ∨ ch = 59 ∨ blank ch = true)) : modeGo h b wb we d (ch :: l) = modeGo h b wb we d l := by
 rw [modeGo.eq_def]; dsimp only; rw [if_neg h2, if_neg h3, if_neg h4, if_neg h1, if_neg hc]
noncomputable def modeN (hash : Bool) (l : List Nat) : Mode := match l with
 | [] => .brace
 | ch :: _ => modeGo (hash && ch == 35) (ch == 123 || ch == 34) ((ch == 123 || ch == 34) || (hash && ch == 35)) false 0 l
theorem beq_sym (a b : Nat) : (a == b) = (b == a) := by
 rw [Bool.eq_iff_iff, beq_iff_eq, beq_iff_eq]; exact ⟨Eq.symm, Eq.symm⟩
section
variable {c : Cx} {st : St} {X : Flds → List (Option AV) → Prop} {Q : AV → St → Prop}
theorem in2_val {ch a b : Nat} {ps : List PyData} (e : ps = chs [a, b]) : ps.any (eqStrD ⟨#[ch]⟩) = (ch == a || ch == b) := by
 subst e
 show (((⟨#[a]⟩ : Str) == ⟨#[ch]⟩) || (((⟨#[b]⟩ : Str) == ⟨#[ch]⟩) || false)) = _
 rw [one_eq, one_eq, Bool.or_false]
theorem mode_of_T {l : List Nat} {hash : Bool} (hl : l.length ≤ 100000) (hhd : c.hd = false) (hr : 2 ≤ c.room) (h : Q (.d (.str (modeN hash l).str)) st) : TC c st (.ref 150) [.d (.str (S l)), .d (.bool hash)] Q X := by
 refine enter_mode_of [] st.mu rfl hhd (rm0 hr rfl) fun o ho' hF => ?_
 with_reducible refine' absN ?e fun K0 hK0 => ?_
 case e => exact rfl
 have hls : (S l).length ≤ 1000000 := by rw [len_S]; exact fg (.le (.v 0) (.c 1000000)) [.le (.v 0) (.c 100000)] [1,1] [] rfl [_] [] hl
 walk_at "V"
 rw [S_nil]
 refine ite_d (fun q => ?_) fun q => ?_
 ·walk_at "T"
  subst q
  walk_at "E"; exact h
 obtain ⟨c0, l0, rfl⟩ : ∃ c0 l0, l = c0 :: l0 := by cases l with | nil => exact absurd rfl q | cons a b => exact i20 a b rfl
 walk_at "V"
 with_reducible refine TL_c ?_
 walk_at "V"
 refine Item.str (ch := c0) (by decide) (by simp) hls ?_
 walk_at "V"
 with_reducible refine TL_c ?_
 walk_at "V"
 have e1 : List.any [PyData.str (Str.ofString "{"), .str (Str.ofString "\"")] (eqStrD ⟨#[c0]⟩) = (c0 == 123 || c0 == 34) := in2_val (a := 123) (b := 34) rfl
 rw [e1]
 have hm : modeN hash (c0 :: l0) = modeGo (hash && c0 == 35) (c0 == 123 || c0 == 34) ((c0 == 123 || c0 == 34) || (hash && c0 == 35)) false 0 (c0 :: l0) := rfl
 rw [hm] at h
 generalize (c0 == 123 || c0 == 34) = b0 at *
 with_reducible refine TL_c (TS_sq (fun st1 => st1 = ⟨[some (.d (.str (S (c0 :: l0)))), some (.d (.bool hash)), some (.d (.str ⟨#[c0]⟩)), some (.d (.bool b0)), some (.d (.bool (hash && c0 == 35))), none, none, none, none, none], []⟩) (fun K2 hK2 => ?_) fun st1 e2 => ?_)
 ·walk_at "V"
  cases hash with
  | false => walk_at "V"; walk_at "K"; exact Seq.next rfl
  | true =>
   walk_at "V"
   rw [show ((⟨#[c0]⟩ : Str) == ("#" : Str)) = (35 == c0) from one_eq c0 35, beq_sym 35 c0]
   walk_at "K"; exact Seq.next rfl
 subst e2
 generalize (hash && c0 == 35) = h0 at *
 with_reducible refine TL_c (TS_sq (fun st1 => st1 = ⟨[some (.d (.str (S (c0 :: l0)))), some (.d (.bool hash)), some (.d (.str ⟨#[c0]⟩)), some (.d (.bool b0)), some (.d (.bool h0)), some (.d (.bool (b0 || h0))), none, none, none, none], []⟩) (fun K3 hK3 => ?_) fun st1 e2 => ?_)
 ·walk_at "V"
  cases b0 <;> walk_at "V" <;> (walk_at "K"; exact Seq.next rfl)
 subst e2
 generalize hwb : (b0 || h0) = w0 at *
 generalize hl' : c0 :: l0 = l at *
 with_reducible refine TL_c ?_
 walk_at "V"
 with_reducible refine TL_c ?_
 walk_at "V"
 with_reducible refine TL_c (TS_sq (fun st1 => ∃ (b wb we : Bool) (d : Nat) (a' ca : Option AV), (modeEnd h0 b wb we d = modeGo h0 b0 w0 false 0 l) ∧ st1 = ⟨[some (.d (.str (S l))), some (.d (.bool hash)), some (.d (.str ⟨#[c0]⟩)), some (.d (.bool b)), some (.d (.bool h0)), some (.d (.bool wb)), some (.d (.bool we)), some (.d (.int (d : Nat))), a', ca], []⟩) (fun K4 hK4 => ?_) fun st1 => exI fun b => exI fun wb => exI fun we => exI fun d => exI fun a' => exI fun ca => aiI fun e2 => fun e3 => ?_)
 ·refine TS_wh (S := fun σ : Bool × Bool × Bool × Int × Int => ⟨[some (.d (.str (S l))), some (.d (.bool hash)), some (.d (.str ⟨#[c0]⟩)), some (.d (.bool σ.1)), some (.d (.bool h0)), some (.d (.bool σ.2.1)), some (.d (.bool σ.2.2.1)), some (.d (.int σ.2.2.2.1)), some (.d (.int σ.2.2.2.2)), none], []⟩)
   (I := fun σ => ∃ d k : Nat, σ.2.2.2.1 = d ∧ σ.2.2.2.2 = k ∧ k ≤ l.length ∧ modeGo h0 σ.1 σ.2.1 σ.2.2.1 d (l.drop k) = modeGo h0 b0 w0 false 0 l) (m := fun σ => l.length - σ.2.2.2.2.toNat) (a0 := (b0, w0, false, 0, 0)) hF (by walk_at "LE")
   (i23 0 0 rfl rfl (Nat.zero_le _) rfl) fun ⟨b, wb, we, i, j⟩ K1 hK1 => exI fun d => exI fun k => aiI fun hk1 => aiI fun hk2 => aiI fun hk3 => fun hk4 => ?_
  dsimp only at hk1 hk2 hk4 ⊢
  subst hk1 hk2
  walk_at "T"
  refine TC_len_str hls ?_
  rw [len_S]
  walk_at "T"
  refine ite_d (fun q => ?_) fun q => ?_ <;> walk_at "T"
  ·refine o10 (get_lt (l := l) (f := k) (by exact fg (.lt (.v 0) (.v 1)) [.ilt (.n (.v 0)) (.n (.v 1))] [1,1] [] rfl [_,_] [] q)) fun ch hch => ?_
   have hd := drop_of_get hch
   rw [hd] at hk4
   refine Item.str (by exact fg (.ile (.c 0) (.n (.v 0))) [] [1] [1] rfl [_] []) (item_S rfl hch) hls ?_
   walk_at "T"
   rw [show ((⟨#[ch]⟩ : Str) == ("{" : Str)) = (123 == ch) from one_eq ch 123]
   refine ite_split (fun z3 => ?_) fun z3 => ?_ <;> walk_at "T"
   ·obtain rfl : 123 = ch := by simpa using z3
    refine i12 (b, wb, we, (d : Int) + 1, (k : Int) + 1) (by walk_at "LE") (i23 (d + 1) (k + 1) rfl rfl (by exact fg (.le (.a (.v 0) (.c 1)) (.v 1)) [.ilt (.n (.v 0)) (.n (.v 1))] [1,1] [] rfl [_,_] [] q) ?_) (tn1 q)
    rw [modeGo_123] at hk4
    exact hk4
   have n2 : ¬ ch = 123 := fun e => by subst e; simp at z3
   rw [show ((⟨#[ch]⟩ : Str) == ("}" : Str)) = (125 == ch) from one_eq ch 125]
   refine ite_split (fun z4 => ?_) fun z4 => ?_ <;> walk_at "T"
   ·obtain rfl : 125 = ch := by simpa using z4
    rw [modeGo_125] at hk4
    refine ite_d (fun z5 => ?_) fun z5 => ?_ <;> walk_at "T"
    ·rw [if_pos (by exact fe (.v 0) (.c 0) [.ilt (.s (.n (.v 0)) (.c 1)) (.c 0)] [1,0] [1] [1,1] [] rfl [_] [] z5)] at hk4
     rw [← hk4] at h
     walk_at "E"; exact h
    ·rw [if_neg (by exact fun z => z5 (by rw [z]; decide))] at hk4
     exact i12 (b, wb, we, (d : Int) - 1, (k : Int) + 1) (by walk_at "LE") (i23 (d - 1) (k + 1) (cpz z5) rfl (by exact fg (.le (.a (.v 0) (.c 1)) (.v 1)) [.ilt (.n (.v 0)) (.n (.v 1))] [1,1] [] rfl [_,_] [] q) hk4) (tn1 q)
   have n3 : ¬ ch = 125 := fun e => by subst e; simp at z4
   refine ite_in2 (a := 93) (b := 34) rfl (fun z5 => ?_) (fun z5 => ?_) <;> walk_at "T"
   ·rw [modeGo_we z5] at hk4
    exact i12 (true, wb, true, (d : Int), (k : Int) + 1) (by walk_at "LE") (i23 d (k + 1) rfl rfl (by exact fg (.le (.a (.v 0) (.c 1)) (.v 1)) [.ilt (.n (.v 0)) (.n (.v 1))] [1,1] [] rfl [_,_] [] q) hk4) (tn1 q)
   rw [show List.any [PyData.str (Str.ofString "["), .str (Str.ofString "$"), .str (Str.ofString ";"), .str (Str.ofString "\\")] (eqStrD ⟨#[ch]⟩) = [91, 36, 59, 92].contains ch from any_chars ch [91, 36, 59, 92]]
   by_cases n4 : ch = 92
   ·subst n4
    refine ite_t (by decide) ?_
    walk_at "T"
    refine ite_t (by decide) ?_
    walk_at "T"
    refine TC_len_str hls ?_
    rw [len_S]
    walk_at "T"
    refine ite_eq (fun z6 => ?_) fun z6 => ?_ <;> walk_at "T"
    ·rw [List.drop_eq_nil_iff.mpr (by exact fg (.le (.v 1) (.a (.v 0) (.c 1))) [.iqe (.a (.n (.v 0)) (.c 1)) (.n (.v 1))] [1,1] [] rfl [_,_] [] z6), modeGo_92n] at hk4
     rw [← hk4] at h
     walk_at "E"; exact h
    ·refine o10 (get_lt (l := l) (f := k + 1) (Nat.lt_of_le_of_ne (Int.ofNat_lt.mp q) (fun z => z6 (by rw [← z]; rfl)))) fun s hs => ?_
     rw [drop_of_get hs, modeGo_92] at hk4
     refine Item.str (by exact fg (.ile (.c 0) (.a (.n (.v 0)) (.c 1))) [] [1] [1] rfl [_] []) (item_S (k := k + 1) rfl hs) hls ?_
     walk_at "T"
     rw [show ((⟨#[s]⟩ : Str) == ("\n" : Str)) = (10 == s) from one_eq s 10]
     refine ite_split (fun z7 => ?_) fun z7 => ?_ <;> walk_at "T"
     ·obtain rfl : 10 = s := by simpa using z7
      rw [if_pos rfl] at hk4
      rw [← hk4] at h
      walk_at "E"; exact h
     ·rw [if_neg (fun e => by subst e; simp at z7)] at hk4
      refine Item.str (by exact fg (.ile (.c 0) (.a (.n (.v 0)) (.c 1))) [] [1] [1] rfl [_] []) (item_S (k := k + 1) rfl hs) hls ?_
      walk_at "T"
      refine ite_in [123, 125, 92] rfl (ite_split (fun z8 => ?_) fun z8 => ?_) <;> walk_at "T"
      ·rw [if_pos (by simpa using z8)] at hk4
       refine i12 (true, true, we, (d : Int), (k : Int) + 1 + 1) (by walk_at "LE") (i23 d (k + 2) rfl rfl (by have := (List.getElem?_eq_some_iff.mp hs).1; exact fg (.le (.a (.v 0) (.c 2)) (.v 1)) [.lt (.a (.v 0) (.c 1)) (.v 1)] [1,1] [] rfl [_,_] [] this) hk4) (tn11 q)
      ·rw [if_neg (by simpa using z8)] at hk4
       refine i12 (true, true, we, (d : Int), (k : Int) + 1) (by walk_at "LE") (i23 d (k + 1) rfl rfl (by exact fg (.le (.a (.v 0) (.c 1)) (.v 1)) [.ilt (.n (.v 0)) (.n (.v 1))] [1,1] [] rfl [_,_] [] q) ?_) (tn1 q)
       rw [drop_of_get hs]
       exact hk4
   ·by_cases n5 : [91, 36, 59, 92].contains ch = true
    ·refine ite_t n5 ?_
     walk_at "T"
     rw [show ((⟨#[ch]⟩ : Str) == ("\\" : Str)) = (92 == ch) from one_eq ch 92]
     refine ite_f (by rw [beq_eq_false_iff_ne]; exact fun e => n4 e.symm) ?_
     walk_at "T"
     rw [modeGo_wb n4 n2 n3 z5 (by simp at n5; exact n5.imp_right (·.imp_right (·.imp_right fun z => absurd z n4)))] at hk4
     exact i12 (true, true, we, (d : Int), (k : Int) + 1) (by walk_at "LE") (i23 d (k + 1) rfl rfl (by exact fg (.le (.a (.v 0) (.c 1)) (.v 1)) [.ilt (.n (.v 0)) (.n (.v 1))] [1,1] [] rfl [_,_] [] q) hk4) (tn1 q)
    ·refine ite_f (by simpa using n5) ?_
     walk_at "T"
     refine is_blank_T rfl (by walk_at "RM") ?_
     walk_at "T"
     refine ite_split (fun z6 => ?_) fun z6 => ?_ <;> walk_at "T"
     ·rw [show ((⟨#[ch]⟩ : Str) == ("\\" : Str)) = (92 == ch) from one_eq ch 92]
      refine ite_f (by rw [beq_eq_false_iff_ne]; exact fun e => n4 e.symm) ?_
      walk_at "T"
      rw [modeGo_wb n4 n2 n3 z5 (.inr (.inr (.inr z6)))] at hk4
      exact i12 (true, true, we, (d : Int), (k : Int) + 1) (by walk_at "LE") (i23 d (k + 1) rfl rfl (by exact fg (.le (.a (.v 0) (.c 1)) (.v 1)) [.ilt (.n (.v 0)) (.n (.v 1))] [1,1] [] rfl [_,_] [] q) hk4) (tn1 q)
     ·rw [modeGo_ch n4 n2 n3 z5 (by rw [z6]; simp at n5 ⊢; exact i02 n5.1 n5.2.1 n5.2.2.1)] at hk4
      exact i12 (b, wb, we, (d : Int), (k : Int) + 1) (by walk_at "LE") (i23 d (k + 1) rfl rfl (by exact fg (.le (.a (.v 0) (.c 1)) (.v 1)) [.ilt (.n (.v 0)) (.n (.v 1))] [1,1] [] rfl [_,_] [] q) hk4) (tn1 q)
  ·walk_at "K"; refine Seq.next (i61 b wb we d _ none ?_ rfl)
   rw [List.drop_eq_nil_iff.mpr (by exact fg (.le (.v 1) (.v 0)) [.inlt (.n (.v 0)) (.n (.v 1))] [1,1] [] rfl [_,_] [] q), modeGo_nil] at hk4
   exact hk4
 subst e3
 rw [← e2] at h
 unfold modeEnd at h
 walk_at "T"
 refine ite_d (fun q => ?_) fun q => ?_ <;> walk_at "T"
 ·rw [if_pos (by exact fg (.lt (.c 0) (.v 0)) [.ilt (.c 0) (.n (.v 0))] [1,1] [] rfl [_] [] q)] at h
  walk_at "E"; exact h
 rw [if_neg (by exact fg (.nlt (.c 0) (.v 0)) [.inlt (.c 0) (.n (.v 0))] [1,1] [] rfl [_] [] q)] at h
 cases b with
 | true =>
  walk_at "T"
  cases we with
  | false => walk_at "T"; exact h
  | true =>
   walk_at "T"
   cases wb with
   | true => refine ite_f rfl ?_; walk_at "T"; exact h
   | false => refine ite_t rfl ?_; walk_at "T"; exact h
 | false =>
  walk_at "T"
  cases h0 <;> walk_at "T" <;> exact h
end
end
section
noncomputable def quoteN (hash : Bool) (l : List Nat) : List Nat := match modeN hash l with
 | .none => l
 | .brace => 123 :: l ++ [125]
 | .mask => (if hash && l.head? == some 35 then [92] else []) ++ l.flatMap (escN · false)
 | .escape => (if hash && l.head? == some 35 then [92] else []) ++ l.flatMap (escN · true)
noncomputable def quoteAll : Bool → List (List Nat) → List (List Nat)
 | _, [] => []
 | b, x :: xs => quoteN b x :: quoteAll false xs
noncomputable def joinN (items : List (List Nat)) : List Nat := intercal [32] (quoteAll true items)
theorem escN_len {ch : Nat} {b : Bool} : (escN ch b).length ≤ 2 := by
 unfold escN
 repeat' split
 all_goals simp
theorem flat_len {l : List Nat} {b : Bool} : (l.flatMap (escN · b)).length ≤ 2 * l.length := by
 induction l with
 | nil => simp
 | cons a l ih =>
  rw [List.flatMap_cons, List.length_append, List.length_cons]
  have := @escN_len a b
  exact fg (.le (.a (.v 2) (.v 0)) (.m 2 (.a (.v 1) (.c 1)))) [.le (.v 0) (.m 2 (.v 1)),.le (.v 2) (.c 2)] [1,1,1] [] rfl [_,_,_] [] ih this
theorem quoteN_len {h : Bool} {l : List Nat} : (quoteN h l).length ≤ 2 * l.length + 2 := by
 unfold quoteN
 split
 ·exact fg (.le (.v 0) (.a (.m 2 (.v 0)) (.c 2))) [] [1] [1] rfl [_] []
 ·simp; exact fg (.le (.v 0) (.m 2 (.v 0))) [] [1] [1] rfl [_] []
 ·rw [List.length_append]
  have := @flat_len l false
  split
  ·simp only [List.length_cons, List.length_nil]; exact fg (.le (.a (.a (.c 0) (.c 1)) (.v 0)) (.a (.m 2 (.v 1)) (.c 2))) [.le (.v 0) (.m 2 (.v 1))] [1,1] [] rfl [_,_] [] this
  ·simp only [List.length_nil]; exact fg (.le (.a (.c 0) (.v 0)) (.a (.m 2 (.v 1)) (.c 2))) [.le (.v 0) (.m 2 (.v 1))] [1,1] [] rfl [_,_] [] this
 ·rw [List.length_append]
  have := @flat_len l true
  split
  ·simp only [List.length_cons, List.length_nil]; exact fg (.le (.a (.a (.c 0) (.c 1)) (.v 0)) (.a (.m 2 (.v 1)) (.c 2))) [.le (.v 0) (.m 2 (.v 1))] [1,1] [] rfl [_,_] [] this
  ·simp only [List.length_nil]; exact fg (.le (.a (.c 0) (.v 0)) (.a (.m 2 (.v 1)) (.c 2))) [.le (.v 0) (.m 2 (.v 1))] [1,1] [] rfl [_,_] [] this
theorem intercal_nil : ∀ ys : List (List Nat), intercal [] ys = ys.flatten
 | [] => rfl
 | [x] => by simp [intercal]
 | x :: y :: r => by
  show x ++ [] ++ intercal [] (y :: r) = _
  rw [intercal_nil (y :: r)]; simp
theorem sum_map_S (ys : List (List Nat)) : ((ys.map S).map (·.length)).sum = (ys.map List.length).sum := by
 rw [List.map_map]
 congr 1
section
variable {c : Cx} {st : St} {X : Flds → List (Option AV) → Prop} {Q : AV → St → Prop}
theorem quote_T {l : List Nat} {hash : Bool} (hl : l.length ≤ 100000) (hhd : c.hd = false) (hr : 3 ≤ c.room) (h : Q (.d (.str (S (quoteN hash l)))) st) : TC c st (.ref 165) [.d (.str (S l)), .d (.bool hash)] Q X := by
 refine enter_quote (a0 := .d (.str (S l))) (a1 := .d (.bool hash)) [] st.mu rfl hhd (by exact fg (.le (.c 1) (.v 0)) [.le (.c 3) (.v 0)] [1,1] [] rfl [_] [] hr) (fun s vs r hv => ?_) fun o ho' hF => ?_
 ·refine i11 vs ?_ hv
  refine o21 (RVs.two hv) fun v w zz1 _ => ?_
  subst zz1
  exact kp_binds (K_here r) (fun S => by kernel_rfl!)
 have hls : (S l).length ≤ 1000000 := by rw [len_S]; exact fg (.le (.v 0) (.c 1000000)) [.le (.v 0) (.c 100000)] [1,1] [] rfl [_] [] hl
 refine TL_c ?_
 walk_at "T"
 refine mode_of_T hl rfl (by walk_at "RM") ?_
 walk_at "T"
 have go : ∀ deep : Bool, l ≠ [] → (quoteN hash l = (if hash && l.head? == some 35 then [92] else []) ++ l.flatMap (escN · deep)) → ∀ md : Mode, ((md.str == ("escape" : Str)) = deep) → TL (mkCx ["element", "is_hash", "mode", "out", "c"] [("mode_of", .ref 150), ("escaped", .ref 157)] (c.room - 1) o) ⟨[some (.d (.str (S l))), some (.d (.bool hash)), some (.d (.str md.str)), none, none], []⟩ ((fdOf 22).2.1.drop 3) (RetQ fun a st' => Q a { loc := st.loc, mu := [] ++ st'.mu ++ st.mu }) (fun fs _ => X fs st.loc) := by
  intro deep hne hqd md hmd
  refine TL_c ?_
  walk_at "T"
  refine TE_lmu ?_
  walk_at "T"
  intro a
  walk_at "V"
  with_reducible refine TL_c ?_
  have main : ∀ pre : List (List Nat), pre.length ≤ 1 → pre.flatten ++ l.flatMap (escN · deep) = quoteN hash l → TL (mkCx ["element", "is_hash", "mode", "out", "c"] [("mode_of", .ref 150), ("escaped", .ref 157)] (c.room - 1) o) ⟨[some (.d (.str (S l))), some (.d (.bool hash)), some (.d (.str md.str)), some (.v (.ref a)), none], [(a, .list (txs pre))]⟩ ((fdOf 22).2.1.drop 5) (RetQ fun a st' => Q a { loc := st.loc, mu := [] ++ st'.mu ++ st.mu }) (fun fs _ => X fs st.loc) := by
   intro pre hpre hpq
   refine TL_c (TS_sq (fun st1 => ∃ outs ca, st1 = ⟨[some (.d (.str (S l))), some (.d (.bool hash)), some (.d (.str md.str)), some (.v (.ref a)), ca], [(a, .list (txs outs))]⟩ ∧ outs.flatten = quoteN hash l ∧ outs.length ≤ l.length + 1) (fun K2 hK2 => ?_) fun st1 => exI fun outs => exI fun ca => aiI fun e1 => aiI fun e2 => fun e3 => ?_)
   ·refine TS_fr (S := fun σ : List (List Nat) × Option AV => ⟨[some (.d (.str (S l))), some (.d (.bool hash)), some (.d (.str md.str)), some (.v (.ref a)), σ.2], [(a, .list (txs σ.1))]⟩)
     (I := fun xs σ => ∃ r, xs = chs r ∧ σ.1.flatten ++ r.flatMap (escN · deep) = quoteN hash l ∧ σ.1.length + r.length ≤ l.length + 1) hF ?_ (by intro _; rfl)
    walk_at "T"
    refine i24 _ (pre, none) Iters.str (by walk_at "LE") (i12 l rfl hpq (by (try dsimp only); exact fg (.le (.a (.v 0) (.v 1)) (.a (.v 1) (.c 1))) [.le (.v 0) (.c 1)] [1,1] [] rfl [_,_] [] hpre)) (fun o' ho'' hF' x xs σ hI K1 hK1 => ?_) (fun σ hI => ?_)
    ·refine o12 hI fun r hx h1 h2 => ?_
     try clear hI
     cases r with
     | nil => cases hx
     | cons ch r =>
      obtain ⟨rfl, rfl⟩ : x = .str (S [ch]) ∧ xs = chs r := by
       have := List.cons.inj hx; exact ⟨this.1, this.2⟩
      walk_at "T"
      rw [hmd]
      walk_at "T"
      refine escaped_T rfl (by walk_at "RM") ?_
      walk_at "T"
      refine TC_app (by walk_at "MS") (by rw [txs_len]; simp only [List.length_cons] at h2; exact fg (.lt (.v 1) (.c 1000000)) [.le (.v 0) (.c 100000),.le (.a (.v 1) (.a (.v 2) (.c 1))) (.a (.v 0) (.c 1))] [1,1,1] [0,0,1] rfl [_,_,_] [] hl h2) ?_
      rw [txs_snoc]
      walk_at "T"
      refine i11 (σ.1 ++ [escN ch deep], some (.d (.str (S [ch])))) (by walk_at "LE") (i12 r rfl ?_ ?_)
      ·rw [← h1]; simp
      ·simp only [List.length_append, List.length_cons, List.length_nil] at h2 ⊢; exact fg (.le (.a (.a (.v 0) (.a (.c 0) (.c 1))) (.v 1)) (.a (.v 2) (.c 1))) [.le (.a (.v 0) (.a (.v 1) (.c 1))) (.a (.v 2) (.c 1))] [1,1] [] rfl [_,_,_] [] h2
    ·refine o12 hI fun r hx h1 h2 => ?_
     try clear hI
     cases r with
     | nil => walk_at "K"; exact Seq.next (i22 σ.1 σ.2 rfl (by simpa using h1) (by simpa using h2))
     | cons ch r => cases hx
   ·subst e1
    walk_at "T"
    refine TC_join_mu (x := S []) (ys := outs.map S) (by walk_at "MO") (txs_map _) ?_ ?_
    ·rw [sum_map_S, List.length_map]
     have := @quoteN_len hash l
     rw [← e2, List.length_flatten] at this
     show _ + outs.length * 0 ≤ _
     omega
    ·rw [txt_join, intercal_nil, e2]
     exact h
  cases hash with
  | false =>
   walk_at "V"
   exact main [] (by decide) hqd.symm
  | true =>
   walk_at "T"
   refine o20 (List.exists_cons_of_ne_nil hne) fun b t zz1 => ?_
   subst zz1
   refine Item.str (ch := b) (by decide) (item_S (k := 0) rfl rfl) hls ?_
   walk_at "V"
   rw [show ((⟨#[b]⟩ : Str) == ("#" : Str)) = (35 == b) from one_eq b 35]
   refine ite_split (fun z => ?_) fun z => ?_ <;> walk_at "V"
   ·obtain rfl : 35 = b := by simpa using z
    with_reducible refine TL_c ?_
    walk_at "V"
    refine TC_app (by walk_at "MS") (by decide) ?_
    walk_at "V"
    exact main [[92]] (by decide) (by rw [hqd]; rfl)
   ·refine main [] (by decide) ?_
    rw [hqd]
    have : ¬ b = 35 := fun e => by subst e; simp at z
    simp [this]
 have hq : quoteN hash l = match modeN hash l with
  | .none => l
  | .brace => 123 :: l ++ [125]
  | .mask => (if hash && l.head? == some 35 then [92] else []) ++ l.flatMap (escN · false)
  | .escape => (if hash && l.head? == some 35 then [92] else []) ++ l.flatMap (escN · true) := rfl
 have hne : modeN hash l = .mask ∨ modeN hash l = .escape → l ≠ [] := fun q e => by subst e; rcases q with q | q <;> cases q
 cases hmd : modeN hash l with
 | none =>
  rw [hmd] at hq
  refine ite_t (by decide) ?_
  walk_at "T"
  rw [hq] at h
  exact h
 | brace =>
  rw [hmd] at hq
  refine ite_f (by decide) ?_
  walk_at "T"
  refine ite_t (by decide) ?_
  walk_at "T"
  refine Bin.add_str (by show (1 : Nat) + (S l).length ≤ _; rw [len_S]; exact fg (.le (.a (.c 1) (.v 0)) (.c 1000000)) [.le (.v 0) (.c 100000)] [1,1] [] rfl [_] [] hl) ?_
  walk_at "T"
  rw [show (Str.ofString "{") = S [123] from rfl, S_append]
  refine Bin.add_str (by rw [len_S]; show _ + (1 : Nat) ≤ _; simp; exact fg (.le (.v 0) (.c 999998)) [.le (.v 0) (.c 100000)] [1,1] [] rfl [_] [] hl) ?_
  walk_at "T"
  rw [show (Str.ofString "}") = S [125] from rfl, S_append]
  rw [hq] at h
  exact h
 | mask =>
  rw [hmd] at hq
  refine ite_f (by decide) ?_
  walk_at "V"
  with_reducible refine TL_c ?_
  walk_at "V"
  refine ite_f (by decide) ?_
  walk_at "V"
  exact go false (hne (.inl hmd)) hq .mask (by decide)
 | escape =>
  rw [hmd] at hq
  refine ite_f (by decide) ?_
  walk_at "V"
  with_reducible refine TL_c ?_
  walk_at "V"
  refine ite_f (by decide) ?_
  walk_at "V"
  exact go true (hne (.inr hmd)) hq .escape (by decide)
end
end
section
theorem quoteAll_len : ∀ (b : Bool) (l : List (List Nat)), (quoteAll b l).length = l.length
 | _, [] => rfl
 | b, x :: xs => by simp [quoteAll, quoteAll_len false xs]
theorem quoteAll_sum : ∀ (b : Bool) (l : List (List Nat)), ((quoteAll b l).map List.length).sum ≤ 2 * (l.map List.length).sum + 2 * l.length
 | _, [] => by simp [quoteAll]
 | b, x :: xs => by
  have := quoteAll_sum false xs
  have := @quoteN_len b x
  simp only [quoteAll, List.map_cons, List.sum_cons, List.length_cons]
  exact Nat.le_trans (Nat.add_le_add (@quoteN_len b x) (quoteAll_sum false xs)) (Nat.le_of_eq (by rw [Nat.mul_add, Nat.mul_add]; exact fe (.a (.a (.v 0) (.c 2)) (.a (.v 1) (.v 2))) (.a (.a (.v 0) (.v 1)) (.a (.v 2) (.c 2))) [] [1] [] [1] [] rfl [_,_,_] []))
theorem mem_len_sum : ∀ {l : List (List Nat)} {x : List Nat}, x ∈ l → x.length ≤ (l.map List.length).sum
 | y :: l, x, h => by
  rcases List.mem_cons.mp h with rfl | h
  ·simp
  ·have := mem_len_sum h; simp only [List.map_cons, List.sum_cons]; exact fg (.le (.v 0) (.a (.v 2) (.v 1))) [.le (.v 0) (.v 1)] [1,1] [0,0,1] rfl [_,_,_] [] this
theorem end_mu {Q : AV → St → Prop} {a : AV} {loc : List (Option AV)} {mu : List (Addr × AO)} (h : Q a ⟨loc, mu⟩) : Q a ⟨loc, [] ++ mu ++ []⟩ := by simpa using h
theorem S_eq_nil {i : List Nat} (h : S i = ("" : Str)) : i = [] := by
 have : (S i).length = 0 := by rw [h]; rfl
 rw [len_S] at this
 exact List.length_eq_zero_iff.mp this
section
variable {c : Cx} {st : St} {X : Flds → List (Option AV) → Prop} {Q : AV → St → Prop}
theorem join_list_T {items : List (List Nat)} {a : AV} (ha : a = .d (.list (txs items)) ∨ a = .d (.tuple (txs items))) (hsum : (items.map List.length).sum + items.length ≤ 100000) (hhd : c.hd = false) (hr : 4 ≤ c.room) (h : Q (.d (.str (S (joinN items)))) st) : TC c st (.ref 172) [a] Q X := by
 refine enter_join_list [] st.mu rfl hhd (rm0 hr rfl) fun o ho' hF => ?_
 with_reducible refine' absN ?e fun K0 hK0 => ?_
 case e => exact rfl
 walk_at "T"
 refine TE_lmu ?_
 walk_at "T"
 intro b
 walk_at "V"
 with_reducible refine TL_c (TS_sq (fun st1 => ∃ ca, st1 = ⟨[some a, some (.v (.ref b)), ca], [(b, .list (txs (quoteAll true items)))]⟩) (fun K2 hK2 => ?_) fun st1 => exI fun ca => fun e1 => ?_)
 ·refine TS_fr (S := fun σ : List (List Nat) × Option AV => ⟨[some a, some (.v (.ref b)), σ.2], [(b, .list (txs σ.1))]⟩)
   (I := fun xs σ => ∃ r, xs = txs r ∧ σ.1 ++ quoteAll (σ.1.isEmpty) r = quoteAll true items ∧ σ.1.length + r.length = items.length ∧ ∀ x ∈ r, x.length ≤ 100000) hF ?_ (by intro _; rfl)
  walk_at "T"
  have hit : Iters o.w a (txs items) := by
   rcases ha with rfl | rfl
   ·exact Iters.list
   ·exact Iters.tuple
  refine i24 (txs items) ([], none) hit (by walk_at "LE") (i13 items rfl rfl (by simp) (fun x hx => by have := mem_len_sum hx; exact fg (.le (.v 2) (.c 100000)) [.le (.a (.v 0) (.v 1)) (.c 100000),.le (.v 2) (.v 0)] [1,1,1] [0,1] rfl [_,_,_] [] hsum this)) (fun o' ho'' hF' x xs σ hI K1 hK1 => ?_) (fun σ hI => ?_)
  ·refine o13 hI fun r hx h1 h2 h3 => ?_
   try clear hI
   cases r with
   | nil => cases hx
   | cons y r =>
    obtain ⟨rfl, rfl⟩ : x = .str (S y) ∧ xs = txs r := by
     have := List.cons.inj hx; exact ⟨this.1, this.2⟩
    walk_at "T"
    refine TC_len_mu (by walk_at "MA") ?_
    walk_at "T"
    rw [show ((((txs σ.1).length : Nat) : Int) == 0) = σ.1.isEmpty by rw [txs_len]; cases σ.1 <;> rfl]
    refine quote_T (h3 y (.head _)) rfl (by walk_at "RM") ?_
    walk_at "T"
    refine TC_app (by walk_at "MS") (by rw [txs_len]; simp only [List.length_cons] at h2; exact fg (.lt (.v 2) (.c 1000000)) [.le (.a (.v 0) (.v 1)) (.c 100000),.eq (.a (.v 2) (.a (.v 3) (.c 1))) (.v 1)] [1,1,1] [1,0,0,1] rfl [_,_,_,_] [] hsum h2) ?_
    rw [txs_snoc]
    walk_at "T"
    refine i11 (σ.1 ++ [quoteN σ.1.isEmpty y], some (.d (.str (S y)))) (by walk_at "LE") (i13 r rfl ?_ ?_ (fun z hz => h3 z (.tail _ hz)))
    ·rw [← h1]; simp [quoteAll, show (σ.1 ++ [quoteN σ.1.isEmpty y]).isEmpty = false by cases σ.1 <;> rfl]
    ·simp only [List.length_append, List.length_cons, List.length_nil] at h2 ⊢; exact fe (.a (.a (.v 0) (.a (.c 0) (.c 1))) (.v 1)) (.v 2) [.eq (.a (.v 0) (.a (.v 1) (.c 1))) (.v 2),.qe (.a (.v 0) (.a (.v 1) (.c 1))) (.v 2)] [1,0,1] [] [1,1,0] [] rfl [_,_,_] [] h2 h2
  ·refine o13 hI fun r hx h1 h2 h3 => ?_
   try clear hI
   cases r with
   | nil =>
    walk_at "K"; refine Seq.next ⟨σ.2, ?_⟩
    rw [← h1]; simp [quoteAll]
   | cons ch r => cases hx
 subst e1
 walk_at "T"
 refine TC_join_mu (x := S [32]) (ys := (quoteAll true items).map S) (by walk_at "MO") (txs_map _) ?_ ?_
 ·rw [sum_map_S, List.length_map, quoteAll_len]
  have := quoteAll_sum true items
  show _ + items.length * 1 ≤ _
  omega
 ·rw [txt_join]
  walk_at "E"; exact h
inductive EC : PyData → List Nat → Prop
 | tup {items} : (items.map List.length).sum + items.length ≤ 100000 → EC (.tuple (txs items)) (joinN items)
 | str {l} : EC (.str (S l)) l
theorem code_text_T {p : PyData} {l : List Nat} (hp : EC p l) (hhd : c.hd = false) (hr : 5 ≤ c.room) (h : Q (.d (.str (S l))) st) : TC c st (.ref 179) [.d p] Q X := by
 refine enter_code_text [] st.mu rfl hhd (rm0 hr rfl) fun o ho' hF => ?_
 with_reducible refine' absN ?e fun K0 hK0 => ?_
 case e => exact rfl
 walk_at "T"
 cases hp with
 | tup hs =>
  refine TC_isi_tuple ?_
  walk_at "T"
  refine join_list_T (.inr rfl) hs rfl (by walk_at "RM") ?_
  walk_at "T"
  walk_at "E"; exact h
 | str =>
  refine TC_isi_str ?_
  walk_at "T"
  walk_at "E"; exact h
theorem info_of_T {e dx : Addr} {fs : Flds} {tb : Option (Addr × Value)} {i v : List Nat} (hm : MuAt st.mu e (.inst dx fs tb)) (h1 : look fs "info" = some (.str (S i))) (h2 : look fs "value" = some (.str (S v))) (hhd : c.hd = false) (hr : 1 ≤ c.room) (h : Q (.d (.str (S (if i = [] then v else i)))) st) : TC c st (.ref 186) [.v (.ref e)] Q X := by
 refine enter_info_of st.mu [] (by simp) hhd (rm0 hr rfl) fun o ho' hF => ?_
 with_reducible refine' absN ?e fun K0 hK0 => ?_
 case e => exact rfl
 walk_at "T"
 refine i54 e dx fs tb _ rfl hm pl_info h1 ?_
 walk_at "T"
 refine ite_seq (fun q => ?_) fun q => ?_ <;> walk_at "T"
 ·refine i54 e dx fs tb _ rfl hm pl_value h2 ?_
  walk_at "T"
  rw [if_pos (S_eq_nil q)] at h
  exact end_mu h
 ·refine i54 e dx fs tb _ rfl hm pl_info h1 ?_
  walk_at "T"
  rw [if_neg (fun e => q (by rw [e]; rfl))] at h
  exact end_mu h
end
end
section
noncomputable def nCode : List Nat := [45, 99, 111, 100, 101]
noncomputable def nLevel : List Nat := [45, 108, 101, 118, 101, 108]
noncomputable def nEC : List Nat := [45, 101, 114, 114, 111, 114, 99, 111, 100, 101]
noncomputable def nEI : List Nat := [45, 101, 114, 114, 111, 114, 105, 110, 102, 111]
noncomputable def nNONE : List Nat := [78, 79, 78, 69]
theorem s_Code : (Str.ofString "-code") = S nCode := by kernel_rfl!
theorem s_Level : (Str.ofString "-level") = S nLevel := by kernel_rfl!
theorem s_EC : (Str.ofString "-errorcode") = S nEC := by kernel_rfl!
theorem s_EI : (Str.ofString "-errorinfo") = S nEI := by kernel_rfl!
theorem s_NONE : (Str.ofString "NONE") = S nNONE := by kernel_rfl!
theorem S_inj {a b : List Nat} (h : S a = S b) : a = b := by
 have := congrArg (fun x : Str => x.cps.toList) h
 simpa using this
theorem txs_append (a b : List (List Nat)) : txs a ++ txs b = txs (a ++ b) := by simp [txs]
noncomputable def istr (i : Int) : List Nat := (Str.ofString (toString i)).cps.toList
theorem s_istr (i : Int) : Str.ofString (toString i) = S (istr i) := rfl
noncomputable def errOpts (code ret : Int) (l info value : List Nat) : List (List Nat) :=
 if code = 1 then [nEC, l, nEI, if info = [] then value else info] else if code = 2 ∧ ret = 1 then (if l = nNONE then [] else [nEC, l]) ++ (if info = [] then [] else [nEI, info]) else []
theorem errOpts_r {code ret : Int} {l info value : List Nat} (q : code ≠ 1) (q2 : code = 2) (q3 : ret = 1) : errOpts code ret l info value = (if l = nNONE then [] else [nEC, l]) ++ (if info = [] then [] else [nEI, info]) := by
 unfold errOpts
 rw [if_neg q, if_pos (And.intro q2 q3)]
noncomputable def flatP : List (List Nat × List Nat) → List (List Nat)
 | [] => []
 | p :: r => p.1 :: p.2 :: flatP r
noncomputable def pairD (p : List Nat × List Nat) : PyData := .tuple [.str (S p.1), .str (S p.2)]
noncomputable def optItems (code level ret : Int) (l info value : List Nat) (extra : List (List Nat × List Nat)) : List (List Nat) :=
 [nCode, istr (if code = 2 then ret else code), nLevel, istr (if code = 2 then level else 0)] ++ errOpts code ret l info value ++ flatP extra
structure IsR (fs : Flds) (code : Int) (value : List Nat) (ec : PyData) (level ret : Int) (info : List Nat) (extra : List (List Nat × List Nat)) : Prop where
 code : look fs "code" = some (.int code)
 value : look fs "value" = some (.str (S value))
 ec : look fs "errorcode" = some ec
 level : look fs "level" = some (.int level)
 ret : look fs "ret" = some (.int ret)
 info : look fs "info" = some (.str (S info))
 extra : look fs "extra" = some (.list (extra.map pairD))
section
variable {c : Cx} {st : St} {X : Flds → List (Option AV) → Prop} {Q : AV → St → Prop}
theorem error_options_T {e dx : Addr} {fs : Flds} {tb : Option (Addr × Value)} {code level ret : Int} {value info l : List Nat} {ec : PyData} {extra : List (List Nat × List Nat)} (hm : MuAt st.mu e (.inst dx fs tb)) (H : IsR fs code value ec level ret info extra) (he : EC ec l) (hhd : c.hd = false) (hr : 6 ≤ c.room)
  (h : ∀ b, Q (.v (.ref b)) ⟨st.loc, (b, .list (txs (errOpts code ret l info value))) :: st.mu⟩) : TC c st (.ref 193) [.v (.ref e)] Q X := by
 have hmu : ∀ b ps, ⟨st.loc, [] ++ (b, ps) :: st.mu ++ []⟩ = (⟨st.loc, (b, ps) :: st.mu⟩ : St) := by simp
 refine enter_error_options st.mu [] (by simp) hhd (rm0 hr rfl) fun o ho' hF => ?_
 with_reducible refine' absN ?e fun K0 hK0 => ?_
 case e => exact rfl
 walk_at "T"
 refine i54 e dx fs tb _ rfl hm pl_errorcode H.ec ?_
 walk_at "T"
 refine code_text_T he rfl (by walk_at "RM") ?_
 walk_at "T"
 refine i54 e dx fs tb _ rfl hm pl_code H.code ?_
 walk_at "T"
 refine ite_eq (fun q => ?_) fun q => ?_ <;> walk_at "T"
 ·refine TE_lmu ?_
  walk_at "T"
  refine info_of_T hm H.info H.value rfl (by walk_at "RM") ?_
  walk_at "T"
  intro b
  have h := h b
  unfold errOpts at h
  rw [if_pos q] at h
  walk_at "T"
  show Q _ _
  rw [hmu]
  walk_at "E"; exact h
 ·refine TE_lmu ?_
  walk_at "T"
  intro b
  walk_at "V"
  have fin : ∀ ts, ts = errOpts code ret l info value → TL (mkCx ["raised", "errorcode", "told"] [("code_text", .ref 179), ("info_of", .ref 186)] (c.room - 1) o) ⟨[some (.v (.ref e)), some (.d (.str (S l))), some (.v (.ref b))], (b, .list (txs ts)) :: st.mu⟩ ((fdOf 27).2.1.drop 4) K0 (fun fs _ => X fs st.loc) := by
   intro ts hts
   refine TL_c ?_
   walk_at "T"
   show Q _ _
   rw [hmu, hts]
   walk_at "E"; exact h b
  with_reducible refine TL_c ?_
  walk_at "V"
  refine i54 e dx fs tb _ rfl (.there hm) pl_code H.code ?_
  walk_at "V"
  refine ite_eq (fun q2 => ?_) fun q2 => ?_ <;> walk_at "V"
  ·refine i54 e dx fs tb _ rfl (.there hm) pl_ret H.ret ?_
   walk_at "V"
   refine ite_eq (fun q3 => ?_) fun q3 => ?_ <;> walk_at "V"
   ·with_reducible refine TL_c ?_
    walk_at "V"
    have fin2 : ∀ ts, ts.length ≤ 2 → ts ++ (if info = [] then [] else [nEI, info]) = errOpts code ret l info value → TL (mkCx ["raised", "errorcode", "told"] [("code_text", .ref 179), ("info_of", .ref 186)] (c.room - 1) o) ⟨[some (.v (.ref e)), some (.d (.str (S l))), some (.v (.ref b))], (b, .list (txs ts)) :: st.mu⟩ (match (fdOf 27).2.1.drop 3 with | (.If _ b _ _) :: _ => b.drop 1 | _ => []) (Nx (mkCx ["raised", "errorcode", "told"] [("code_text", .ref 179), ("info_of", .ref 186)] (c.room - 1) o) (fun fs _ => X fs st.loc) K0 ((fdOf 27).2.1.drop 4)) (fun fs _ => X fs st.loc) := by
     intro ts hl2 hts
     refine TL_c ?_
     walk_at "V"
     refine i54 e dx fs tb _ rfl (.there hm) pl_info H.info ?_
     walk_at "V"
     by_cases hi : info = []
     ·subst hi
      refine ite_f (by decide) ?_
      walk_at "V"
      exact fin ts (by rw [← hts]; simp)
     ·refine ite_t (bne_iff_ne.mpr fun k => hi (S_eq_nil k)) ?_
      walk_at "V"
      with_reducible refine TL_c ?_
      walk_at "V"
      refine TE_lmu ?_
      walk_at "V"
      refine i54 e dx fs tb _ rfl (.there hm) pl_info H.info ?_
      walk_at "V"
      intro b2
      walk_at "V"
      refine TC_ext (by walk_at "MO") (by walk_at "MS") (by rw [txs_len]; show _ + 2 ≤ _; exact fg (.le (.a (.v 0) (.c 2)) (.c 1000000)) [.le (.v 0) (.c 2)] [1,1] [] rfl [_] [] hl2) ?_
      walk_at "V"
      rw [if_neg hi] at hts
      have := fin (ts ++ [nEI, info]) hts
      rw [← txs_append] at this
      walk_at "E"; exact this
    by_cases hn : l = nNONE
    ·subst hn
     refine ite_f (by decide) ?_
     walk_at "V"
     exact fin2 [] (by decide) (by rw [errOpts_r q q2 q3, if_pos rfl])
    ·refine ite_t (bne_iff_ne.mpr fun k => hn (S_inj k)) ?_
     walk_at "V"
     with_reducible refine TL_c ?_
     walk_at "V"
     refine TE_lmu ?_
     walk_at "V"
     intro b2
     walk_at "V"
     refine TC_ext (by walk_at "MO") (by walk_at "MS") (by show (0 : Nat) + 2 ≤ _; exact fg (.le (.a (.c 0) (.c 2)) (.c 1000000)) [] [1] [] rfl [] []) ?_
     walk_at "V"
     exact fin2 [nEC, l] (by simp) (by rw [errOpts_r q q2 q3, if_neg hn])
   ·exact fin [] (by unfold errOpts; rw [if_neg q, if_neg fun k => q3 k.2])
  ·exact fin [] (by unfold errOpts; rw [if_neg q, if_neg fun k => q2 k.1])
end
end
section
noncomputable def istrOk (i : Int) : Prop := i.natAbs.log2 < 1920
noncomputable def nDef : List Nat := [45, 99, 111, 100, 101, 32, 48, 32, 45, 108, 101, 118, 101, 108, 32, 48]
theorem s_Def : (Str.ofString "-code 0 -level 0") = S nDef := by kernel_rfl!
theorem flatP_append (a b : List (List Nat × List Nat)) : flatP (a ++ b) = flatP a ++ flatP b := by
 induction a with
 | nil => rfl
 | cons p a ih => show p.1 :: p.2 :: flatP (a ++ b) = p.1 :: p.2 :: (flatP a ++ flatP b); rw [ih]
theorem flatP_len (a : List (List Nat × List Nat)) : (flatP a).length = 2 * a.length := by
 induction a with
 | nil => rfl
 | cons p a ih => show (p.1 :: p.2 :: flatP a).length = _; simp [ih]; exact fe (.a (.a (.m 2 (.v 0)) (.c 1)) (.c 1)) (.m 2 (.a (.v 0) (.c 1))) [] [1] [] [1] [] rfl [_] []
theorem errOpts_len {code ret : Int} {l info value : List Nat} : (errOpts code ret l info value).length ≤ 4 := by
 unfold errOpts
 repeat' split
 all_goals simp
section
variable {c : Cx} {st : St} {X : Flds → List (Option AV) → Prop} {Q : AV → St → Prop}
theorem TC_freeze1 {f : Value} {a : Addr} {ps : List PyData} {mu' : List (Addr × AO)} (hm : MuOut st.mu a (.list ps) mu') (h : TC c ⟨st.loc, mu'⟩ f [.d (.list ps)] Q X) : TC c st f [.v (.ref a)] Q X := fun s vs r hv => by
 refine o22 hv fun v w1 zz1 h1 h2 => ?_
 try clear hv
 subst zz1
 obtain rfl : v = .ref a := h1
 obtain rfl : w1 = [] := h2
 refine o02 (out_list r hm) fun r1 t1 q => ?_
 exact wpAny_mono (h s _ r1 ⟨.ref a, [], rfl, q, rfl⟩) (fun _ _ p => p.lift t1) fun _ _ p => p.lift t1
theorem options_none_T (hhd : c.hd = false) (hr : 1 ≤ c.room) (h : Q (.d (.str (S nDef))) st) : TC c st (.ref 200) [.d .none] Q X := by
 refine enter_options_text [] st.mu rfl hhd (rm0 hr rfl) fun o ho' hF => ?_
 with_reducible refine' absN ?e fun K0 hK0 => ?_
 case e => exact rfl
 walk_at "T"
 refine ite_t rfl ?_
 walk_at "T"
 walk_at "E"; exact h
theorem options_text_T {e dx : Addr} {fs : Flds} {tb : Option (Addr × Value)} {code level ret : Int} {value info l : List Nat} {ec : PyData} {extra : List (List Nat × List Nat)} (hm : MuAt st.mu e (.inst dx fs tb)) (H : IsR fs code value ec level ret info extra) (he : EC ec l)
  (hi : istrOk (if code = 2 then ret else code) ∧ istrOk (if code = 2 then level else 0))
  (hsum : ((optItems code level ret l info value extra).map List.length).sum + (optItems code level ret l info value extra).length ≤ 100000) (hhd : c.hd = false) (hr : 7 ≤ c.room)
  (h : Q (.d (.str (S (joinN (optItems code level ret l info value extra))))) st) : TC c st (.ref 200) [.v (.ref e)] Q X := by
 refine enter_options_text st.mu [] (by simp) hhd (rm0 hr rfl) fun o ho' hF => ?_
 with_reducible refine' absN ?e fun K0 hK0 => ?_
 case e => exact rfl
 have hlen : extra.length ≤ 50000 := by
  unfold optItems at hsum
  simp only [List.length_append, flatP_len] at hsum
  exact fg (.le (.v 3) (.c 50000)) [.le (.a (.v 0) (.a (.a (.v 1) (.v 2)) (.m 2 (.v 3)))) (.c 100000)] [2,1] [1,1,1] rfl [_,_,_,_] [] hsum
 walk_at "V"
 with_reducible refine TL_c ?_
 walk_at "V"
 refine i54 e dx fs tb _ rfl hm pl_code H.code ?_
 walk_at "V"
 with_reducible refine TL_c ?_
 walk_at "V"
 have main : ∀ (i j : Int), i = (if code = 2 then ret else code) → j = (if code = 2 then level else 0) → TL (mkCx ["raised", "code", "level", "items", "name", "value"] [("str", .type "str"), ("error_options", .ref 193), ("join_list", .ref 172)] (c.room - 1) o) ⟨[some (.v (.ref e)), some (.d (.int i)), some (.d (.int j)), none, none, none], st.mu⟩ ((fdOf 28).2.1.drop 4) K0 (fun fs _ => X fs st.loc) := by
  intro i j hi1 hj1
  refine TL_c ?_
  walk_at "T"
  refine TE_lmu ?_
  walk_at "T"
  refine TC_str_int (by rw [hi1]; exact hi.1) ?_
  walk_at "T"
  refine TC_str_int (by rw [hj1]; exact hi.2) ?_
  walk_at "T"
  intro b
  walk_at "T"
  refine error_options_T (.there hm) H he rfl (by walk_at "RM") fun b2 => ?_
  walk_at "T"
  refine TC_ext (qs := txs (errOpts code ret l info value)) (by walk_at "MO") (by walk_at "MS") (by have := @errOpts_len code ret l info value; rw [txs_len]; show 4 + _ ≤ _; exact fg (.le (.a (.c 4) (.v 0)) (.c 1000000)) [.le (.v 0) (.c 4)] [1,1] [] rfl [_] [] this) ?_
  walk_at "V"
  have e0 : ([PyData.str (Str.ofString "-code"), PyData.str (toString i), PyData.str (Str.ofString "-level"), PyData.str (toString j)] : List PyData) ++ txs (errOpts code ret l info value) = txs ([nCode, istr i, nLevel, istr j] ++ errOpts code ret l info value) := by rw [← txs_append]; rfl
  rw [e0]
  generalize hpre : [nCode, istr i, nLevel, istr j] ++ errOpts code ret l info value = pre
  have hpl : pre.length ≤ 8 := by rw [← hpre]; have := @errOpts_len code ret l info value; simp; exact fg (.le (.v 0) (.c 4)) [.le (.v 0) (.c 4)] [1,1] [] rfl [_] [] this
  have hopt : pre ++ flatP extra = optItems code level ret l info value extra := by rw [← hpre, hi1, hj1]; rfl
  with_reducible refine TL_c (TS_sq (fun st1 => ∃ x y, st1 = ⟨[some (.v (.ref e)), some (.d (.int i)), some (.d (.int j)), some (.v (.ref b)), x, y], (b, .list (txs (pre ++ flatP extra))) :: st.mu⟩) (fun K2 hK2 => ?_) fun st1 => exI fun x => exI fun y => fun e1 => ?_)
  ·refine TS_fr (S := fun σ : List (List Nat × List Nat) × Option AV × Option AV => ⟨[some (.v (.ref e)), some (.d (.int i)), some (.d (.int j)), some (.v (.ref b)), σ.2.1, σ.2.2], (b, .list (txs (pre ++ flatP σ.1))) :: st.mu⟩)
    (I := fun xs σ => ∃ r, xs = r.map pairD ∧ σ.1 ++ r = extra) hF ?_ (by intro _; rfl)
   walk_at "T"
   refine i54 e dx fs tb _ rfl (.there hm) pl_extra H.extra ?_
   walk_at "T"
   refine i24 (extra.map pairD) ([], none, none) Iters.list ?_ (i11 extra rfl rfl) (fun o' ho'' hF' x xs σ hI K1 hK1 => ?_) (fun σ hI => ?_)
   ·show Le ⟨_, (b, .list (txs (pre ++ []))) :: st.mu⟩ _
    rw [List.append_nil]
    walk_at "LE"
   ·refine o11 hI fun r hx h1 => ?_
    try clear hI
    cases r with
    | nil => cases hx
    | cons p r =>
     obtain ⟨rfl, rfl⟩ : x = pairD p ∧ xs = r.map pairD := by
      have := List.cons.inj hx; exact ⟨this.1, this.2⟩
     have hl2 : σ.1.length + (r.length + 1) ≤ 50000 := by rw [← h1] at hlen; simpa using hlen
     unfold pairD
     walk_at "T"
     refine TE_lmu ?_
     walk_at "T"
     intro b2
     walk_at "T"
     refine TC_ext (qs := txs [p.1, p.2]) MuOut.here (by walk_at "MS") (by rw [txs_len, txs_len, List.length_append, flatP_len]; show _ + 2 ≤ _; exact fg (.le (.a (.a (.v 0) (.m 2 (.v 1))) (.c 2)) (.c 1000000)) [.le (.v 0) (.c 8),.le (.a (.v 1) (.a (.v 2) (.c 1))) (.c 50000)] [1,1,2] [0,0,2] rfl [_,_,_] [] hpl hl2) ?_
     rw [txs_append]
     walk_at "T"
     refine i11 (σ.1 ++ [p], some (.d (.str (S p.1))), some (.d (.str (S p.2)))) ?_ (i11 r rfl (by rw [← h1]; simp))
     show Le ⟨_, (b, .list (txs (pre ++ flatP (σ.1 ++ [p])))) :: st.mu⟩ _
     rw [flatP_append, ← List.append_assoc]
     walk_at "LE"
   ·refine o11 hI fun r hx h1 => ?_
    try clear hI
    cases r with
    | nil => walk_at "K"; exact Seq.next (i20 σ.2.1 σ.2.2 (by rw [← h1, List.append_nil]))
    | cons ch r => cases hx
  subst e1
  walk_at "T"
  refine TC_freeze1 (by walk_at "MO") ?_
  refine join_list_T (.inl (by rw [hopt])) hsum rfl (by walk_at "RM") ?_
  walk_at "T"
  exact end_mu h
 with_reducible refine TL_c ?_
 walk_at "V"
 refine ite_eq (fun q => ?_) fun q => ?_ <;> walk_at "V"
 ·with_reducible refine TL_c ?_
  walk_at "V"
  refine i54 e dx fs tb _ rfl hm pl_ret H.ret ?_
  walk_at "V"
  with_reducible refine TL_c ?_
  walk_at "V"
  refine i54 e dx fs tb _ rfl hm pl_level H.level ?_
  walk_at "V"
  exact main _ _ (by rw [if_pos q]) (by rw [if_pos q])
 ·exact main _ _ (by rw [if_neg q]) (by rw [if_neg q])
end
end
section
noncomputable def nOk : List Nat := [111, 107]
noncomputable def nError : List Nat := [101, 114, 114, 111, 114]
noncomputable def nReturn : List Nat := [114, 101, 116, 117, 114, 110]
noncomputable def nBreak : List Nat := [98, 114, 101, 97, 107]
noncomputable def nContinue : List Nat := [99, 111, 110, 116, 105, 110, 117, 101]
noncomputable def codes : List (Str × Int) := [("ok", 0), ("error", 1), ("return", 2), ("break", 3), ("continue", 4)]
noncomputable def codeN (l : List Nat) : Option Int :=
 if l = nOk then some 0 else if l = nError then some 1 else if l = nReturn then some 2 else if l = nBreak then some 3 else if l = nContinue then some 4 else wholeN l
theorem codes_look (l : List Nat) : (∃ i, look (codes.map fun z => (z.1, .int z.2)) (S l) = some (.int i) ∧ codeN l = some i) ∨ (look (codes.map fun z => (z.1, .int z.2)) (S l) = none ∧ codeN l = wholeN l) := by
 by_cases h1 : l = nOk
 ·subst h1; exact .inl (i11 0 (by kernel_rfl!) (by decide))
 by_cases h2 : l = nError
 ·subst h2; exact .inl (i11 1 (by kernel_rfl!) (by decide))
 by_cases h3 : l = nReturn
 ·subst h3; exact .inl (i11 2 (by kernel_rfl!) (by decide))
 by_cases h4 : l = nBreak
 ·subst h4; exact .inl (i11 3 (by kernel_rfl!) (by decide))
 by_cases h5 : l = nContinue
 ·subst h5; exact .inl (i11 4 (by kernel_rfl!) (by decide))
 refine .inr ⟨?_, by unfold codeN; rw [if_neg h1, if_neg h2, if_neg h3, if_neg h4, if_neg h5]⟩
 have ne : ∀ {n : List Nat} {x : Str}, x = S n → ¬ l = n → ¬ x = S l := fun e h q => h (S_inj (q.symm.trans e))
 have e1 := ne (x := "ok") (n := nOk) (by kernel_rfl!) h1
 have e2 := ne (x := "error") (n := nError) (by kernel_rfl!) h2
 have e3 := ne (x := "return") (n := nReturn) (by kernel_rfl!) h3
 have e4 := ne (x := "break") (n := nBreak) (by kernel_rfl!) h4
 have e5 := ne (x := "continue") (n := nContinue) (by kernel_rfl!) h5
 unfold look codes
 simp only [List.map_cons, List.map_nil]
 rw [List.find?_cons_of_neg (by simpa using e1), List.find?_cons_of_neg (by simpa using e2), List.find?_cons_of_neg (by simpa using e3), List.find?_cons_of_neg (by simpa using e4), List.find?_cons_of_neg (by simpa using e5)]
 rfl
noncomputable def codeWhy (l : List Nat) : Str := Str.ofString "bad completion code \"" ++ S l ++ Str.ofString "\": must be ok, error, return, break, continue, or an integer"
noncomputable def ecOf (w : String) : PyData := .tuple [.str "TCL", .str "RESULT", .str w]
theorem len_add (x y : Str) : (x ++ y).length = x.length + y.length := by
 show (x.cps ++ y.cps).size = _
 rw [Array.size_append]; rfl
theorem add_le {x y : Str} {m n : Nat} (hx : x.length ≤ m) (hy : y.length ≤ n) : (x ++ y).length ≤ m + n := by rw [len_add]; exact fg (.le (.a (.v 0) (.v 2)) (.a (.v 1) (.v 3))) [.le (.v 0) (.v 1),.le (.v 2) (.v 3)] [1,1,1] [] rfl [_,_,_,_] [] hx hy
theorem S_le {l : List Nat} {n : Nat} (h : l.length ≤ n) : (S l).length ≤ n := by rw [len_S]; exact h
theorem lit_le {x : Str} {n : Nat} (h : Nat.ble x.length n = true) : x.length ≤ n := Nat.le_of_ble_eq_true h
theorem Bin.add_of {x y : Str} {m n : Nat} {K : AV → Prop} (hx : x.length ≤ m) (hy : y.length ≤ n) (h : m + n ≤ 1000000) (k : K (.d (.str (x ++ y)))) : Bin .Add (.d (.str x)) (.d (.str y)) K := Bin.add_str (by exact fg (.le (.a (.v 0) (.v 2)) (.c 1000000)) [.le (.v 0) (.v 1),.le (.v 2) (.v 3),.le (.a (.v 1) (.v 3)) (.c 1000000)] [1,1,1,1] [] rfl [_,_,_,_] [] hx hy h) k
section
variable {c : Cx} {st : St} {X : Flds → List (Option AV) → Prop} {Q : AV → St → Prop}
theorem code_of_T {l : List Nat} (hl : l.length ≤ 100000) (hhd : c.hd = false) (hr : 4 ≤ c.room) (h : ∀ i, codeN l = some i → Q (.d (.int i)) st) (hx : codeN l = none → X (errF (codeWhy l) (.tuple [.str "TCL", .str "RESULT", .str "ILLEGAL_CODE"])) st.loc) : TC c st (.ref 207) [.d (.str (S l))] Q X := by
 refine enter_code_of [] st.mu rfl hhd (rm0 hr rfl) fun o ho' hF => ?_
 with_reducible refine' absN ?e fun K0 hK0 => ?_
 case e => exact rfl
 walk_at "T"
 refine TE_dict (kvs := codes) (.cons (.cons (.cons (.cons (.cons .nil))))) (by decide) (by decide) (by decide) ?_
 walk_at "V"
 with_reducible refine TL_c (TS_if' ?_)
 refine TB_in_fd ?_ (by walk_at "R")
 walk_at "T"
 refine i22 _ _ rfl rfl ?_
 rcases codes_look l with ⟨i, e1, e2⟩ | ⟨e1, e2⟩
 ·rw [e1]
  refine ite_t rfl ?_
  with_reducible refine TL_c (TS_rt ?_)
  refine TE_sub_fd ?_ (by intro o i; exact ⟨_, by first | kernel_rfl! | with_unfolding_all rfl⟩)
  walk_at "T"
  refine i33 _ _ _ rfl rfl e1 ?_
  walk_at "T"
  walk_at "E"; exact h i e2
 ·rw [e1]
  refine ite_f rfl ?_
  walk_at "T"
  refine whole_of_T (by exact fg (.le (.v 0) (.c 1000000)) [.le (.v 0) (.c 100000)] [1,1] [] rfl [_] [] hl) rfl (by walk_at "RM") ?_
  walk_at "T"
  rw [← e2]
  cases hc : codeN l with
  | none =>
   refine ite_t rfl ?_
   walk_at "T"
   refine Bin.add_of (m := 100) (n := 100000) (lit_le (by kernel_rfl!)) (S_le hl) (by decide) ?_
   walk_at "T"
   refine Bin.add_of (m := 100 + 100000) (n := 100) (add_le (lit_le (by kernel_rfl!)) (S_le hl)) (lit_le (by kernel_rfl!)) (by decide) ?_
   walk_at "T"
   refine error_T2 rfl (by walk_at "RM") fun e dx => ?_
   exact i32 e dx _ rfl .here (hx hc)
  | some i =>
   refine ite_f rfl ?_
   walk_at "T"
   walk_at "E"; exact h i hc
noncomputable def badWhy (name wanted : Str) (l : List Nat) : Str := Str.ofString "bad " ++ name ++ Str.ofString " value: expected " ++ wanted ++ Str.ofString " but got \"" ++ S l ++ Str.ofString "\""
theorem bad_option_T {name wanted word : Str} {l : List Nat} (hn : name.length ≤ 100) (hw : wanted.length ≤ 100) (hl : l.length ≤ 100000) (hhd : c.hd = false) (hr : 4 ≤ c.room)
  (h : ∀ e dx, Q (.v (.ref e)) ⟨st.loc, (e, .inst dx (errF (badWhy name wanted l) (.tuple [.str "TCL", .str "RESULT", .str word])) none) :: st.mu⟩) : TC c st (.ref 221) [.d (.str name), .d (.str wanted), .d (.str (S l)), .d (.str word)] Q X := by
 refine enter_bad_option [] st.mu rfl hhd (rm0 hr rfl) fun o ho' hF => ?_
 with_reducible refine' absN ?e fun K0 hK0 => ?_
 case e => exact rfl
 walk_at "T"
 refine Bin.add_of (m := 100) (n := 100) (lit_le (by kernel_rfl!)) hn (by decide) ?_
 walk_at "T"
 refine Bin.add_of (m := 100 + 100) (n := 100) (add_le (lit_le (by kernel_rfl!)) hn) (lit_le (by kernel_rfl!)) (by decide) ?_
 walk_at "T"
 refine Bin.add_of (m := 100 + 100 + 100) (n := 100) (add_le (add_le (lit_le (by kernel_rfl!)) hn) (lit_le (by kernel_rfl!))) hw (by decide) ?_
 walk_at "T"
 refine Bin.add_of (m := 100 + 100 + 100 + 100) (n := 100) (add_le (add_le (add_le (lit_le (by kernel_rfl!)) hn) (lit_le (by kernel_rfl!))) hw) (lit_le (by kernel_rfl!)) (by decide) ?_
 walk_at "T"
 refine Bin.add_of (m := 100 + 100 + 100 + 100 + 100) (n := 100000) (add_le (add_le (add_le (add_le (lit_le (by kernel_rfl!)) hn) (lit_le (by kernel_rfl!))) hw) (lit_le (by kernel_rfl!))) (S_le hl) (by decide) ?_
 walk_at "T"
 refine Bin.add_of (m := 100 + 100 + 100 + 100 + 100 + 100000) (n := 100) (add_le (add_le (add_le (add_le (add_le (lit_le (by kernel_rfl!)) hn) (lit_le (by kernel_rfl!))) hw) (lit_le (by kernel_rfl!))) (S_le hl)) (lit_le (by kernel_rfl!)) (by decide) ?_
 walk_at "T"
 refine error_T2 rfl (by walk_at "RM") fun e dx => ?_
 walk_at "T"
 walk_at "E"; exact h e dx
noncomputable def levelN (l : List Nat) : Option Int := match wholeN l with
 | none => none
 | some i => if i < 0 then none else some i
noncomputable def levelWhy (l : List Nat) : Str := badWhy "-level" "non-negative integer" l
theorem level_of_T {l : List Nat} (hl : l.length ≤ 100000) (hhd : c.hd = false) (hr : 5 ≤ c.room) (h : ∀ i, levelN l = some i → Q (.d (.int i)) st) (hx : levelN l = none → X (errF (levelWhy l) (.tuple [.str "TCL", .str "RESULT", .str "ILLEGAL_LEVEL"])) st.loc) : TC c st (.ref 242) [.d (.str (S l))] Q X := by
 refine enter_level_of [] st.mu rfl hhd (rm0 hr rfl) fun o ho' hF => ?_
 with_reducible refine' absN ?e fun K0 hK0 => ?_
 case e => exact rfl
 walk_at "T"
 refine whole_of_T (by exact fg (.le (.v 0) (.c 1000000)) [.le (.v 0) (.c 100000)] [1,1] [] rfl [_] [] hl) rfl (by walk_at "RM") ?_
 walk_at "T"
 unfold levelN at h hx
 cases hc : wholeN l with
 | none =>
  rw [hc] at hx
  refine ite_t rfl ?_
  walk_at "T"
  refine bad_option_T (lit_le (by kernel_rfl!)) (lit_le (by kernel_rfl!)) hl rfl (by walk_at "RM") fun e dx => ?_
  exact i32 e dx _ rfl .here (hx rfl)
 | some i =>
  rw [hc] at h hx
  refine ite_f rfl ?_
  unfold optI
  walk_at "T"
  refine ite_d (fun q => ?_) fun q => ?_ <;> walk_at "T"
  ·refine bad_option_T (lit_le (by kernel_rfl!)) (lit_le (by kernel_rfl!)) hl rfl (by walk_at "RM") fun e dx => ?_
   exact i32 e dx _ rfl .here (hx (by dsimp only; rw [if_pos q]))
  ·walk_at "E"; exact h i (by dsimp only; rw [if_neg q])
end
end
section
theorem rangeSize1 {n : Nat} : Builtin.Range.rangeSize 0 n 1 = n := by
 unfold Builtin.Range.rangeSize
 simp only [show (1 : Int) > 0 from by decide, if_true]
 split
 ·rw [Int.ediv_one]; exact fi (.a (.s (.s (.n (.v 0)) (.c 0)) (.c 1)) (.c 1)) (.n (.v 0)) [] [1] [] [1] [] rfl [_] []
 ·exact (Int.le_antisymm (Int.natCast_nonneg n) (Int.not_lt.mp ‹_›))
theorem rangeSize2 {n : Nat} (h : n % 2 = 0) : Builtin.Range.rangeSize 0 n 2 = (n / 2 : Nat) := by
 unfold Builtin.Range.rangeSize
 simp only [show (2 : Int) > 0 from by decide, if_true]
 split <;> omega
theorem fitsN {i : Int} (h1 : -100 ≤ i) (h2 : i ≤ 1000000) : Builtin.Range.rangeFitsLong i = true := by
 unfold Builtin.Range.rangeFitsLong
 simp only [Bool.and_eq_true, decide_eq_true_eq]
 exact ⟨Int.le_trans (by decide) h1, Int.lt_of_le_of_lt h2 (by decide)⟩
theorem small1 {n : Nat} (h : n ≤ 100000) : Builtin.Range.small 0 n 1 = true := by
 unfold Builtin.Range.small
 rw [rangeSize1, fitsN (by exact fg (.ile (.g (.c 100)) (.c 0)) [] [1] [] rfl [] []) (by exact fg (.ile (.c 0) (.c 1000000)) [] [1] [] rfl [] []), fitsN (by exact fg (.ile (.g (.c 100)) (.n (.v 0))) [] [1] [1] rfl [_] []) (by exact fg (.ile (.n (.v 0)) (.c 1000000)) [.le (.v 0) (.c 100000)] [1,1] [] rfl [_] [] h), fitsN (by exact fg (.ile (.g (.c 100)) (.c 1)) [] [1] [] rfl [] []) (by exact fg (.ile (.c 1) (.c 1000000)) [] [1] [] rfl [] []), if_pos (by decide), fitsN (i := (n : Int) + (1 - 1)) (by exact fg (.ile (.g (.c 100)) (.a (.n (.v 0)) (.s (.c 1) (.c 1)))) [] [1] [1] rfl [_] []) (by exact fg (.ile (.a (.n (.v 0)) (.s (.c 1) (.c 1))) (.c 1000000)) [.le (.v 0) (.c 100000)] [1,1] [] rfl [_] [] h)]
 simp
theorem small2 {n : Nat} (h : n ≤ 100000) (h2 : n % 2 = 0) : Builtin.Range.small 0 n 2 = true := by
 unfold Builtin.Range.small
 rw [rangeSize2 h2, fitsN (by exact fg (.ile (.g (.c 100)) (.c 0)) [] [1] [] rfl [] []) (by exact fg (.ile (.c 0) (.c 1000000)) [] [1] [] rfl [] []), fitsN (by exact fg (.ile (.g (.c 100)) (.n (.v 0))) [] [1] [1] rfl [_] []) (by exact fg (.ile (.n (.v 0)) (.c 1000000)) [.le (.v 0) (.c 100000)] [1,1] [] rfl [_] [] h), fitsN (by exact fg (.ile (.g (.c 100)) (.c 2)) [] [1] [] rfl [] []) (by exact fg (.ile (.c 2) (.c 1000000)) [] [1] [] rfl [] []), fitsN (by exact fg (.ile (.g (.c 100)) (.n (.v 0))) [] [1] [1] rfl [_] []) (by omega), if_pos (by decide), fitsN (i := (n : Int) + (2 - 1)) (by exact fg (.ile (.g (.c 100)) (.a (.n (.v 0)) (.s (.c 2) (.c 1)))) [] [1] [1] rfl [_] []) (by exact fg (.ile (.a (.n (.v 0)) (.s (.c 2) (.c 1))) (.c 1000000)) [.le (.v 0) (.c 100000)] [1,1] [] rfl [_] [] h)]
 simp
theorem noPylong2 {n : Int} : Builtin.divisionGoesByPylong n 2 = false := by
 unfold Builtin.divisionGoesByPylong
 have : Nat.log2 2 = 1 := by decide
 simp [this]
theorem pair_at {α : Type} {l : List α} {k : Nat} (h : 2 * k + 1 < l.length) : ∃ a b, l[2 * k]? = some a ∧ l[2 * k + 1]? = some b ∧ l.drop (2 * k) = a :: b :: l.drop (2 * (k + 1)) :=
 (i22 _ _ (List.getElem?_eq_getElem (by exact fg (.lt (.m 2 (.v 0)) (.v 1)) [.lt (.a (.m 2 (.v 0)) (.c 1)) (.v 1)] [1,1] [] rfl [_,_] [] h)) (List.getElem?_eq_getElem h) (by rw [List.drop_eq_getElem_cons (by exact fg (.lt (.m 2 (.v 0)) (.v 1)) [.lt (.a (.m 2 (.v 0)) (.c 1)) (.v 1)] [1,1] [] rfl [_,_] [] h), List.drop_eq_getElem_cons h]; rfl))
noncomputable abbrev Kv := List (List Nat × List Nat)
noncomputable def dct (kv : Kv) : List (Str × PyData) := kv.map fun p => (S p.1, .str (S p.2))
noncomputable def putK (kv : Kv) (k v : List Nat) : Kv := if kv.any (fun p => p.1 = k) then kv.map (fun p => if p.1 = k then (p.1, v) else p) else kv ++ [(k, v)]
theorem S_iff {a b : List Nat} : S a = S b ↔ a = b := ⟨S_inj, fun e => by rw [e]⟩
theorem putS_dct (kv : Kv) (k v : List Nat) : putS (dct kv) (S k) (.str (S v)) = dct (putK kv k v) := by
 have e : (dct kv).any (fun q => q.1 = S k) = kv.any (fun p => p.1 = k) := by
  unfold dct
  rw [List.any_map]
  congr 1
  funext p
  simp only [Function.comp]
  exact decide_eq_decide.mpr S_iff
 unfold putS putK
 rw [e]
 split
 ·unfold dct
  rw [List.map_map, List.map_map]
  refine List.map_congr_left fun p _ => ?_
  simp only [Function.comp, S_iff]
  split <;> rfl
 ·simp [dct]
theorem putK_len {kv : Kv} {k v : List Nat} : (putK kv k v).length ≤ kv.length + 1 := by
 unfold putK
 split <;> simp
theorem dct_len {kv : Kv} : (dct kv).length = kv.length := by simp [dct]
noncomputable def nOptions : List Nat := [45, 111, 112, 116, 105, 111, 110, 115]
theorem s_Options : (Str.ofString "-options") = S nOptions := by kernel_rfl!
noncomputable def walkP : List (List Nat) → Option (List Nat) × Kv → Option (List Nat) × Kv
 | k :: v :: r, z => walkP r (if k = nOptions then (some v, z.2) else (z.1, putK z.2 k v))
 | _, z => z
inductive Nested : Option (List Nat) → Kv → Option Kv → Nat → Prop
 | done {kv} : Nested none kv (some kv) 0
 | bad {t kv R s} : t.length ≤ 100000 → SplitAt t 0 R s → s ≤ 100000 → (R = none ∨ ∃ es, R = some es ∧ es.length % 2 = 1 ∧ es.length ≤ 100000) → Nested (some t) kv none 0
 | step {t kv es s R n} : t.length ≤ 100000 → SplitAt t 0 (some es) s → s ≤ 100000 → es.length % 2 = 0 → kv.length + es.length ≤ 800 → Nested (walkP es (none, kv)).1 (walkP es (none, kv)).2 R n → Nested (some t) kv R (n + 1)
noncomputable def optL : Option (List Nat) → PyData
 | none => .none
 | some t => .str (S t)
noncomputable def optionsWhy (l : List Nat) : Str := badWhy "-options" "dictionary" l
section
variable {c : Cx} {st : St} {X : Flds → List (Option AV) → Prop} {Q : AV → St → Prop}
theorem mod_2 {n : Nat} : ((n : Int).fmod 2) = ((n % 2 : Nat) : Int) := by rw [Int.fmod_eq_emod_of_nonneg _ (by decide)]; rfl
theorem put_nested_T {f : Addr} {kv : Kv} {l : List (Addr × AO)} {loc : List (Option AV)} {t : List Nat} {R : Option Kv} {n : Nat} (hmu : st = ⟨loc, (f, .dict (dct kv)) :: l⟩) (hn : Nested (some t) kv R n) (ht : t.length ≤ 100000) (hhd : c.hd = false) (hr : 8 ≤ c.room)
  (h : ∀ kv', R = some kv' → Q (.d .none) ⟨loc, (f, .dict (dct kv')) :: l⟩) (hx : R = none → X (errF (optionsWhy t) (.tuple [.str "TCL", .str "RESULT", .str "ILLEGAL_OPTIONS"])) loc) : TC c st (.ref 228) [.v (.ref f), .d (.str (S t))] Q X := by
 subst hmu
 refine enter_put_nested [(f, .dict (dct kv))] l rfl hhd (rm0 hr rfl) fun o ho' hF => ?_
 with_reducible refine' absN ?e fun K0 hK0 => ?_
 case e => exact rfl
 walk_at "V"
 with_reducible refine TL_c (TS_sq (fun st1 => ∃ kv' x y z, R = some kv' ∧ st1 = ⟨[some (.v (.ref f)), some (.d (.str (S t))), x, y, z], [(f, .dict (dct kv'))]⟩) (fun K3 hK3 => ?_) fun st1 => exI fun kv' => exI fun x => exI fun y => exI fun z => aiI fun e1 => fun e2 => ?_)
 ·refine TS_wh (S := fun σ : Option (List Nat) × Kv × Nat × Option AV × Option AV => ⟨[some (.v (.ref f)), some (.d (.str (S t))), some (.d (optL σ.1)), σ.2.2.2.1, σ.2.2.2.2], [(f, .dict (dct σ.2.1))]⟩)
   (I := fun σ => Nested σ.1 σ.2.1 R σ.2.2.1) (m := fun σ => σ.2.2.1) (a0 := (some t, kv, n, none, none)) hF (show Le ⟨[some (.v (.ref f)), some (.d (.str (S t))), some (.d (.str (S t))), none, none], [(f, .dict (dct kv))]⟩ _ by walk_at "LE") hn fun ⟨rest, kv1, m, x1, x2⟩ K1 hK1 => fun hI => ?_
  dsimp only at hI ⊢
  walk_at "T"
  cases hI with
  | done =>
   refine ite_f rfl ?_
   walk_at "K"; exact Seq.next (i41 kv1 _ _ _ rfl rfl)
  | @bad t1 _ R1 s h1 h2 h3 h4 =>
   refine ite_t rfl ?_
   walk_at "T"
   refine list_or_none_T h1 h2 h3 rfl (by walk_at "RM") ?_
   walk_at "T"
   rcases h4 with rfl | ⟨es, rfl, h4, h5⟩
   ·refine ite_t rfl ?_
    walk_at "T"
    refine bad_option_T (lit_le (by kernel_rfl!)) (lit_le (by kernel_rfl!)) ht rfl (by walk_at "RM") fun e dx => ?_
    exact i32 e dx _ rfl .here (hx rfl)
   ·refine ite_f rfl ?_
    walk_at "T"
    refine TC_len_list (by rw [txs_len]; (try dsimp only); exact fg (.le (.v 0) (.c 1000000)) [.le (.v 0) (.c 100000)] [1,1] [] rfl [_] [] h5) ?_
    walk_at "T"
    refine Bin.mod_int (by decide) ?_
    rw [mod_2, txs_len, h4]
    walk_at "T"
    refine ite_t (by decide) ?_
    walk_at "T"
    refine bad_option_T (lit_le (by kernel_rfl!)) (lit_le (by kernel_rfl!)) ht rfl (by walk_at "RM") fun e dx => ?_
    exact i32 e dx _ rfl .here (hx rfl)
  | @step t1 _ es s _ n1 h1 h2 h3 h4 h5 h6 =>
   refine ite_t rfl ?_
   walk_at "T"
   refine list_or_none_T h1 h2 h3 rfl (by walk_at "RM") ?_
   walk_at "T"
   refine ite_f rfl ?_
   walk_at "T"
   refine TC_len_list (by rw [txs_len]; (try dsimp only); exact fg (.le (.v 1) (.c 1000000)) [.le (.a (.v 0) (.v 1)) (.c 800)] [1,1] [1] rfl [_,_] [] h5) ?_
   walk_at "T"
   refine Bin.mod_int (by decide) ?_
   rw [mod_2, txs_len, h4]
   walk_at "T"
   refine ite_f (by decide) ?_
   walk_at "V"
   with_reducible refine TL_c ?_
   walk_at "V"
   have hes : es.length ≤ 800 := by exact fg (.le (.v 1) (.c 800)) [.le (.a (.v 0) (.v 1)) (.c 800)] [1,1] [1] rfl [_,_] [] h5
   with_reducible refine TL_c (TS_sq (fun st1 => ∃ z, st1 = ⟨[some (.v (.ref f)), some (.d (.str (S t))), some (.d (optL (walkP es (none, kv1)).1)), some (.d (.list (txs es))), z], [(f, .dict (dct (walkP es (none, kv1)).2))]⟩) (fun K4 hK4 => ?_) fun st1 => exI fun z => fun e1 => ?_)
   ·refine TS_fr (S := fun σ : Option (List Nat) × Kv × Option AV => ⟨[some (.v (.ref f)), some (.d (.str (S t))), some (.d (optL σ.1)), some (.d (.list (txs es))), σ.2.2], [(f, .dict (dct σ.2.1))]⟩)
     (I := fun xs σ => ∃ k : Nat, xs = rangeL ((2 * k : Nat) : Int) 2 (es.length / 2 - k) ∧ 2 * k ≤ es.length ∧ walkP (es.drop (2 * k)) (σ.1, σ.2.1) = walkP es (none, kv1) ∧ σ.2.1.length ≤ kv1.length + k) hF ?_ (by intro _; rfl)
    walk_at "T"
    refine TC_len_list (by rw [txs_len]; (try dsimp only); exact fg (.le (.v 1) (.c 1000000)) [.le (.a (.v 0) (.v 1)) (.c 800)] [1,1] [1] rfl [_,_] [] h5) ?_
    rw [txs_len]
    walk_at "T"
    refine TC_range3 (by decide) noPylong2 ?_
    walk_at "T"
    refine i24 _ (none, kv1, x2) (Iters.rng (n := es.length / 2) (small2 (by exact fg (.le (.v 1) (.c 100000)) [.le (.a (.v 0) (.v 1)) (.c 800)] [1,1] [1] rfl [_,_] [] h5) h4) (rangeSize2 h4)) (show Le ⟨[some (.v (.ref f)), some (.d (.str (S t))), some (.d .none), some (.d (.list (txs es))), x2], [(f, .dict (dct kv1))]⟩ _ by walk_at "LE") (i13 0 rfl (by exact fg (.le (.m 2 (.c 0)) (.v 0)) [] [1] [1] rfl [_] []) rfl (by simp)) (fun o' ho'' hF' x xs σ hI K2 hK2 => ?_) (fun σ hI => ?_)
    ·refine o13 hI fun k hx1 hk1 hk2 hk3 => ?_
     try clear hI
     cases hm : es.length / 2 - k with
     | zero => rw [hm] at hx1; cases hx1
     | succ m =>
      rw [hm] at hx1
      obtain ⟨rfl, rfl⟩ : x = .int ((2 * k : Nat) : Int) ∧ xs = rangeL (((2 * k : Nat) : Int) + 2) 2 m := by
       have := List.cons.inj hx1; exact ⟨this.1, this.2⟩
      refine o22 (pair_at (l := es) (k := k) (ev2 h4 hm)) fun a b ha hb hd => ?_
      rw [hd] at hk2
      walk_at "T"
      refine Item.list (p := .str (S a)) (by exact fg (.ile (.c 0) (.n (.m 2 (.v 0)))) [] [1] [2] rfl [_] []) (by show (txs es)[2 * k]? = _; rw [txs, List.getElem?_map, ha]; rfl) (by rw [txs_len]; (try dsimp only); exact fg (.le (.v 1) (.c 1000000)) [.le (.a (.v 0) (.v 1)) (.c 800)] [1,1] [1] rfl [_,_] [] h5) ?_
      walk_at "T"
      refine ite_seq (fun q => ?_) fun q => ?_ <;> walk_at "T"
      ·obtain rfl : a = nOptions := S_inj q
       refine Item.list (p := .str (S b)) (by exact fg (.ile (.c 0) (.a (.n (.m 2 (.v 0))) (.c 1))) [] [1] [2] rfl [_] []) (by show (txs es)[2 * k + 1]? = _; rw [txs, List.getElem?_map, hb]; rfl) (by rw [txs_len]; (try dsimp only); exact fg (.le (.v 1) (.c 1000000)) [.le (.a (.v 0) (.v 1)) (.c 800)] [1,1] [1] rfl [_,_] [] h5) ?_
       walk_at "T"
       refine i11 (some b, σ.2.1, some (.d (.int ((2 * k : Nat) : Int)))) (show Le ⟨[some (.v (.ref f)), some (.d (.str (S t))), some (.d (.str (S b))), some (.d (.list (txs es))), some (.d (.int ((2 * k : Nat) : Int)))], [(f, .dict (dct σ.2.1))]⟩ _ by walk_at "LE") (i13 (k + 1) ?_ (ev2 h4 hm) ?_ (by (try dsimp only); exact fg (.le (.v 0) (.a (.v 1) (.a (.v 2) (.c 1)))) [.le (.v 0) (.a (.v 1) (.v 2))] [1,1] [] rfl [_,_,_] [] hk3))
       ·rw [show es.length / 2 - (k + 1) = m from congrArg Nat.pred hm]; rfl
       ·rw [← hk2]; rfl
      ·refine Item.list (p := .str (S b)) (by exact fg (.ile (.c 0) (.a (.n (.m 2 (.v 0))) (.c 1))) [] [1] [2] rfl [_] []) (by show (txs es)[2 * k + 1]? = _; rw [txs, List.getElem?_map, hb]; rfl) (by rw [txs_len]; (try dsimp only); exact fg (.le (.v 1) (.c 1000000)) [.le (.a (.v 0) (.v 1)) (.c 800)] [1,1] [1] rfl [_,_] [] h5) ?_
       walk_at "T"
       refine Item.list (p := .str (S a)) (by exact fg (.ile (.c 0) (.n (.m 2 (.v 0)))) [] [1] [2] rfl [_] []) (by show (txs es)[2 * k]? = _; rw [txs, List.getElem?_map, ha]; rfl) (by rw [txs_len]; (try dsimp only); exact fg (.le (.v 1) (.c 1000000)) [.le (.a (.v 0) (.v 1)) (.c 800)] [1,1] [1] rfl [_,_] [] h5) ?_
       refine setitm_dict (by walk_at "MS") (by rw [dct_len]; exact fg (.lt (.v 3) (.c 900)) [.le (.a (.v 0) (.v 1)) (.c 800),.le (.m 2 (.v 2)) (.v 1),.le (.v 3) (.a (.v 0) (.v 2))] [2,2,2,2] [0,0,2] rfl [_,_,_,_] [] h5 hk1 hk3) ?_
       rw [putS_dct]
       walk_at "T"
       refine i11 (σ.1, putK σ.2.1 a b, some (.d (.int ((2 * k : Nat) : Int)))) (by walk_at "LE") (i13 (k + 1) ?_ (ev2 h4 hm) ?_ ?_)
       ·rw [show es.length / 2 - (k + 1) = m from congrArg Nat.pred hm]; rfl
       ·rw [← hk2, walkP, if_neg (fun e => q (by rw [e, s_Options]))]
       ·have := @putK_len σ.2.1 a b; dsimp only; exact fg (.le (.v 3) (.a (.v 1) (.a (.v 2) (.c 1)))) [.le (.v 0) (.a (.v 1) (.v 2)),.le (.v 3) (.a (.v 0) (.c 1))] [1,1,1] [] rfl [_,_,_,_] [] hk3 this
    ·refine o13 hI fun k hx1 hk1 hk2 hk3 => ?_
     try clear hI
     cases hm : es.length / 2 - k with
     | zero =>
      have hd : es.drop (2 * k) = [] := List.drop_eq_nil_iff.mpr (ev4 h4 hm)
      rw [hd] at hk2
      walk_at "K"; refine Seq.next ⟨σ.2.2, ?_⟩
      rw [← hk2]
      rfl
     | succ m => rw [hm] at hx1; cases hx1
   subst e1
   walk_at "T"
   refine i12 ((walkP es (none, kv1)).1, (walkP es (none, kv1)).2, n1, some (.d (.list (txs es))), z) (by walk_at "LE") h6 (by (try dsimp only); exact fg (.lt (.v 0) (.a (.v 0) (.c 1))) [] [1] [] rfl [_] [])
 subst e2
 walk_at "T"
 walk_at "E"; exact h kv' e1
end
end
section
inductive Mrg : Kv → Kv → Kv ⊕ List Nat → Prop
 | nil {kv} : Mrg [] kv (.inl kv)
 | put {k v r kv R} : k ≠ nOptions → kv.length ≤ 800 → Mrg r (putK kv k v) R → Mrg ((k, v) :: r) kv R
 | nest {v kv kv' n r R} : v.length ≤ 100000 → Nested (some v) kv (some kv') n → Mrg r kv' R → Mrg ((nOptions, v) :: r) kv R
 | fail {v kv n r} : v.length ≤ 100000 → Nested (some v) kv none n → Mrg ((nOptions, v) :: r) kv (.inr v)
section
variable {c : Cx} {st : St} {X : Flds → List (Option AV) → Prop} {Q : AV → St → Prop}
theorem merged_T {ops : Kv} {R : Kv ⊕ List Nat} (hM : Mrg ops [] R) (hhd : c.hd = false) (hr : 9 ≤ c.room)
  (h : ∀ kv, R = .inl kv → Q (.fd c.w.params (dct kv)) st) (hx : ∀ v, R = .inr v → X (errF (optionsWhy v) (.tuple [.str "TCL", .str "RESULT", .str "ILLEGAL_OPTIONS"])) st.loc) : TC c st (.ref 235) [.d (.list (ops.map pairD))] Q X := by
 refine enter_merged [] st.mu rfl hhd (rm0 hr rfl) fun o ho' hF => ?_
 with_reducible refine' absN ?e fun K0 hK0 => ?_
 case e => exact rfl
 walk_at "T"
 refine TE_dmu fun f => ?_
 walk_at "V"
 with_reducible refine TL_c (TS_sq (fun st1 => ∃ kv x y, R = .inl kv ∧ st1 = ⟨[some (.d (.list (ops.map pairD))), some (.v (.ref f)), x, y], [(f, .dict (dct kv))]⟩) (fun K3 hK3 => ?_) fun st1 => exI fun kv => exI fun x => exI fun y => aiI fun e1 => fun e2 => ?_)
 ·refine TS_fr (S := fun σ : Kv × Option AV × Option AV => ⟨[some (.d (.list (ops.map pairD))), some (.v (.ref f)), σ.2.1, σ.2.2], [(f, .dict (dct σ.1))]⟩)
   (I := fun xs σ => ∃ r, xs = r.map pairD ∧ Mrg r σ.1 R) hF ?_ (by intro _; rfl)
  walk_at "T"
  refine i24 _ ([], none, none) Iters.list (show Le ⟨[some (.d (.list (ops.map pairD))), some (.v (.ref f)), none, none], [(f, .dict [])]⟩ _ by walk_at "LE") (i11 ops rfl hM) (fun o' ho'' hF' x xs σ hI K1 hK1 => ?_) (fun σ hI => ?_)
  ·refine o11 hI fun r hx1 _ => ?_
   clear hI
   rename_i hI
   cases r with
   | nil => cases hx1
   | cons p r =>
    obtain ⟨rfl, rfl⟩ : x = pairD p ∧ xs = r.map pairD := by
     have := List.cons.inj hx1; exact ⟨this.1, this.2⟩
    obtain ⟨k, v⟩ := p
    show TT _ _ _ (.d (.tuple [.str (S k), .str (S v)])) _ _
    walk_at "T"
    cases hI with
    | put h1 h2 h3 =>
     refine ite_f (beq_eq_false_iff_ne.mpr fun e => h1 (S_inj e)) ?_
     walk_at "T"
     refine setitm_dict (by walk_at "MS") (by rw [dct_len]; exact fg (.lt (.v 0) (.c 900)) [.le (.v 0) (.c 800)] [1,1] [] rfl [_] [] h2) ?_
     rw [putS_dct]
     walk_at "T"
     exact i11 (putK σ.1 k v, some (.d (.str (S k))), some (.d (.str (S v)))) (by walk_at "LE") (i11 r rfl h3)
    | @nest _ _ kv' _ _ _ h1 h2 h3 =>
     refine ite_t (by show (S nOptions == Str.ofString "-options") = true; decide) ?_
     walk_at "T"
     refine put_nested_T rfl h2 h1 rfl (by walk_at "RM") (fun kv'' e => ?_) fun e => nomatch e
     cases e
     walk_at "T"
     exact i11 (kv', some (.d (.str (S nOptions))), some (.d (.str (S v)))) (by walk_at "LE") (i11 r rfl h3)
    | fail h1 h2 =>
     refine ite_t (by show (S nOptions == Str.ofString "-options") = true; decide) ?_
     walk_at "T"
     refine put_nested_T rfl h2 h1 rfl (by walk_at "RM") (fun kv'' e => nomatch e) fun e => ?_
     walk_at "E"; exact hx v rfl
  ·refine o11 hI fun r hx1 _ => ?_
   clear hI
   rename_i hI
   cases r with
   | nil =>
    cases hI
    walk_at "K"; exact Seq.next (i31 σ.1 σ.2.1 σ.2.2 rfl rfl)
   | cons ch r => cases hx1
 subst e2
 with_reducible refine TL_c (TS_rt ?_)
 refine TE_freeze_dict ?_
 walk_at "T"
 refine i32 f _ _ rfl .here ?_
 have := h kv e1
 rw [← ho'] at this
 walk_at "E"; exact this
theorem strsIn_txs {k : List Nat} {ts : List (List Nat)} : strsIn (S k) (ts.map S) = ts.contains k := by
 unfold strsIn
 rw [List.any_map, List.contains_eq_any_beq]
 congr 1
 funext y
 show (S y == S k) = (k == y)
 rw [Bool.eq_iff_iff, beq_iff_eq, beq_iff_eq, S_iff]
 exact eq_comm
theorem look_dct {kv : Kv} {k v : List Nat} (nd : (kv.map (·.1)).Nodup) (hm : (k, v) ∈ kv) : look (dct kv) (S k) = some (.str (S v)) := by
 induction kv with
 | nil => cases hm
 | cons p kv ih =>
  have nd' := List.nodup_cons.mp nd
  unfold look dct
  rw [List.map_cons]
  rcases List.mem_cons.mp hm with e | hm
  ·rw [List.find?_cons_of_pos (by rw [← e]; simp), ← e]; rfl
  ·have hne : ¬ p.1 = k := fun e => nd'.1 (List.mem_map.mpr (i11 _ hm e.symm))
   rw [List.find?_cons_of_neg (by simpa [S_iff] using hne)]
   exact ih nd'.2 hm
theorem extras_of_T {kv : Kv} {ts : List (List Nat)} (nd : (kv.map (·.1)).Nodup) (hl : kv.length ≤ 900) (hhd : c.hd = false) (hr : 1 ≤ c.room) (h : Q (.d (.list ((kv.filter fun p => !ts.contains p.1).map pairD))) st) : TC c st (.ref 249) [.fd c.w.params (dct kv), .d (.list (txs ts))] Q X := by
 refine enter_extras_of [] st.mu rfl hhd (rm0 hr rfl) fun o ho' hF => ?_
 with_reducible refine' absN ?e fun K0 hK0 => ?_
 case e => exact rfl
 rw [← ho', txs_map]
 walk_at "T"
 refine TE_lmu ?_
 walk_at "T"
 intro b
 walk_at "V"
 with_reducible refine TL_c (TS_sq (fun st1 => ∃ x, st1 = ⟨[some (.fd o.w.params (dct kv)), some (.d (.list ((ts.map S).map .str))), some (.v (.ref b)), x], [(b, .list ((kv.filter fun p => !ts.contains p.1).map pairD))]⟩) (fun K4 hK4 => ?_) fun st1 => exI fun x => fun e1 => ?_)
 ·refine TS_fr (S := fun σ : Kv × Option AV => ⟨[some (.fd o.w.params (dct kv)), some (.d (.list ((ts.map S).map .str))), some (.v (.ref b)), σ.2], [(b, .list (σ.1.map pairD))]⟩)
   (I := fun xs σ => ∃ pre r, pre ++ r = kv ∧ xs = ((dct r).map (·.1)).map .str ∧ σ.1 = pre.filter fun p => !ts.contains p.1) hF ?_ (by intro _; rfl)
  walk_at "T"
  refine i24 _ ([], none) Iters.fd (show Le ⟨[some (.fd o.w.params (dct kv)), some (.d (.list ((ts.map S).map .str))), some (.v (.ref b)), none], [(b, .list [])]⟩ _ by walk_at "LE") (i22 [] kv rfl rfl rfl) (fun o' ho'' hF' x xs σ hI K2 hK2 => ?_) (fun σ hI => ?_)
  ·refine o22 hI fun pre r hp hx1 _ => ?_
   clear hI
   rename_i hI
   cases r with
   | nil => cases hx1
   | cons p r =>
    obtain ⟨rfl, rfl⟩ : x = .str (S p.1) ∧ xs = ((dct r).map (·.1)).map .str := by
     have := List.cons.inj hx1; exact ⟨this.1, this.2⟩
    obtain ⟨k, v⟩ := p
    have hlk : look (dct kv) (S k) = some (.str (S v)) := look_dct nd (by rw [← hp]; simp)
    have hfl : σ.1.length < 1000000 := by
     have : σ.1.length ≤ pre.length := by rw [hI]; exact List.length_filter_le _ _
     have : pre.length ≤ kv.length := by rw [← hp]; simp
     omega
    walk_at "T"
    refine Cm_i (Cmp.notIn_list) ?_
    rw [strsIn_txs]
    cases hc : ts.contains k with
    | true =>
     refine ite_f rfl ?_
     walk_at "T"
     refine i11 (σ.1, some (.d (.str (S k)))) (by walk_at "LE") (i22 (pre ++ [(k, v)]) r (by rw [← hp]; simp) rfl ?_)
     rw [List.filter_append, ← hI, List.filter_cons_of_neg (by show ¬ (!ts.contains k) = true; rw [hc]; decide), List.filter_nil, List.append_nil]
    | false =>
     refine ite_t rfl ?_
     walk_at "N"
     refine TE_sub_fd ?_ (by intro o i; exact ⟨_, by walk_at "R"⟩)
     walk_at "N"
     refine i33 _ _ _ rfl (by show AV.fd _ _ = AV.fd o'.w.params _; rw [ho'']) hlk ?_
     walk_at "T"
     refine TC_app (by walk_at "MS") (by simpa using hfl) ?_
     walk_at "T"
     refine i11 (σ.1 ++ [(k, v)], some (.d (.str (S k)))) (show Le ⟨_, [(b, .list ((σ.1 ++ [(k, v)]).map pairD))]⟩ _ by rw [List.map_append]; walk_at "LE") (i22 (pre ++ [(k, v)]) r (by rw [← hp]; simp) rfl ?_)
     rw [List.filter_append, ← hI, List.filter_cons_of_pos (by show (!ts.contains k) = true; rw [hc]; decide), List.filter_nil]
  ·refine o22 hI fun pre r hp hx1 _ => ?_
   clear hI
   rename_i hI
   cases r with
   | nil =>
    walk_at "K"; refine Seq.next ⟨σ.2, ?_⟩
    rw [← hp, List.append_nil, ← hI]
   | cons ch r => cases hx1
 subst e1
 with_reducible refine TL_c (TS_rt ?_)
 refine TE_freeze ?_
 walk_at "T"
 refine i32 b _ _ rfl .here ?_
 walk_at "V"
 exact h
end
end
section
noncomputable def getK (kv : Kv) (k d : List Nat) : List Nat := match kv.find? fun p => p.1 = k with
 | some p => p.2
 | none => d
theorem look_getK (kv : Kv) (k d : List Nat) : (look (dct kv) (S k)).getD (.str (S d)) = .str (S (getK kv k d)) := by
 induction kv with
 | nil => rfl
 | cons p kv ih =>
  by_cases hp : p.1 = k
  ·unfold look dct getK
   rw [List.map_cons, List.find?_cons_of_pos (by simp [hp]), List.find?_cons_of_pos (by simp [hp])]
   rfl
  ·unfold look dct getK
   unfold look dct getK at ih
   rw [List.map_cons, List.find?_cons_of_neg (by simpa [S_iff] using hp), List.find?_cons_of_neg (by simpa using hp)]
   exact ih
inductive ERes where
 | bad (why : Str) (word : String)
 | none
 | ok (code : Int) (value : List Nat) (ec : PyData) (level ret : Int) (info : List Nat) (extra : Kv)
noncomputable def ecNone : PyData := .tuple [.str "NONE"]
noncomputable def ownOf (code : Int) : List (List Nat) := if code = 1 then [nCode, nLevel, nEC, nEI] else [nCode, nLevel]
noncomputable def endOf2 (kv : Kv) (code level : Int) (value : List Nat) : ERes :=
 if code = 0 ∧ level = 0 then .none else
  .ok (if level > 0 then 2 else code) value (if code = 1 then .str (S (getK kv nEC nNONE)) else ecNone) (if level > 0 then level else 0) (if level > 0 then code else 0) (if code = 1 then getK kv nEI [] else []) (kv.filter fun p => !(ownOf code).contains p.1)
noncomputable def endOf (kv : Kv) (code level : Int) (value : List Nat) : ERes := if code = 2 then endOf2 kv 0 (level + 1) value else endOf2 kv code level value
noncomputable def ecWhy (l : List Nat) : Str := badWhy "-errorcode" "a list" l
inductive EndR (ops : Kv) (value : List Nat) : ERes → Prop
 | opt {v} : Mrg ops [] (.inr v) → EndR ops value (.bad (optionsWhy v) "ILLEGAL_OPTIONS")
 | code {kv} : Mrg ops [] (.inl kv) → (getK kv nCode nOk).length ≤ 100000 → codeN (getK kv nCode nOk) = none → EndR ops value (.bad (codeWhy (getK kv nCode nOk)) "ILLEGAL_CODE")
 | level {kv i} : Mrg ops [] (.inl kv) → (getK kv nCode nOk).length ≤ 100000 → codeN (getK kv nCode nOk) = some i → (getK kv nLevel [49]).length ≤ 100000 → levelN (getK kv nLevel [49]) = none → EndR ops value (.bad (levelWhy (getK kv nLevel [49])) "ILLEGAL_LEVEL")
 | ec {kv i j s} : Mrg ops [] (.inl kv) → (getK kv nCode nOk).length ≤ 100000 → codeN (getK kv nCode nOk) = some i → (getK kv nLevel [49]).length ≤ 100000 → levelN (getK kv nLevel [49]) = some j → (getK kv nEC nNONE).length ≤ 100000 → SplitAt (getK kv nEC nNONE) 0 none s → s ≤ 100000 → EndR ops value (.bad (ecWhy (getK kv nEC nNONE)) "ILLEGAL_ERRORCODE")
 | fine {kv i j s es} : Mrg ops [] (.inl kv) → (getK kv nCode nOk).length ≤ 100000 → codeN (getK kv nCode nOk) = some i → (getK kv nLevel [49]).length ≤ 100000 → levelN (getK kv nLevel [49]) = some j → (getK kv nEC nNONE).length ≤ 100000 → SplitAt (getK kv nEC nNONE) 0 (some es) s → s ≤ 100000 → (kv.map (·.1)).Nodup → kv.length ≤ 900 → EndR ops value (endOf kv i j value)
noncomputable def okF (code : Int) (value : List Nat) (ec : PyData) (level ret : Int) (info : List Nat) (extra : Kv) : Flds := rF (.int code) (.str (S value)) ec (.int level) (.int ret) (.str (S info)) (.bool false) (.int 0) (.list (extra.map pairD))
noncomputable def EQ (Q : AV → St → Prop) (X : Flds → List (Option AV) → Prop) (st : St) : ERes → Prop
 | .bad why word => X (errF why (.tuple [.str "TCL", .str "RESULT", .str word])) st.loc
 | .none => Q (.d .none) st
 | .ok code value ec level ret info extra => ∀ e dx, Q (.v (.ref e)) ⟨st.loc, (e, .inst dx (okF code value ec level ret info extra) none) :: st.mu⟩
section
variable {c : Cx} {st : St} {X : Flds → List (Option AV) → Prop} {Q : AV → St → Prop}
theorem TL_drop {a : Addr} {o : AO} {mu' : List (Addr × AO)} {es : List Stmt} {Q : AF → St → Prop} (hm : MuOut st.mu a o mu') (h : TL c ⟨st.loc, mu'⟩ es Q X) : TL c st es Q X := fun s r =>
 let ⟨r1, t1, _⟩ := r.out hm
 wpAny_mono (h s r1) (fun _ _ p => p.lift t1) fun _ _ p => p.lift t1
theorem TC_freeze2 {f : Value} {x : AV} {a : Addr} {ps : List PyData} {mu' : List (Addr × AO)} (hm : MuOut st.mu a (.list ps) mu') (h : TC c ⟨st.loc, mu'⟩ f [x, .d (.list ps)] Q X) : TC c st f [x, .v (.ref a)] Q X := fun s vs r hv => by
 refine o22 hv.two fun v w zz1 h1 h2 => ?_
 subst zz1
 obtain rfl : w = .ref a := h2
 refine o02 (out_list r hm) fun r1 t1 q => ?_
 exact wpAny_mono (h s _ r1 ⟨v, _, rfl, h1.keeps t1.fz, .ref a, [], rfl, q, rfl⟩) (fun _ _ p => p.lift t1) fun _ _ p => p.lift t1
theorem set_any {e dx : Addr} {fs fs' : Flds} {name : Str} {p : PyData} {K : St → Prop} {mu' : List (Addr × AO)} (pn : Plain name) (hm : MuSet st.mu e (.inst dx fs none) (.inst dx fs' none) mu') (hlen : fs.length < 900) (hp : putS fs name p = fs') (h : K ⟨st.loc, mu'⟩) :
  ∀ s v w, Rel c st s → RV (fz c st s.heap) (.v (.ref e)) v → RV (fz c st s.heap) (.d p) w → wpAny c.M c.A (setAttr v name w) (fun _ s' => ∃ st', K st' ∧ Rel c st' s' ∧ Tr c st s st' s') (EPost X c st s) s := fun s v w r hv hw => by
 obtain rfl : v = .ref e := hv
 subst hp
 exact setattr_next r hm hlen pn hw h
theorem end_raised_T {ops : Kv} {value : List Nat} {E : ERes} (hE : EndR ops value E) (hhd : c.hd = false) (hr : 10 ≤ c.room)
  (h : EQ Q X st E) : TC c st (.ref 256) [.d (.list (ops.map pairD)), .d (.str (S value))] Q X := by
 refine enter_end_raised [] st.mu rfl hhd (rm0 hr rfl) fun o ho' hF => ?_
 with_reducible refine' absN ?e fun K0 hK0 => ?_
 case e => exact rfl
 walk_at "T"
 have hM : ∃ R, Mrg ops [] R ∧ ((∃ v, R = .inr v ∧ E = .bad (optionsWhy v) "ILLEGAL_OPTIONS") ∨ ∃ kv, R = .inl kv ∧ (getK kv nCode nOk).length ≤ 100000 ∧ ((codeN (getK kv nCode nOk) = none ∧ E = .bad (codeWhy (getK kv nCode nOk)) "ILLEGAL_CODE") ∨
   ∃ i, codeN (getK kv nCode nOk) = some i ∧ (getK kv nLevel [49]).length ≤ 100000 ∧ ((levelN (getK kv nLevel [49]) = none ∧ E = .bad (levelWhy (getK kv nLevel [49])) "ILLEGAL_LEVEL") ∨
    ∃ j, levelN (getK kv nLevel [49]) = some j ∧ (getK kv nEC nNONE).length ≤ 100000 ∧ ∃ R s, SplitAt (getK kv nEC nNONE) 0 R s ∧ s ≤ 100000 ∧ ((R = none ∧ E = .bad (ecWhy (getK kv nEC nNONE)) "ILLEGAL_ERRORCODE") ∨ ∃ es, R = some es ∧ (kv.map (·.1)).Nodup ∧ kv.length ≤ 900 ∧ E = endOf kv i j value)))) := by
  cases hE with
  | opt g => exact i11 _ g (.inl (i11 _ rfl rfl))
  | code g h1 h2 => exact i11 _ g (.inr (i12 _ rfl h1 (.inl ⟨h2, rfl⟩)))
  | level g h1 h2 h3 h4 => exact i11 _ g (.inr (i12 _ rfl h1 (.inr (i12 _ h2 h3 (.inl ⟨h4, rfl⟩)))))
  | ec g h1 h2 h3 h4 h5 h6 h7 => exact i11 _ g (.inr (i12 _ rfl h1 (.inr (i12 _ h2 h3 (.inr (i12 _ h4 h5 (i22 _ _ h6 h7 (.inl ⟨rfl, rfl⟩))))))))
  | fine g h1 h2 h3 h4 h5 h6 h7 h8 h9 => exact i11 _ g (.inr (i12 _ rfl h1 (.inr (i12 _ h2 h3 (.inr (i12 _ h4 h5 (i22 _ _ h6 h7 (.inr (i13 _ rfl h8 h9 rfl)))))))))
 refine o11 hM fun R _ hk => ?_
 clear hM
 rename_i hM
 refine merged_T hM rfl (by walk_at "RM") (fun kv e => ?_) fun v e => ?_
 rotate_left
 ·rcases hk with ⟨v', e1, rfl⟩ | ⟨kv, e1, _⟩
  ·obtain rfl := ri e e1; exact h
  ·exact (lr e1 e).elim
 rcases hk with ⟨v', e1, _⟩ | ⟨kv', e1, hc, hk⟩
 ·exact (lr e e1).elim
 obtain rfl := li e e1
 walk_at "T"
 refine TC_get ?_
 rw [show (look (dct kv) (Str.ofString "-code")).getD (.str (Str.ofString "ok")) = .str (S (getK kv nCode nOk)) from look_getK kv nCode nOk]
 walk_at "T"
 refine code_of_T hc rfl (by walk_at "RM") (fun i hi => ?_) fun hi => ?_
 rotate_left
 ·rcases hk with ⟨_, rfl⟩ | ⟨i', hi', _⟩
  ·walk_at "E"; exact h
  ·exact (no hi' hi).elim
 rcases hk with ⟨hi', _⟩ | ⟨i', hi', hl, hk⟩
 ·exact (no hi hi').elim
 obtain rfl := oi hi hi'
 walk_at "T"
 refine TC_get ?_
 rw [show (look (dct kv) (Str.ofString "-level")).getD (.str (Str.ofString "1")) = .str (S (getK kv nLevel [49])) from look_getK kv nLevel [49]]
 walk_at "T"
 refine level_of_T hl rfl (by walk_at "RM") (fun j hj => ?_) fun hj => ?_
 rotate_left
 ·rcases hk with ⟨_, rfl⟩ | ⟨i', hi', _⟩
  ·walk_at "E"; exact h
  ·exact (no hi' hj).elim
 rcases hk with ⟨hi', _⟩ | ⟨j', hi', he, R, s, hs, hs2, hk⟩
 ·exact (no hj hi').elim
 obtain rfl := oi hj hi'
 walk_at "T"
 refine TC_get ?_
 rw [show (look (dct kv) (Str.ofString "-errorcode")).getD (.str (Str.ofString "NONE")) = .str (S (getK kv nEC nNONE)) from look_getK kv nEC nNONE]
 walk_at "T"
 refine list_or_none_T he hs hs2 rfl (by walk_at "RM") ?_
 walk_at "T"
 rcases hk with ⟨rfl, rfl⟩ | ⟨es, rfl, nd, hkl, rfl⟩
 ·refine ite_t rfl ?_
  walk_at "T"
  refine bad_option_T (lit_le (by kernel_rfl!)) (lit_le (by kernel_rfl!)) he rfl (by walk_at "RM") fun e dx => ?_
  exact i32 e dx _ rfl .here h
 refine ite_f rfl ?_
 walk_at "V"
 have rest : ∀ ci lj : Int, EQ Q X st (endOf2 kv ci lj value) → TL (mkCx ["options", "value", "found", "code", "level", "errorcode", "raised", "taken"] [("merged", .ref 235), ("code_of", .ref 207), ("level_of", .ref 242), ("list_or_none", .ref 214), ("bad_option", .ref 221), ("Raised", .ref 33), ("extras_of", .ref 249)] (c.room - 1) o) ⟨[some (.d (.list (ops.map pairD))), some (.d (.str (S value))), some (.fd o.w.params (dct kv)), some (.d (.int ci)), some (.d (.int lj)), some (.d (.str (S (getK kv nEC nNONE)))), none, none], []⟩ ((fdOf 36).2.1.drop 6) K0 (fun fs _ => X fs st.loc) := by
  intro ci lj hh
  have rest2 : ∀ (cc ll rr : Int) e dx, cc = (if lj > 0 then 2 else ci) → ll = (if lj > 0 then lj else 0) → rr = (if lj > 0 then ci else 0) → ¬ (ci = 0 ∧ lj = 0) → TL (mkCx ["options", "value", "found", "code", "level", "errorcode", "raised", "taken"] [("merged", .ref 235), ("code_of", .ref 207), ("level_of", .ref 242), ("list_or_none", .ref 214), ("bad_option", .ref 221), ("Raised", .ref 33), ("extras_of", .ref 249)] (c.room - 1) o) ⟨[some (.d (.list (ops.map pairD))), some (.d (.str (S value))), some (.fd o.w.params (dct kv)), some (.d (.int ci)), some (.d (.int lj)), some (.d (.str (S (getK kv nEC nNONE)))), some (.v (.ref e)), none], [(e, .inst dx (rF (.int cc) (.str (S value)) ecNone (.int ll) (.int rr) (.str "") (.bool false) (.int 0) (.list [])) none)]⟩ ((fdOf 36).2.1.drop 9) K0 (fun fs _ => X fs st.loc) := by
   intro cc ll rr e dx hcc hll hrr hne
   unfold endOf2 at hh
   rw [if_neg hne, ← hcc, ← hll, ← hrr] at hh
   refine TL_c ?_
   walk_at "V"
   refine TE_lmu ?_
   walk_at "V"
   intro tk
   walk_at "V"
   with_reducible refine TL_c ?_
   walk_at "V"
   refine ite_eq (fun q => ?_) fun q => ?_ <;> walk_at "V"
   ·rw [if_pos q, if_pos q, show ownOf ci = [nCode, nLevel, nEC, nEI] by unfold ownOf; rw [if_pos q]] at hh
    with_reducible refine TL_c ?_
    walk_at "V"
    refine TE_lmu ?_
    walk_at "V"
    intro tk2
    walk_at "V"
    refine TC_ext (by walk_at "MO") (by walk_at "MS") (by show (2 : Nat) + 2 ≤ _; exact fg (.le (.a (.c 2) (.c 2)) (.c 1000000)) [] [1] [] rfl [] []) ?_
    walk_at "V"
    with_reducible refine TL_c ?_
    walk_at "V"
    refine set_any (fs' := rF (.int cc) (.str (S value)) (.str (S (getK kv nEC nNONE))) (.int ll) (.int rr) (.str "") (.bool false) (.int 0) (.list [])) pl_errorcode (.there .here) (by show (9 : Nat) < 900; decide) (by kernel_rfl!) ?_
    walk_at "V"
    with_reducible refine TL_c ?_
    walk_at "V"
    refine TC_get ?_
    rw [show (look (dct kv) (Str.ofString "-errorinfo")).getD (.str (Str.ofString "")) = .str (S (getK kv nEI [])) from look_getK kv nEI []]
    walk_at "V"
    refine set_any (fs' := rF (.int cc) (.str (S value)) (.str (S (getK kv nEC nNONE))) (.int ll) (.int rr) (.str (S (getK kv nEI []))) (.bool false) (.int 0) (.list [])) pl_info (.there .here) (by show (9 : Nat) < 900; decide) (by kernel_rfl!) ?_
    walk_at "V"
    with_reducible refine TL_c ?_
    walk_at "V"
    refine TC_freeze2 MuOut.here ?_
    refine extras_of_T (ts := [nCode, nLevel, nEC, nEI]) nd hkl rfl (by walk_at "RM") ?_
    walk_at "V"
    refine set_any (fs' := okF cc value (.str (S (getK kv nEC nNONE))) ll rr (getK kv nEI []) (kv.filter fun p => ![nCode, nLevel, nEC, nEI].contains p.1)) pl_extra .here (by show (9 : Nat) < 900; decide) (by kernel_rfl!) ?_
    walk_at "T"
    exact hh e dx
   ·rw [if_neg q, if_neg q, show ownOf ci = [nCode, nLevel] by unfold ownOf; rw [if_neg q]] at hh
    with_reducible refine TL_c ?_
    walk_at "V"
    refine TC_freeze2 MuOut.here ?_
    refine extras_of_T (ts := [nCode, nLevel]) nd hkl rfl (by walk_at "RM") ?_
    walk_at "V"
    refine set_any (fs' := okF cc value ecNone ll rr [] (kv.filter fun p => ![nCode, nLevel].contains p.1)) pl_extra .here (by show (9 : Nat) < 900; decide) (by kernel_rfl!) ?_
    walk_at "T"
    exact hh e dx
  have rest3 : ¬ (ci = 0 ∧ lj = 0) → TL (mkCx ["options", "value", "found", "code", "level", "errorcode", "raised", "taken"] [("merged", .ref 235), ("code_of", .ref 207), ("level_of", .ref 242), ("list_or_none", .ref 214), ("bad_option", .ref 221), ("Raised", .ref 33), ("extras_of", .ref 249)] (c.room - 1) o) ⟨[some (.d (.list (ops.map pairD))), some (.d (.str (S value))), some (.fd o.w.params (dct kv)), some (.d (.int ci)), some (.d (.int lj)), some (.d (.str (S (getK kv nEC nNONE)))), none, none], []⟩ ((fdOf 36).2.1.drop 7) K0 (fun fs _ => X fs st.loc) := by
   intro hne
   refine TL_c ?_
   walk_at "V"
   refine raised_T2 rfl (by walk_at "RM") fun e dx => ?_
   walk_at "V"
   with_reducible refine TL_c ?_
   walk_at "V"
   refine ite_d (fun q => ?_) fun q => ?_ <;> walk_at "V"
   ·with_reducible refine TL_c ?_
    walk_at "V"
    refine raised_T5 rfl (by walk_at "RM") fun e2 dx2 => ?_
    walk_at "V"
    refine TL_drop (.there .here) ?_
    exact rest2 _ _ _ e2 dx2 (by rw [if_pos q]) (by rw [if_pos q]) (by rw [if_pos q]) hne
   ·exact rest2 _ _ _ e dx (by rw [if_neg q]) (by rw [if_neg q]) (by rw [if_neg q]) hne
  refine TL_c ?_
  walk_at "V"
  refine ite_eq (fun q => ?_) fun q => ?_ <;> walk_at "V"
  ·refine ite_eq (fun q2 => ?_) fun q2 => ?_ <;> walk_at "V"
   ·unfold endOf2 at hh
    rw [if_pos (And.intro q q2)] at hh
    with_reducible refine TL_c ?_
    walk_at "T"
    exact hh
   ·exact rest3 fun k => q2 k.2
  ·exact rest3 fun k => q k.1
 with_reducible refine TL_c ?_
 walk_at "V"
 unfold endOf at h
 refine ite_eq (fun q => ?_) fun q => ?_ <;> walk_at "V"
 ·rw [if_pos q] at h
  with_reducible refine TL_c ?_
  walk_at "V"
  with_reducible refine TL_c ?_
  walk_at "V"
  exact rest 0 (j + 1) h
 ·rw [if_neg q] at h
  exact rest i j h
end
end
section
theorem entry_dul : entryFor table "dict.update.loop" = some Builtin.«dict.update.loop» := entryFor_of_tree (by kernel_rfl)
theorem plain_dul : plainId "dict.update.loop" = true := by decide +kernel
noncomputable def putAll (acc : Kv) : Kv → Kv
 | [] => acc
 | p :: r => putAll (putK acc p.1 p.2) r
theorem putAll_append (a : Kv) (b c : Kv) : putAll a (b ++ c) = putAll (putAll a b) c := by
 induction b generalizing a with
 | nil => rfl
 | cons p r ih => exact ih _
theorem putAll_len : ∀ (r acc : Kv), (putAll acc r).length ≤ acc.length + r.length
 | [], acc => by simp [putAll]
 | p :: r, acc => by
  have := putAll_len r (putK acc p.1 p.2)
  have := @putK_len acc p.1 p.2
  simp only [putAll, List.length_cons]; omega
theorem RD.str_any {G G' : Heap} {x : Str} {v : Value} (r : RD G (.str x) v) : RD G' (.str x) v := by
 refine o10 r.str fun t zz1 => ?_
 subst zz1; exact .of_str
theorem KV.any_heap {G G' : Heap} : ∀ {acc : Kv} {kvv : List (Str × Value)}, KV G (dct acc) kvv → KV G' (dct acc) kvv
 | [], _, h => by cases h; exact .nil
 | p :: acc, _, h => by
  cases h with
  | cons a b => exact .cons a.str_any (KV.any_heap b)
theorem dul_loop {w : World} {A : Around} {G : Heap} {it d : Addr} (hh : A.handled = none) (hgi : G.get? it = none) (hgd : G.get? d = none) (hid : it ≠ d) :
  ∀ (xs acc : Kv) (kvv : List (Str × Value)) (s : Shared) (i : Int) {R : Result → Shared → Prop}, IterAt w G s.heap it (xs.map pairD) → G.StaysIn s.heap → s.heap.DictOf (PySem.strKind pw w) d kvv → KV G (dct acc) kvv → acc.length + xs.length ≤ 1000 →
   (∀ s' kvv', s'.heap.DictOf (PySem.strKind pw w) d kvv' → KV G (dct (putAll acc xs)) kvv' → (∀ b o, b ≠ it → b ≠ d → s.heap.get? b = some o → s'.heap.get? b = some o) → s'.gens = s.gens ∧ s'.os = s.os → R (.ok (.ret .none)) s') →
   codeAny (model pw w) A (.builtin "dict.update.loop" ⟨[.ref d, .ref it, rawInt i, .none], []⟩) R s
 | [], acc, kvv, s, i, R, hit, hG, hd, hkv, hl, hR => by
  refine codeAny_builtin entry_dul ?_
  rw [Around.under_plainId plain_dul _]
  show wpAny _ A.in1 (pyNext (.ref it) >>= _) _ _ s
  refine wpAny_bind (IterAt.done hh hG hit rfl fun s' hs hr => ?_)
  show wpAny _ A.in1 (Builtin.Dict.addKeywords d [] >>= _) _ _ s'
  refine wpAny_bind (wpAny_pure (wpAny_pure (hR s' kvv ?_ hkv (fun b o h1 _ e => hs b o h1 e) hr)))
  refine o31 hd fun o es ep ho q => ?_
  try clear hd
  exact ⟨o, es, ep, hs d o hid.symm ho, q⟩
 | p :: xs, acc, kvv, s, i, R, hit, hG, hd, hkv, hl, hR => by
  refine codeAny_builtin entry_dul ?_
  rw [Around.under_plainId plain_dul _]
  show wpAny _ A.in1 (pyNext (.ref it) >>= _) _ _ s
  refine wpAny_bind (IterAt.item hG hit rfl fun v s' hs hr hv hit' _ => ?_)
  refine o44 hv.tuple fun a o vs n zz1 h1 h2 h3 h4 => ?_
  subst zz1
  refine o22 h4.inv_cons fun kv l1 e1 hk h5 => ?_
  refine o22 h5.inv_cons fun vv l2 e2 hv2 h6 => ?_
  have e3 := h6.inv_nil
  subst e3 e2
  have hG' : G.StaysIn s'.heap := fun b ob e => (hs.2 b (fun q => by rw [q, hgi] at e; cases e)).trans (hG b ob e)
  have hT : s'.TypeIs (.ref a) "tuple" := ⟨o, hG' _ _ h1, h2⟩
  show wpAny _ A.in1 (holding [Value.ref a] _ >>= _) _ _ s'
  refine wpAny_bind (wpAny_holding ?_)
  refine wpAny_bind (wpAny_tryCatch ?_)
  unfold Builtin.Dict.pairItems
  refine wpAny_bind (wpAny_typeOf hT ?_)
  rw [if_pos (by decide)]
  refine wpAny_bind (wpAny_seqItems (hG' _ _ h1) h3 (wpAny_pure ?_))
  show wpAny _ _ (match (vs.toList : List Value) with | [k, v] => _ | l => _) _ _ _
  rw [e1]
  refine o10 hk.str fun t zz1 => ?_
  subst zz1
  show wpAny _ _ (holding [Value.str (S p.1) t, vv] (dictSet d (.str (S p.1) t) vv)) _ _ _
  refine wpAny_holding ?_
  have hd' : s'.heap.DictOf (PySem.strKind pw w) d kvv := by
   refine o31 hd fun o es ep ho q => ?_
   try clear hd
   exact ⟨o, es, ep, (hs.2 d hid.symm).trans ho, q⟩
  have hlen : kvv.length = acc.length := by have := congrArg List.length hkv.keys; simpa [dct] using this
  refine wpAny_dictSet_pairs (strKind_is pw w (S p.1) t) hd' (fun h' hd2 hs2 => ?_) (by rw [sizeLine_eq]; simp only [List.length_cons] at hl; exact fg (.le (.v 2) (.c 16777216)) [.le (.a (.v 0) (.a (.v 1) (.c 1))) (.c 1000),.eq (.v 2) (.v 0)] [1,1,1] [0,1] rfl [_,_,_] [] hl hlen)
  refine wpAny_pure ⟨plainId_quiet plain_dul _, ?_⟩
  have kv' := hkv.put (S p.1) hv2
  rw [putS_dct] at kv'
  refine dul_loop hh hgi hgd hid xs (putK acc p.1 p.2) _ _ (i + 1) (hit'.keep (fun _ _ e => e) fun ob e => (hs2.2 it hid).trans e) (fun b ob e => (hs2.2 b (fun q => by rw [q, hgd] at e; cases e)).trans (hG' b ob e)) hd2 kv' (by have := @putK_len acc p.1 p.2; simp only [List.length_cons] at hl; exact fg (.le (.a (.v 2) (.v 1)) (.c 1000)) [.le (.a (.v 0) (.a (.v 1) (.c 1))) (.c 1000),.le (.v 2) (.a (.v 0) (.c 1))] [1,1,1] [] rfl [_,_,_] [] hl this) fun s2 kvv2 g1 g2 g3 g4 => ?_
  exact hR s2 kvv2 g1 g2 (fun b ob b1 b2 e => g3 b ob b1 b2 ((hs2.2 b b2).trans ((hs.2 b b1).trans e))) ⟨g4.1.trans hr.1, g4.2.trans hr.2⟩
section
variable {c : Cx} {st : St} {X : Flds → List (Option AV) → Prop} {Q : AV → St → Prop}
theorem putAll_nodup : ∀ (r acc : Kv), (acc.map (·.1)).Nodup → ((putAll acc r).map (·.1)).Nodup
 | [], acc, h => h
 | p :: r, acc, h => by
  refine putAll_nodup r _ ?_
  unfold putK
  split
  ·rename_i hc
   rw [List.map_map]
   have : (Prod.fst ∘ fun q : List Nat × List Nat => if q.1 = p.1 then (q.1, p.2) else q) = Prod.fst := by
    funext q; simp only [Function.comp]; split <;> rfl
   rw [this]; exact h
  ·rename_i hc
   rw [List.map_append, List.nodup_append]
   refine i02 h (by simp) (fun a ha b hb e => hc ?_)
   have hb : b = p.1 := by simpa using hb
   refine o11 (List.mem_map.mp ha) fun q hq zz1 => ?_
   subst zz1
   exact List.any_eq_true.mpr (i11 q hq (by simp [e, hb]))
theorem TC_dict_pairs {a : Addr} {kv : Kv} {mu' : List (Addr × AO)} (hm : MuOut st.mu a (.list (kv.map pairD)) mu') (hl : kv.length ≤ 900) (hhd : c.hd = false) (h : Q (.fd c.w.params (dct (putAll [] kv))) st) : TC c st (.type "dict") [.v (.ref a)] Q X := .gr fun s vs r hv W E k => by
 refine o11 hv.one fun v zz1 h1 => ?_
 subst zz1
 obtain rfl : v = .ref a := h1
 refine o02 (out_list r hm) fun r1 t1 q => ?_
 obtain ⟨vs, n, hg, hrd, _⟩ := r.muts _ (by refine o21 hm.split fun l1 l2 e _ => ?_; rw [e]; exact List.mem_append_right _ (.head _))
 dsimp only at hg
 have hL : s.heap.IsList a vs := ⟨_, hg, rfl, n, rfl⟩
 have hand := r.ok.handled hhd
 refine callType_codes (Q₁ := fun obj s₁ => obj = .ref s.heap.objs.size ∧ s₁ = { s with heap := s.heap.push { cls := .type "dict", data := .dict #[] } }) F.kt_called_dict (F.kt_typeCall_dict_1 _) F.entry_dict_init (kt_code_dict_new _ ⟨rfl, rfl⟩) ?_
 rintro obj s₁ ⟨rfl, rfl⟩
 have hnew : (s.heap.push { cls := .type "dict", data := .dict #[] }).DictOf (PySem.strKind pw c.w) s.heap.objs.size [] := Heap.DictOf.new s.heap
 have hg1 : (s.heap.push { cls := .type "dict", data := .dict #[] }).get? a = some { cls := .type "list", data := .seq vs n } := Heap.get?_push_of_some _ hg
 refine i02 hnew.typeIs (F.args_dict_init_2 _ _) ?_
 unfold Builtin.«dict.__init__»
 refine wpAny_bind ?_
 unfold Builtin.Dict.selfAndRest
 refine wpAny_bind (wpAny_notOrdered_dict hnew.typeIs ?_)
 show wpAny _ _ (pure (s.heap.objs.size, [Value.ref a])) _ _ _
 refine wpAny_pure ?_
 show wpAny _ _ (Builtin.Dict.updateFrom "dict.__init__" s.heap.objs.size (.ref a) [] .none) _ _ _
 unfold Builtin.Dict.updateFrom
 have hT1 : (⟨s.heap.push { cls := .type "dict", data := .dict #[] }, s.gens, s.drawn, s.toks, s.os⟩ : Shared).TypeIs (.ref a) "list" := ⟨_, hg1, rfl⟩
 refine wpAny_bind (wpAny_typeOf hT1 ?_)
 rw [if_pos (by decide)]
 generalize hH1 : s.heap.push { cls := .type "dict", data := .dict #[] } = H1 at *
 generalize hd0 : s.heap.objs.size = d at *
 have hds : s.heap.get? d = none := by rw [← hd0]; exact get_new s.heap
 have up1 : s.heap.StaysIn H1 := fun b o e => by rw [← hH1]; exact Heap.get?_push_of_some _ e
 refine wpAny_bind (getAttrQ_miss_list hg1 rfl rfl rfl (by rw [typeLookup_type, builtinLookup_eq_fast]; kernel_rfl) (by decide) hand (fun h2 tk2 up2 => ?_) (by size_fits))
 show wpAny _ _ (if (none : Option Value).isNone = true then _ else _) _ _ _
 rw [if_pos (show (none : Option Value).isNone = true from rfl)]
 refine wpAny_bind (wpAny_rule ?_)
 have hg2 : h2.get? a = some { cls := .type "list", data := .seq vs n } := up2 _ _ hg1
 refine wpAny_bind (wpAny_pyIter_list ⟨_, hg2, rfl, n, rfl⟩ ?_)
 generalize hob : ({ cls := .type "list_iterator", data := .fields #[.ref a, .int 0 0] } : Obj) = ob
 have hob1 : ob.isFreed = false := by rw [← hob]; rfl
 have hob2 : ob.cls = .type "list_iterator" := by rw [← hob]
 have hob3 : ob.data = .fields #[.ref a, .int 0 0] := by rw [← hob]
 have hH3 : ∀ b o, h2.get? b = some o → (h2.push ob).get? b = some o := fun b o e => Heap.get?_push_of_some _ e
 have hitn : h2.get? h2.objs.size = none := get_new h2
 have hitd : h2.objs.size ≠ d := fun e => by
  refine o31 hnew fun o _ _ ho _ => ?_
  try clear hnew
  have := up2 _ _ ho
  rw [← e, hitn] at this; cases this
 have hits : s.heap.get? h2.objs.size = none := by
  cases e : s.heap.get? h2.objs.size with
  | none => rfl
  | some o => have := up2 _ _ (up1 _ _ e); rw [hitn] at this; cases this
 refine wpAny_pure ⟨plainId_quiet plain_dul _, ?_⟩
 have hG : (fz c ⟨st.loc, mu'⟩ s.heap).StaysIn (h2.push ob) := fun b o e => hH3 _ _ (up2 _ _ (up1 _ _ (fz_sub _ _ e)))
 have hfz : ∀ b, s.heap.get? b = none → (fz c ⟨st.loc, mu'⟩ s.heap).get? b = none := fun b e => by
  cases q2 : (fz c ⟨st.loc, mu'⟩ s.heap).get? b with
  | none => rfl
  | some o => have := fz_sub _ _ q2; rw [e] at this; cases this
 refine o44 (RD.list q) fun a' o' vs' n' e' g1 g2 g3 g4 => ?_
 cases e'
 refine dul_loop (w := c.w) (A := c.A.in1) (G := fz c ⟨st.loc, mu'⟩ s.heap) (it := h2.objs.size) (d := d) hand (hfz _ hits) (hfz _ hds) hitd kv [] [] ⟨h2.push ob, s.gens, s.drawn, tk2, s.os⟩ 0 (.list (i := 0) ⟨_, Heap.get?_push_size _ hob1, hob2, hob3⟩ g1 g2 g3 g4) hG ?_ .nil (by simp; exact fg (.le (.v 0) (.c 1000)) [.le (.v 0) (.c 900)] [1,1] [] rfl [_] [] hl) fun s' kvv' w1 w2 w3 w4 => ?_
 ·refine o31 hnew fun o es ep ho qq => ?_
  try clear hnew
  exact ⟨o, es, ep, hH3 _ _ (up2 _ _ ho), qq⟩
 refine ⟨rfl, ?_⟩
 have g : Gr s s' := ⟨fun b o e => w3 b o (fun q => by rw [q, hits] at e; cases e) (fun q => by rw [q, hds] at e; cases e) (hH3 _ _ (up2 _ _ (up1 _ _ e))), w4⟩
 refine o10 w1.dictAt fun ep hd2 => ?_
 have w2' : KV (fz c st s'.heap) (dct (putAll [] kv)) kvv' := w2.any_heap
 refine o12 (Heap.DictAt.ents hd2 w2'.keys w2'.vals) fun es' f1 f2 f3 => ?_
 refine k _ _ _ h g ⟨d, es', ep, rfl, ?_, fz_iff.mpr ⟨f1, not_mem_none r hds⟩, f2, ?_, ?_⟩
 ·rw [← hd0]; exact size_big r
 ·have e : (dct (putAll [] kv)).map (·.1) = ((putAll [] kv).map (·.1)).map S := by simp [dct]
  rw [e]
  exact List.pairwise_map.mpr ((putAll_nodup kv [] .nil).imp fun ne e => ne (S_inj e))
 ·rw [dct_len]; have := putAll_len kv []; simp at this; exact fg (.le (.v 1) (.c 900)) [.le (.v 0) (.c 900),.le (.v 1) (.v 0)] [1,1,1] [] rfl [_,_] [] hl this
end
end
section
section
variable {c : Cx} {st : St} {X : Flds → List (Option AV) → Prop} {Q : AV → St → Prop}
theorem ints_RDs {G : Heap} : ∀ {ns : List Int} {vs : List Value}, RDs G (ns.map .int) vs → ∃ xs : List (Int × Tok), vs = xs.map fun p => .int p.1 p.2
 | [], vs, r => ⟨[], by rw [r.inv_nil]; rfl⟩
 | n :: ns, vs, r => by
  refine o22 r.inv_cons fun v vs' zz1 a b => ?_
  subst zz1
  refine o10 a.int fun t zz1 => ?_
  subst zz1
  refine o10 (ints_RDs b) fun xs zz1 => ?_
  subst zz1
  exact ⟨(n, t) :: xs, rfl⟩
theorem TC_sum {ns : List Int} (hhd : c.hd = false) (h : ∀ i, Q (.d (.int i)) st) : TC c st (.builtin "sum") [.d (.list (ns.map .int))] Q X := .gr fun s vs r hv W E k => by
 refine o11 hv.one fun v zz1 h1 => ?_
 subst zz1
 refine o22 h1.isList fun a ws zz1 h2 h3 => ?_
 subst zz1
 refine o10 (ints_RDs h3) fun xs e => ?_
 have e2 : ws = intItems xs.toArray := by
  rw [← Array.toList_inj, e]; simp [intItems]
 subst e2
 exact sum_intListG (r.ok.handled hhd) h2 fun h' tk t' hk => k _ _ _ (h _) ⟨hk, rfl, rfl⟩ .of_int
theorem adjust_to6 : Builtin.Slice.sliceAdjust none (some 6) 1 7 = (0, 6) := by decide
theorem places_to6 : Builtin.Slice.slicePlaces 0 6 1 = 6 := by decide
theorem sliceApplied_to6 {A : Around} {s : Shared} {E : Value → Shared → Prop} {w : World} {sl : Addr} {u : Tok} {Q : Int × Int × Nat → Shared → Prop} (hs : s.heap.IsSliceOf sl .none (.int 6 u) .none) (h : Q (0, 1, 6) s) :
  wpAny (model pw w) A (Builtin.Slice.sliceApplied (.ref sl) (pure 7)) Q E s := by
 refine o12 (id hs) fun os hos hcs hds => ?_
 unfold Builtin.Slice.sliceApplied Builtin.Slice.sliceFields
 refine wpAny_bind (wpAny_bind (wpAny_field hos hds (x := .none) rfl (wpAny_bind (wpAny_field hos hds (x := .int 6 u) rfl (wpAny_bind (wpAny_field hos hds (x := .none) rfl (wpAny_pure ?_)))))))
 refine wpAny_bind (slicePart_none ?_)
 show wpAny _ _ (if ((1 : Int) == 0) = true then _ else _) _ _ s
 rw [if_neg (by decide)]
 refine wpAny_bind (slicePart_none (wpAny_bind (slicePart_int (wpAny_bind (wpAny_pure ?_)))))
 show wpAny _ _ (match Builtin.Slice.sliceAdjust none (some 6) 1 7 with | (lo, hi) => pure (lo, (1 : Int), Builtin.Slice.slicePlaces lo hi 1)) _ _ s
 rw [adjust_to6]
 show wpAny _ _ (pure ((0 : Int), (1 : Int), Builtin.Slice.slicePlaces 0 6 1)) _ _ s
 rw [places_to6]
 exact wpAny_pure h
theorem Item.tuple_to6 {p0 p1 p2 p3 p4 p5 p6 : PyData} {K : AV → Prop} (h : K (.d (.tuple [p0, p1, p2, p3, p4, p5]))) : Item st (.d (.tuple [p0, p1, p2, p3, p4, p5, p6])) (.slc none (some 6) none) K := fun c s v w r hv hw => by
 refine o44 hw fun b l' u' kk zz1 zz2 e1 e2 e3 => ?_
 try clear hw
 subst zz1
 refine o12 zz2 fun ob hb hb1 hb2 => ?_
 clear zz2
 refine o44 hv.tuple fun a o vs n zz1 h1 h2 h3 h4 => ?_
 subst zz1
 cases l' with
 | some _ => cases e1
 | none =>
 cases kk with
 | some _ => cases e3
 | none =>
 cases u' with
 | none => cases e2
 | some q =>
 obtain ⟨i, u⟩ := q
 have e2 : i = 6 := by simpa using e2
 subst e2
 refine o22 h4.inv_cons fun v0 l0 E0 r0 h5 => ?_
 refine o22 h5.inv_cons fun v1 l1 E1 r1 h6 => ?_
 refine o22 h6.inv_cons fun v2 l2 E2 r2 h7 => ?_
 refine o22 h7.inv_cons fun v3 l3 E3 r3 h8 => ?_
 refine o22 h8.inv_cons fun v4 l4 E4 r4 h9 => ?_
 refine o22 h9.inv_cons fun v5 l5 E5 r5 h10 => ?_
 refine o22 h10.inv_cons fun v6 l6 E6 r6 h11 => ?_
 have E7 := h11.inv_nil
 subst E7 E6 E5 E4 E3 E2 E1
 have hL : IsTup s.heap a vs := ⟨o, fz_sub _ _ h1, h2, n, h3⟩
 have hvs : vs = #[v0, v1, v2, v3, v4, v5, v6] := by rw [← Array.toList_inj, E0]
 have hS : s.heap.IsSliceOf b .none (.int 6 u) .none := ⟨ob, fz_sub _ _ hb, hb1, hb2⟩
 have hTs : s.TypeIs (.ref b) "slice" := ⟨ob, fz_sub _ _ hb, hb1⟩
 refine i22 ("tuple") _ hL.typeIs F.slot_tuple_getitem.lookup (GOp.of_gr fun W E k => ?_)
 unfold getItem
 try with_reducible refine wpAny_holding ?_
 first | refine wpAny_bind (wpAny_pure ?_) | skip
 refine wpAny_bind (wpAny_sequenceKey hL.typeIs (by decide) ?_)
 refine wpAny_bind (wpAny_callSpecial?_slot (name := Str.ofString "__getitem__") hL.typeIs slot_tuple_getitem
  (wpAny_call_entry slot_tuple_getitem hL.typeIs entry_tuple_getitem ?_ (args_tuple_getitem _ _)))
 show wpAny _ _ (Builtin.Tuple.tupleItemsOf (.ref a) >>= _) _ _ s
 refine wpAny_bind (tupleItemsOf_ hL ?_)
 refine wpAny_bind (wpAny_typeOf hTs ?_)
 rw [if_pos (by decide)]
 rw [hvs]
 refine wpAny_bind (sliceApplied_to6 hS ?_)
 show wpAny _ _ (if ((0 : Int) == 0 && (1 : Int) == 1 && (6 : Nat) == 7) = true then _ else _) _ _ s
 rw [if_neg (by decide)]
 have hp : ((List.range 6).filterMap fun (k : Nat) => (#[v0, v1, v2, v3, v4, v5, v6] : Array Value)[((0 : Int) + (k : Int) * 1).toNat]?).toArray = #[v0, v1, v2, v3, v4, v5] := rfl
 rw [hp]
 have fin : W (.ref s.heap.objs.size) { s with heap := s.heap.push { cls := .type "tuple", data := .seq #[v0, v1, v2, v3, v4, v5] } } := by
  have g := Gr.push s { cls := .type "tuple", data := .seq #[v0, v1, v2, v3, v4, v5] }
  refine k _ _ _ h g (RD.of_tuple (fz_iff.mpr ⟨Heap.get?_push_size _ rfl, TE_tuple.not_mem_new r⟩) rfl rfl (RDs.keeps g.fz ?_))
  exact .cons r0 (.cons r1 (.cons r2 (.cons r3 (.cons r4 (.cons r5 .nil)))))
 have hdrop : sizeOk (.seq #[v0, v1, v2, v3, v4, v5]) := by show (6 : Nat) ≤ sizeLine; rw [sizeLine_eq]; decide
 first
  | exact wpAny_bind (m := Builtin.Tuple.tupleExact _) (wpAny_newObj_type (wpAny_pure (i11 _ rfl (wpAny_pure fin))) hdrop)
  | exact wpAny_bind (m := Builtin.Tuple.tupleExact _) (wpAny_newObj_type (wpAny_bind (wpAny_pure (wpAny_pure ⟨_, rfl, wpAny_pure fin⟩))) hdrop)
  | exact wpAny_bind (wpAny_bind (m := Builtin.Tuple.tupleExact _) (wpAny_newObj_type (wpAny_pure (wpAny_pure ⟨_, rfl, wpAny_pure fin⟩)) hdrop))
  | exact wpAny_bind (wpAny_bind (m := Builtin.Tuple.tupleExact _) (wpAny_newObj_type (wpAny_pure ⟨_, rfl, wpAny_pure fin⟩) hdrop))
end
end
section
section
variable {c : Cx} {st : St} {X : Flds → List (Option AV) → Prop} {pos pos' : Pos}
theorem Rel.rep2 {s s' : Shared} {e it : Addr} {p : List Addr} {o0 oe : Obj} (r : Rel c st s) (he : s.heap.get? e = some o0) (he' : s'.heap.get? e = some oe) (hnf : oe.isFreed = false)
  (hs : ∀ b o, b ≠ e → b ≠ it → s.heap.get? b = some o → s'.heap.get? b = some o) (hne : e ≠ it) (h1 : e ∈ c.priv ∧ e ∉ c.ctl ∧ c.base.get? e = Option.none) (h2 : it ∈ c.priv ∧ it ∉ c.ctl ∧ c.base.get? it = Option.none)
  (hp : ∀ a ∈ p, a ∈ c.priv ∧ (s'.heap.get? a).isSome = true) : Rel (c.rep p) st s' ∧ (fz c st s.heap).StaysIn (fz (c.rep p) st s'.heap) := by
 have q1 : (s.heap.update e fun _ => oe).get? e = some oe := Heap.get?_update_self _ he hnf
 have q2 : ∀ b, b ≠ e → (s.heap.update e fun _ => oe).get? b = s.heap.get? b := fun b hb => Heap.get?_update_other _ _ hb.symm
 refine o01 (r.rep (s' := { s with heap := s.heap.update e fun _ => oe }) (it := e) (p := c.priv) (fun b o hb x => (q2 b hb).trans x) (.inl h1) fun a m => ⟨.inl m, by
  show ((s.heap.update e fun _ => oe).get? a).isSome = true
  by_cases q : a = e
  ·rw [q, q1]; rfl
  ·rw [q2 a q]; exact r.live a (.inr (.inr m))⟩) fun r1 f1 => ?_
 refine o01 (r1.rep (s' := s') (it := it) (p := p) (fun b o hb x => by
  have x : (s.heap.update e fun _ => oe).get? b = some o := x
  by_cases q : b = e
  ·rw [q, q1] at x; rw [q, he', x]
  ·rw [q2 b q] at x; exact hs b o q hb x) (.inl h2) fun a m => ⟨.inl (hp a m).1, (hp a m).2⟩) fun r2 f2 => ?_
 exact ⟨r2, fun b o x => f2 b o (f1 b o x)⟩
theorem Tr.but2 {st1 : St} {s s1 s2 : Shared} {e it : Addr} (t : Tr c st s st1 s1) (hs : ∀ b o, b ≠ e → b ≠ it → s1.heap.get? b = some o → s2.heap.get? b = some o) (hl : (s2.heap.get? e).isSome = true ∧ (s2.heap.get? it).isSome = true) (h1 : s.heap.get? e = none) (h2 : s.heap.get? it = none) (hr : s2.gens = s1.gens ∧ s2.os = s1.os) : Tr c st s st1 s2 where
 keep b o x a1 a2 a3 := hs b o (fun q => by rw [q, h1] at x; cases x) (fun q => by rw [q, h2] at x; cases x) (t.keep b o x a1 a2 a3)
 ctl b o x m := let ⟨sl, y⟩ := t.ctl b o x m; ⟨sl, hs b _ (fun q => by rw [q, h1] at x; cases x) (fun q => by rw [q, h2] at x; cases x) y⟩
 fresh := t.fresh
 alive a h := by
  by_cases q : a = e
  ·rw [q]; exact hl.1
  by_cases q' : a = it
  ·rw [q']; exact hl.2
  refine o10 (Option.isSome_iff_exists.mp (t.alive a h)) fun o ho => ?_
  rw [hs a o q q' ho]; rfl
 rest := ⟨hr.1.trans t.rest.1, hr.2.trans t.rest.2⟩
theorem TS_for_enum {vars : List Str} {globs : List (Str × Value)} {room : Nat} {o : Other} {σ : Type} (S : σ → St) (I : Nat → List PyData → σ → Prop) (hF : (mkCx vars globs room o).Fn) {elts : List Expr} {x1} {tpos np cpos : Pos} {e : Expr} {body : List Stmt} {Q : AF → St → Prop}
  (hg : (("enumerate" : Str), Value.type "enumerate") ∈ globs)
  (h : TE (mkCx vars globs room o) st e (fun z st1 => ∃ ps a0, z = .d (.list ps) ∧ ps.length ≤ 1000 ∧ Le (S a0) st1 ∧ I 0 ps a0 ∧
   (∀ o' : Other, o'.w = o.w → (mkCx vars globs room o').Fn → ∀ i x xs a, I i (x :: xs) a → TT (mkCx vars globs room o') (S a) (.Tuple elts x1 tpos) (.d (.tuple [.int (i : Nat), x])) (fun st2 => TL (mkCx vars globs room o') st2 body (ForQ Q S (I (i + 1)) xs) X) X) ∧
   ∀ i a, I i [] a → Q .next (S a)) X)
  (hst : starEach [e] (mkCx vars globs room o).env = (false, eval e (mkCx vars globs room o).env) :: starEach [] (mkCx vars globs room o).env)
  (he : eval (.Call (.Name "enumerate" np) [e] [] cpos) (mkCx vars globs room o).env = (do callWith cpos (← eval (.Name "enumerate" np) (mkCx vars globs room o).env) [] (backTo cpos (starEach [e] (mkCx vars globs room o).env)) (backToKw cpos (keywordEach [] (mkCx vars globs room o).env))))
  (hp : (backTo cpos (starEach [e] (mkCx vars globs room o).env)).any (·.1) = false)
  (hs : ∀ x, foldedSetIterable (.Call (.Name "enumerate" np) [e] [] cpos) (mkCx vars globs room o).env x = pure x) : TS (mkCx vars globs room o) st (.For (.Tuple elts x1 tpos) (.Call (.Name "enumerate" np) [e] [] cpos) body [] pos) Q X := fun s0 r0 => by
 generalize hc : mkCx vars globs room o = c at *
 have hg' : (("enumerate" : Str), Value.type "enumerate") ∈ c.globs := by rw [← hc]; exact hg
 refine PySem.wpAny_For (Call_ ((TE_glob (X := X) (Q := fun a st1 => a = .v (.type "enumerate") ∧ st1 = st) hg' ⟨rfl, rfl⟩).then r0 (.refl ..) fun v a stA sA h1 rA v1 tA => ?_) he) hs
 refine o01 h1 fun zz1 zz2 => ?_
 try clear h1
 subst zz1
 subst zz2
 obtain rfl : v = .type "enumerate" := v1
 have hs' : T RVs c stA (spliced (backTo cpos (starEach [e] c.env))) (fun as st1 => ∃ z, as = [z] ∧ ∃ ps a0, z = .d (.list ps) ∧ ps.length ≤ 1000 ∧ Le (S a0) st1 ∧ I 0 ps a0 ∧
   (∀ o' : Other, o'.w = o.w → (mkCx vars globs room o').Fn → ∀ i x xs a, I i (x :: xs) a → TT (mkCx vars globs room o') (S a) (.Tuple elts x1 tpos) (.d (.tuple [.int (i : Nat), x])) (fun st2 => TL (mkCx vars globs room o') st2 body (ForQ Q S (I (i + 1)) xs) X) X) ∧
   ∀ i a, I i [] a → Q .next (S a)) X := TA_cons (h.conseq (fun z st1 q => TA_nil (i11 z rfl q)) fun _ _ q => q) hst
 refine callWith_T (.inr (.inl ⟨_, rfl⟩)) rA.ok.base hp ?_
 rw [hst] at hs' ⊢
 refine evalArgs_plain (hs'.then rA tA fun vs as st1 s1 zm3 r1 v1 t1' => o11 zm3 fun z e1 zz51 => o25 zz51 fun ps a0 e2 hps hle h0 turn done => ⟨r1.stay, ?_⟩)
 subst e1 e2
 have t1 := tA.trans t1'
 refine o11 (RVs.one v1) fun lv zz1 hlv => ?_
 subst zz1
 refine o44 hlv.list fun l ol ws n zz1 g1 g2 g3 g4 => ?_
 subst zz1
 refine call_enumerate_list (items := ws) ⟨ol, fz_sub _ _ g1, g2, n, g3⟩ fun h' hE hIt hsz hk => ?_
 refine wpAny_pyIter_enum hE ?_
 refine o01 (r1.le hle) fun r1' t1'' => ?_
 have new := get_new s1.heap
 have newE : s1.heap.get? (s1.heap.objs.size + 1) = none := Heap.get?_none_of_le (Nat.le_succ _)
 generalize hen : s1.heap.objs.size + 1 = en at *
 generalize hit0 : s1.heap.objs.size = it at *
 have hne : en ≠ it := by rw [← hen]; exact Nat.succ_ne_self _
 have newS : s0.heap.get? it = none := none_of t1.alive new
 have newES : s0.heap.get? en = none := none_of t1.alive newE
 have notIn : ∀ a, s1.heap.get? a = none → a ∉ c.ctl ∧ c.base.get? a = none ∧ a ∉ c.priv := fun a q => by
  refine i02 (fun m => ?_) ?_ (fun m => ?_)
  ·have := r1.live _ (.inr (.inl m)); rw [q] at this; cases this
  ·cases z : c.base.get? a with
   | none => rfl
   | some o => rw [r1.stay _ _ z] at q; cases q
  ·have := r1.live _ (.inr (.inr m)); rw [q] at this; cases this
 refine o02 (notIn it new) fun nc nb np1 => ?_
 refine o02 (notIn en newE) fun ncE nbE npE => ?_
 have g : Gr s1 { s1 with heap := h' } := ⟨hk, rfl, rfl⟩
 have itS : (h'.get? it).isSome = true := by refine o11 hIt fun o ho _ => ?_; try clear hIt; rw [ho]; rfl
 refine o01 (r1'.rep (s' := { s1 with heap := h' }) (it := it) (p := en :: it :: c.priv) (fun b o _ e => g.keep b o e) (.inr new) fun a m => by
  rcases List.mem_cons.mp m with rfl | m
  ·exact ⟨.inr newE, by rw [hE]; rfl⟩
  rcases List.mem_cons.mp m with rfl | m
  ·exact ⟨.inr new, itS⟩
  ·exact ⟨.inl m, g.alive a (r1.live a (.inr (.inr m)))⟩) fun r2 f2 => ?_
 have t2 : Tr c stA s0 (S a0) { s1 with heap := h' } := (t1.trans t1'').but (it := it) (fun b o _ e => g.keep b o e) newS ⟨rfl, rfl⟩
 have pc := fun (st : St) (s : Shared) => passes (X := X) hF (st := st) (s := s)
 refine codeAny_forLoop_any (fun n s' => ∃ i xs a, xs.length = n ∧ I i xs a ∧ ps.drop i = xs ∧ Rel (c.rep (en :: it :: c.priv)) (S a) s' ∧ Tr c stA s0 (S a) s' ∧ (∃ old, IsEnum s'.heap en it i old) ∧ s'.heap.IsListIter it l i ∧ (fz (c.rep (en :: it :: c.priv)) (S a) s'.heap).get? l = some ol ∧ RDs (fz (c.rep (en :: it :: c.priv)) (S a) s'.heap) ps ws.toList) ?_ ps.length (i38 0 ps a0 rfl h0 rfl r2 t2 ⟨_, hE⟩ hIt (f2 _ _ (t1''.fz _ _ g1)) (g4.keeps fun b o q => f2 b o (t1''.fz b o q)))
 rintro n' s' ⟨i, xs, a, hn, hI, hdrop, r, t, ⟨old, hE'⟩, hIt', hl', hR'⟩
 have hL : s'.heap.IsList l ws := ⟨ol, fz_sub _ _ hl', g2, n, g3⟩
 cases xs with
 | nil =>
  have hx : ws[i]? = none := none_of_RDs hR' (drop_nil' hdrop)
  refine wpAny_pyNext_enum_end (r.ok.handled (by rw [← hc])) hE' hIt' hL hx fun h2 hs2 => ?_
  refine o01 (r.rep (s' := { s' with heap := h2 }) (it := it) (p := c.priv) (fun b o hb e => hs2 b o hb e) (.inl (i02 (.tail _ (.head _)) nc nb)) fun b m => ⟨.inl (.tail _ (.tail _ m)), by
   refine o10 (Option.isSome_iff_exists.mp (r.live b (.inr (.inr (.tail _ (.tail _ m)))))) fun ob2 ho2 => ?_
   show (h2.get? b).isSome = true
   rw [hs2 b ob2 (fun q => np1 (q ▸ m)) ho2]; rfl⟩) fun r3 f3 => ?_
  have t3 := t.but (it := it) (s2 := { s' with heap := h2 }) (fun b o hb e => hs2 b o hb e) newS ⟨rfl, rfl⟩
  refine wpAny_execs_nil ?_
  exact ⟨.next, _, done i a hI, r3, t3, rfl⟩
 | cons x xs =>
  refine o01 (drop_cons hdrop) fun hx1 hx2 => ?_
  refine o11 (getElem_of_RDs hR' hx1) fun v hv hrv => ?_
  refine wpAny_pyNext_enum_item hE' hIt' hL hv hne fun h2 hE2 hIt2 hT2 hsz2 hk2 => ?_
  generalize hTn : s'.heap.objs.size = Tn at *
  have newT : s'.heap.get? Tn = none := by rw [← hTn]; exact get_new _
  have it2S : (h2.get? it).isSome = true := by refine o11 hIt2 fun o ho _ => ?_; try clear hIt2; rw [ho]; rfl
  have alive2 : ∀ b, (s'.heap.get? b).isSome = true → (h2.get? b).isSome = true := fun b hb => by
   by_cases q : b = en
   ·rw [q, hE2]; rfl
   by_cases q' : b = it
   ·rw [q']; exact it2S
   refine o10 (Option.isSome_iff_exists.mp hb) fun o ho => ?_
   rw [hk2 b o q q' ho]; rfl
  refine o01 (Rel.rep2 (p := en :: it :: c.priv) (s' := { s' with heap := h2, toks := s'.toks + 1 }) r hE' hE2 rfl hk2 hne (i02 (.head _) ncE nbE) (i02 (.tail _ (.head _)) nc nb) fun b m => ⟨m, alive2 b (r.live b (.inr (.inr m)))⟩) fun r3 f3 => ?_
  have t3 := t.but2 (e := en) (it := it) (s2 := { s' with heap := h2, toks := s'.toks + 1 }) hk2 ⟨by show (h2.get? en).isSome = true; rw [hE2]; rfl, it2S⟩ newES newS ⟨rfl, rfl⟩
  have hTfz : (fz (c.rep (en :: it :: c.priv)) (S a) h2).get? Tn = some { cls := .type "tuple", data := .seq #[.int (i : Nat) s'.toks, v] } := fz_iff.mpr ⟨hT2, not_mem_none r newT⟩
  have hvT : RV (fz (c.rep (en :: it :: c.priv)) (S a) h2) (.d (.tuple [.int (i : Nat), x])) (.ref Tn) := RD.of_tuple hTfz rfl rfl (RDs.cons .of_int (RDs.cons (hrv.keeps f3) RDs.nil))
  refine wpAny_letOwnedTupleGo_enum hE2 fun h3 hE3 hs3 => ?_
  refine o01 (r3.rep (s' := { s' with heap := h3, toks := s'.toks + 1 }) (it := en) (p := en :: it :: c.priv) (fun b o hb q => (hs3.2 b hb).trans q) (.inl (i02 (.head _) ncE nbE)) fun b m => ⟨.inl m, by
   show (h3.get? b).isSome = true
   by_cases q : b = en
   ·rw [q, hE3]; rfl
   ·rw [hs3.2 b q]; exact r3.live b (.inr (.inr m))⟩) fun r4 f4 => ?_
  have t4 := t3.but (it := en) (s2 := { s' with heap := h3, toks := s'.toks + 1 }) (fun b o hb q => (hs3.2 b hb).trans q) newES ⟨rfl, rfl⟩
  have hIt3 : h3.IsListIter it l (i + 1) := by refine o11 hIt2 fun o ho q => ?_; try clear hIt2; exact ⟨o, (hs3.2 it hne.symm).trans ho, q⟩
  have hF' : (mkCx vars globs room { o with priv := en :: it :: c.priv }).Fn := by
   have := hF
   rw [← hc] at this
   exact ⟨this.1, this.2⟩
  have hturn := turn { o with priv := en :: it :: c.priv } rfl hF' i x xs a hI
  have hcc : mkCx vars globs room { o with priv := en :: it :: c.priv } = c.rep (en :: it :: c.priv) := by rw [← hc]
  rw [hcc] at hturn
  have outOf : ∀ {st2 : St} {s3 : Shared}, Rel (c.rep (en :: it :: c.priv)) st2 s3 → Rel c st2 s3 ∧ (fz (c.rep (en :: it :: c.priv)) st2 s3.heap).StaysIn (fz c st2 s3.heap) := fun {st2 s3} rr => by
   refine o01 (rr.rep (it := en) (s' := s3) (p := it :: c.priv) (fun _ _ _ e => e) (.inl (i02 (.head _) ncE nbE)) fun a m => ⟨.inl (.tail _ m), rr.live a (.inr (.inr (.tail _ m)))⟩) fun rx fx => ?_
   refine o01 (rx.rep (it := it) (s' := s3) (p := c.priv) (fun _ _ _ e => e) (.inl (i02 (.head _) nc nb)) fun a m => ⟨.inl (.tail _ m), rx.live a (.inr (.inr (.tail _ m)))⟩) fun ry fy => ?_
   exact ⟨ry, fun b o q => fy b o (fx b o q)⟩
  have up : ∀ {st2 : St} {s3 : Shared} {ev : Value} {s4 : Shared}, Tr c stA s0 st2 s3 → EPost X (c.rep (en :: it :: c.priv)) st2 s3 ev s4 → EPost X c stA s0 ev s4 := fun tt hh => by
   refine o54 hh fun e dx fs tb loc he hx hfl r t => ?_
   try clear hh
   exact EPost.lift tt ⟨e, dx, fs, tb, loc, he, hx, hfl, (outOf r).1, t.of_rep⟩
  refine wpAny_mono (hturn _ (.ref Tn) r4 (hvT.keeps f4)) (fun _ s5 zm2 => o12 zm2 fun st5 k5 r5 t5 => ?_) fun e s5 hh => pc _ _ _ _ (up t4 hh)
  have t6 := t4.trans t5.of_rep
  refine wpAny_mono (k5 s5 r5) (fun f s6 zm1 => o23 zm1 fun af st6 h6 r6 t7 hf => ?_) fun e s6 hh => pc _ _ _ _ (up t6 hh)
  have t8 := t6.trans t7.of_rep
  have again : (∃ a', Le (S a') st6 ∧ I (i + 1) xs a') → ∃ m, m < n' ∧ ∃ i xs a, xs.length = m ∧ I i xs a ∧ ps.drop i = xs ∧ Rel (c.rep (en :: it :: c.priv)) (S a) s6 ∧ Tr c stA s0 (S a) s6 ∧ (∃ old, IsEnum s6.heap en it i old) ∧ s6.heap.IsListIter it l i ∧ (fz (c.rep (en :: it :: c.priv)) (S a) s6.heap).get? l = some ol ∧ RDs (fz (c.rep (en :: it :: c.priv)) (S a) s6.heap) ps ws.toList := fun zm0 => o11 zm0 fun a' hle' hI' => by
   refine o01 (r6.le hle') fun r7 t9 => ?_
   have t57 := t5.trans (t7.trans t9)
   have kp : ∀ q o2, q = en ∨ q = it → h3.get? q = some o2 → s6.heap.get? q = some o2 := fun q o2 hq hq2 => t57.keep q o2 hq2 (fun m => (r4.ok.ownCtl q m).2 (by rcases hq with rfl | rfl; exact .head _; exact .tail _ (.head _))) (by rcases hq with rfl | rfl; exact ncE; exact nc) fun m => (r4.apart q m).2.2.1 (by rcases hq with rfl | rfl; exact .head _; exact .tail _ (.head _))
   have fzAll : (fz (c.rep (en :: it :: c.priv)) (S a) s'.heap).StaysIn (fz (c.rep (en :: it :: c.priv)) (S a') s6.heap) := fun b o q => t57.fz b o (f4 b o (f3 b o q))
   refine i11 xs.length (by rw [← hn]; exact Nat.lt_succ_self _) (i38 (i + 1) xs a' rfl hI' hx2 r7 (t8.trans t9.of_rep) ⟨_, kp en _ (.inl rfl) hE3⟩ ?_ (fzAll _ _ hl') (hR'.keeps fzAll))
   refine o11 hIt3 fun o2 ho2 q2 => ?_
   try clear hIt3
   exact ⟨o2, kp it o2 (.inr rfl) ho2, q2⟩
  have drop := outOf r6
  cases af with
  | next =>
   obtain rfl : f = .next := hf
   exact again h6
  | cont =>
   obtain rfl : f = .cont := hf
   exact again h6
  | brk =>
   obtain rfl : f = .brk := hf
   exact ⟨.next, st6, h6, drop.1, t8, rfl⟩
  | ret v =>
   obtain ⟨w, rfl, q⟩ : ∃ w, f = .ret w ∧ RV _ v w := hf
   exact ⟨.ret v, st6, h6, drop.1, t8, w, rfl, q.keeps drop.2⟩
inductive Frz (D : Addr) (out : List PyData) : List (Option AV) → List (Option AV) → Prop
 | nil : Frz D out [] []
 | same {a l l'} : Frz D out l l' → Frz D out (a :: l) (a :: l')
 | frz {l l'} : Frz D out l l' → Frz D out (some (.v (.ref D)) :: l) (some (.d (.list out)) :: l')
theorem Frz.at {D : Addr} {out : List PyData} {l l' : List (Option AV)} (h : Frz D out l l') : ∀ (i : Nat) a, l'[i]? = some (some a) → l[i]? = some (some a) ∨ (l[i]? = some (some (.v (.ref D))) ∧ a = .d (.list out)) := by
 induction h with
 | nil => intro i a h; simp at h
 | same _ ih =>
  intro i a h
  cases i with
  | zero => exact .inl (by simpa using h)
  | succ i => simpa using ih i a (by simpa using h)
 | frz _ ih =>
  intro i a h
  cases i with
  | zero => exact .inr ⟨rfl, by simpa using h.symm⟩
  | succ i => simpa using ih i a (by simpa using h)
theorem TL_freeze {D : Addr} {out : List PyData} {loc' : List (Option AV)} {mu' : List (Addr × AO)} {es : List Stmt} {Q : AF → St → Prop} (hm : MuOut st.mu D (.list out) mu') (hl : Frz D out st.loc loc') (h : TL c ⟨loc', mu'⟩ es Q X) : TL c st es Q X := fun s r => by
 refine o02 (out_list r hm) fun r1 t1 q => ?_
 have r2 : Rel c ⟨loc', mu'⟩ s := ⟨r1.ok, r1.stay, r1.ff, r1.live, r1.ns, r1.cells, fun i x a h1 h2 => by
  rcases hl.at i a h2 with h3 | ⟨h3, rfl⟩
  ·exact r1.names i x a h1 h3
  ·refine o11 (r1.names i x _ h1 h3) fun v n e => ?_
   obtain rfl : v = .ref D := e
   exact (i11 _ n q), r1.muts, r1.nodup, r1.apart⟩
 have t2 : Tr c st s ⟨loc', mu'⟩ s := ⟨t1.keep, t1.ctl, t1.fresh, t1.alive, t1.rest⟩
 exact wpAny_mono (h s r2) (fun _ _ p => p.lift t2) fun _ _ p => p.lift t2
theorem swaps_comp {elt iter : Expr} {x y : Str} {px py : Pos} {ifs : List Expr} {scope : Scope} {pos : Pos} {line : Nat} {env : Env} (hk : env.scope.kind = .function) (hy : env.kindOf y = some .local) (hl : py.line = pos.line)
  (hn : (scope.names.any fun (n, k) => n == y && (k == .local || k == .cell)) = false) : swapsWith (.ListComp elt [⟨.Name x px, iter, ifs, 0⟩] scope pos) (some (.Name y py)) line env = pure true := by
 have hbk : env.blockKind = .function := by unfold Env.blockKind; rw [hk]; rfl
 show (pure (env.blockKind == .function && env.kindOf y == some .local && py.line == pos.line && !(scope.names.any fun (n, k) => n == y && (k == .local || k == .cell))) : Sem Bool) = pure true
 rw [hbk, hy, hl, hn]
 simp
end
end
section
theorem enter_law_refusalC {c : Cx} {st : St} {X : Flds → List (Option AV) → Prop} {a0 : AV} {Q : AV → St → Prop} (pas post : List (Addr × AO)) (hmu : st.mu = pas ++ post) (hhd : c.hd = false) (hroom : 1 ≤ c.room)
  (body : ∀ o : Other, o.w = c.w → (mkCx ["options", "fault"] [("end_raised", .ref 256), ("Raised", .ref 33)] (c.room - 1) o []).Fn → o.env.scope = (fdOf 52).2.2 → TL (mkCx ["options", "fault"] [("end_raised", .ref 256), ("Raised", .ref 33)] (c.room - 1) o []) ⟨[some a0, none], pas⟩ (fdOf 52).2.1 (RetQ fun a st' => Q a ⟨st.loc, [] ++ st'.mu ++ post⟩) (fun fs _ => X fs st.loc)) :
  TC c st (.ref 353) [a0] Q X := by
 have h1 : ∀ P, (KF P).lookup 353 = some (fnO "_law_refusal" "_law_refusal" (fdOf 52) (.none) (.str "law_oj0059_01" 548) (.ref 352)) := fun P => by kernel_rfl!
 have h2 : ∀ P, codeIn (KF P) (.ref 352) "_law_refusal" = true := fun P => by kernel_rfl!
 have h3 : ∀ P, scOkC (KF P) (fdOf 52).2.2 ["options", "fault"] [("end_raised", .ref 256), ("Raised", .ref 33)] [] = true := fun P => by kernel_rfl!
 have h4 : (fdOf 52).1 = ⟨[], (fdOf 52).1.args, none, [], [], none, []⟩ := by kernel_rfl!
 have h5 : (fdOf 52).1.args.map (·.arg) = (["options"] : List Str) := by kernel_rfl!
 generalize fdOf 52 = f at *
 exact TC_defC (pre := []) (pas := pas) (post := post) (loc0 := [some a0, none]) (vars := ["options", "fault"]) (ps := ["options"]) (globs := [("end_raised", .ref 256), ("Raised", .ref 33)]) (cv := []) (nm := "_law_refusal") (qual := "_law_refusal") (f := f) (pm := .str "law_oj0059_01" 548) (cd := .ref 352)
  h1 h2 h3 hhd hroom hmu h4 h5 (by decide) (i11 ["fault"] rfl rfl) rfl body
theorem swap_attr2 {a b : Expr} {x y : Str} {p q tpos vpos : Pos} {v1 v2 : Expr} {x1 x2} {env : Env} : swappedStores [.Tuple [.Attribute a x p, .Attribute b y q] x1 tpos] (.Tuple [v1, v2] x2 vpos) env = pure none := by
 unfold swappedStores
 dsimp only
 split
 ·rfl
 split
 ·rfl
 rfl
theorem swap_cell3 {a b d : Str} {p q r tpos vpos : Pos} {v1 v2 v3 : Expr} {x1 x2} {env : Env} (h : env.kindOf a = some .cell ∨ env.kindOf b = some .cell ∨ env.kindOf d = some .cell) : swappedStores [.Tuple [.Name a p, .Name b q, .Name d r] x1 tpos] (.Tuple [v1, v2, v3] x2 vpos) env = pure none := by
 unfold swappedStores
 dsimp only
 split
 ·rfl
 split
 ·rfl
 have key : ∀ (f : Expr → Option Str) (e1 e2 e3 : Expr), (f e1 = none ∨ f e2 = none ∨ f e3 = none) → (([e1, e2, e3].filterMap f).length != 3) = true := fun f e1 e2 e3 hh => by
  cases h1 : f e1 <;> cases h2 : f e2 <;> cases h3 : f e3 <;> simp_all
 rw [if_pos]
 rw [Bool.or_eq_true]
 left
 refine key _ _ _ _ ?_
 rcases h with h | h | h
 ·left; show (if (env.kindOf a == some .local && _) = true then some a else none) = none; rw [h]; rfl
 ·right; left; show (if (env.kindOf b == some .local && _) = true then some b else none) = none; rw [h]; rfl
 ·right; right; show (if (env.kindOf d == some .local && _) = true then some d else none) = none; rw [h]; rfl
section
variable {c : Cx} {st : St} {X : Flds → List (Option AV) → Prop} {Q : AV → St → Prop} {pos : Pos}
theorem TC_perm {f : Value} {as : List AV} {mu' : List (Addr × AO)} (h : st.mu.Perm mu') (k : TC c ⟨st.loc, mu'⟩ f as Q X) : TC c st f as Q X := fun s vs r hv => by
 refine o01 (r.perm h) fun r1 t1 => ?_
 refine wpAny_mono (k s vs r1 (hv.keeps t1.fz)) (fun _ _ p => p.lift t1) fun _ _ p => p.lift t1
theorem TE_add_mu {l r : Expr} (h : TE c st l (fun x st1 => TE c st1 r (fun y st2 => ∃ ps qs, x = .d (.list ps) ∧ y = .d (.list qs) ∧ ps.length + qs.length ≤ 1000 ∧ ∀ a, Q (.v (.ref a)) ⟨st2.loc, (a, .list (ps ++ qs)) :: st2.mu⟩) X) X) : TE c st (.BinOp l .Add r pos) Q X := fun s hs =>
 wpAny_BinOp (h.then hs (.refl ..) fun va x st1 s1 h1 r1 v1 t1 => h1.then r1 t1 fun vb y st2 s2 zm0 r2 v2 t2 => o23 zm0 fun ps qs e1 e2 hl k => by
  subst e1 e2
  have w1 := v1.keeps t2.fz
  refine o44 (RD.list w1) fun a o vs n zz1 g1 g2 g3 g4 => ?_
  subst zz1
  refine o44 (RD.list v2) fun b o' vs' n' zz1 g1' g2' g3' g4' => ?_
  subst zz1
  obtain ⟨cls, dd, data, sl⟩ := o
  obtain ⟨cls', dd', data', sl'⟩ := o'
  simp only at g2 g3 g2' g3'
  subst g2 g3 g2' g3'
  have e := g4.size; have e' := g4'.size
  have g := Gr.push s2 { cls := .type "list", data := .seq (vs ++ vs') }
  have nm := TE_tuple.not_mem_new r2
  have key := r2.change (s' := { s2 with heap := s2.heap.push { cls := .type "list", data := .seq (vs ++ vs') } }) (mu' := (s2.heap.objs.size, .list (ps ++ qs)) :: st2.mu) (fun b o e _ _ _ => g.keep b o e) (fun b o e _ => ⟨o.slots, g.keep b o e⟩) g.alive ⟨rfl, rfl⟩
   (fun a m => by
    rcases List.mem_append.mp (show a ∈ [s2.heap.objs.size] ++ madd st2.mu from m) with m | m
    ·rw [List.mem_singleton.mp m]; exact ⟨.inr (get_new _), by rw [Heap.get?_push_size _ rfl]; rfl⟩
    ·refine ⟨.inl m, ?_⟩
     refine o10 (Option.isSome_iff_exists.mp (r2.apart a m).2.2.2.2) fun o ho => ?_
     rw [g.keep a o ho]; rfl)
   (by show (s2.heap.objs.size :: madd st2.mu).Nodup; exact List.nodup_cons.mpr ⟨nm.2.2.2, r2.nodup⟩)
   (fun fzs p hp => by
    rcases List.mem_cons.mp hp with rfl | hp
    ·exact ⟨vs ++ vs', 0, Heap.get?_push_size _ rfl, by simpa using (g4.keeps fzs).append (g4'.keeps fzs), by simp; exact fg (.le (.a (.v 0) (.v 1)) (.c 1000000)) [.le (.a (.v 0) (.v 1)) (.c 1000)] [1,1] [] rfl [_,_] [] hl⟩
    ·exact (r2.muts p hp).lift fzs fun x _ o e => g.keep x o e)
  exact concat_meets ⟨_, fz_sub _ _ g1, rfl⟩ ⟨_, fz_sub _ _ g1', rfl⟩ noFill_list_add seq_list_add PySem.F.slot_list_add PySem.F.entry_list_add (PySem.F.args_list_add_2 _ _) (list_addW a b vs vs' n n' dd dd' sl sl' (by rw [sizeLine_eq]; exact fg (.le (.a (.v 2) (.v 3)) (.c 16777216)) [.le (.a (.v 0) (.v 1)) (.c 1000),.eq (.v 2) (.v 0),.eq (.v 3) (.v 1)] [1,1,1,1] [] rfl [_,_,_,_] [] hl e e')) (i02 (fz_sub _ _ g1) (fz_sub _ _ g1') ⟨_, _, k s2.heap.objs.size, key.1, (t1.trans t2).trans key.2, rfl⟩))
end
end
section
theorem bare_rest {r : List Nat} (h : openEnd r = true) : bareN r = some ([], 0) := by
 cases r with
 | nil => rfl
 | cons ch t => exact bareN_blank h
theorem blank_iff {ch : Nat} : blank ch = true ↔ ch = 32 ∨ ch = 9 ∨ ch = 10 ∨ ch = 11 ∨ ch = 12 ∨ ch = 13 := by
 unfold blank; simp
theorem blank_false {ch : Nat} : blank ch = false ↔ ch ≠ 32 ∧ ch ≠ 9 ∧ ch ≠ 10 ∧ ch ≠ 11 ∧ ch ≠ 12 ∧ ch ≠ 13 := by
 unfold blank; simp
theorem escN_cases (ch : Nat) (deep : Bool) : (∃ d, escN ch deep = [92, d] ∧ esc d = some ch) ∨ (escN ch deep = [ch] ∧ blank ch = false ∧ ch ≠ 92 ∧ ch ≠ 34 ∧ (deep = true → ch ≠ 123)) := by
 unfold escN
 by_cases h1 : ch = 12
 ·subst h1; exact .inl (i11 102 rfl rfl)
 by_cases h2 : ch = 10
 ·subst h2; exact .inl (i11 110 rfl rfl)
 by_cases h3 : ch = 13
 ·subst h3; exact .inl (i11 114 rfl rfl)
 by_cases h4 : ch = 9
 ·subst h4; exact .inl (i11 116 rfl rfl)
 by_cases h5 : ch = 11
 ·subst h5; exact .inl (i11 118 rfl rfl)
 rw [if_neg h1, if_neg h2, if_neg h3, if_neg h4, if_neg h5]
 by_cases h6 : ([93, 91, 36, 59, 32, 92, 34].contains ch || (deep && (ch == 123 || ch == 125))) = true
 ·rw [if_pos h6]
  refine .inl (i11 ch rfl ?_)
  rcases (Bool.or_eq_true _ _).mp h6 with h7 | h7
  ·rw [List.contains_iff_mem] at h7
   simp only [List.mem_cons, List.not_mem_nil, or_false] at h7
   rcases h7 with rfl | rfl | rfl | rfl | rfl | rfl | rfl <;> rfl
  ·rw [Bool.and_eq_true, Bool.or_eq_true, beq_iff_eq, beq_iff_eq] at h7
   rcases h7.2 with rfl | rfl <;> rfl
 ·rw [if_neg h6]
  rw [Bool.not_eq_true, Bool.or_eq_false_iff] at h6
  refine o01 h6 fun h7 h8 => ?_
  try clear h6
  simp only [List.contains_cons, List.contains_nil, Bool.or_eq_false_iff, beq_eq_false_iff_ne, and_true] at h7
  refine o06 h7 fun _ _ _ _ k1 k2 k3 => ?_
  try clear h7
  refine .inr (i04 rfl (blank_false.mpr (i05 k1 h4 h2 h5 h1 h3)) k2 k3 (fun e q => ?_))
  subst e q
  simp at h8
theorem bare_esc {deep : Bool} : ∀ (l : List Nat) {r : List Nat}, openEnd r = true → bareN (l.flatMap (escN · deep) ++ r) = some (l, (l.flatMap (escN · deep)).length)
 | [], r, h => bare_rest h
 | ch :: l, r, h => by
  rw [List.flatMap_cons, List.append_assoc]
  rcases escN_cases ch deep with ⟨d, e1, e2⟩ | ⟨e1, e2, e3, _⟩
  ·rw [e1]
   show bareN (92 :: d :: (l.flatMap _ ++ r)) = _
   rw [bareN_esc, e2, bare_esc l h]
   simp
  ·rw [e1]
   show bareN (ch :: (l.flatMap _ ++ r)) = _
   rw [bareN_ch e2 e3, bare_esc l h]
   simp
theorem bare_plain : ∀ (l : List Nat) {r : List Nat}, (∀ ch ∈ l, blank ch = false ∧ ch ≠ 92) → openEnd r = true → bareN (l ++ r) = some (l, l.length)
 | [], r, _, h => bare_rest h
 | ch :: l, r, hl, h => by
  refine o01 (hl ch (.head _)) fun h1 h2 => ?_
  rw [List.cons_append, bareN_ch h1 h2, bare_plain l (fun x hx => hl x (.tail _ hx)) h]
  rfl
theorem modeGo_skip {h b wb we : Bool} {d s : Nat} {l : List Nat} (h1 : ¬ s = 92) (h2 : ¬ s = 123) (h3 : ¬ s = 125) : ∃ b' wb' we', modeGo h b wb we d (s :: l) = modeGo h b' wb' we' d l := by
 by_cases h4 : s = 93 ∨ s = 34
 ·exact i30 _ _ _ (modeGo_we h4)
 by_cases h5 : s = 91 ∨ s = 36 ∨ s = 59 ∨ blank s = true
 ·exact i30 _ _ _ (modeGo_wb h1 h2 h3 h4 h5)
 ·exact i30 _ _ _ (modeGo_ch h1 h2 h3 h4 h5)
theorem brace_mode {r : List Nat} : ∀ (n : Nat) (l : List Nat), l.length ≤ n → ∀ {h b wb we : Bool} {d : Nat}, modeGo h b wb we d l ≠ .escape → bracedN (d + 1) (l ++ 125 :: r) = some l.length
 | n, [], _, h, b, wb, we, d, hm => by
  rw [modeGo_nil] at hm
  unfold modeEnd at hm
  by_cases q : d > 0
  ·rw [if_pos q] at hm; exact absurd rfl hm
  ·obtain rfl : d = 0 := by exact fe (.v 0) (.c 0) [.nlt (.c 0) (.v 0)] [1,0] [1] [1,1] [] rfl [_] [] q
   show bracedN 1 (125 :: r) = _
   rw [bracedN_125, if_pos rfl]; rfl
 | 0, _ :: _, hn, _, _, _, _, _, _ => by simp at hn
 | n + 1, ch :: l, hn, h, b, wb, we, d, hm => by
  have hn' : l.length ≤ n := by simpa using hn
  rw [List.cons_append]
  by_cases h2 : ch = 123
  ·subst h2
   rw [modeGo_123] at hm
   rw [bracedN_123, brace_mode n l hn' hm]; rfl
  by_cases h3 : ch = 125
  ·subst h3
   rw [modeGo_125] at hm
   by_cases q : d = 0
   ·rw [if_pos q] at hm; exact absurd rfl hm
   ·rw [if_neg q] at hm
    rw [bracedN_125, if_neg (by exact fun z => q (Nat.succ.inj z))]
    have := brace_mode (r := r) n l hn' hm
    rw [show d - 1 + 1 = d + 1 - 1 from Nat.sub_add_cancel (Nat.pos_of_ne_zero q)] at this
    rw [this]; rfl
  by_cases h1 : ch = 92
  ·subst h1
   cases l with
   | nil => rw [modeGo_92n] at hm; exact absurd rfl hm
   | cons s l =>
    rw [modeGo_92] at hm
    rw [List.cons_append, bracedN_esc]
    have hn2 : l.length ≤ n := by simp at hn'; exact fg (.le (.v 0) (.v 1)) [.le (.a (.v 0) (.c 1)) (.v 1)] [1,1] [] rfl [_,_] [] hn'
    by_cases q1 : s = 10
    ·rw [if_pos q1] at hm; exact absurd rfl hm
    rw [if_neg q1] at hm
    by_cases q2 : s = 123 ∨ s = 125 ∨ s = 92
    ·rw [if_pos q2] at hm
     rw [brace_mode n l hn2 hm]; rfl
    ·rw [if_neg q2] at hm
     refine o30 (modeGo_skip (h := h) (b := true) (wb := true) (we := we) (d := d) (s := s) (l := l) (fun z => q2 (.inr (.inr z))) (fun z => q2 (.inl z)) (fun z => q2 (.inr (.inl z)))) fun b' wb' we' e => ?_
     rw [e] at hm
     rw [brace_mode n l hn2 hm]; rfl
  ·refine o30 (modeGo_skip (h := h) (b := b) (wb := wb) (we := we) (d := d) (s := ch) (l := l) h1 h2 h3) fun b' wb' we' e => ?_
   rw [e] at hm
   rw [bracedN_ch h1 h2 h3, brace_mode n l hn' hm]; rfl
theorem mode_b : ∀ (n : Nat) (l : List Nat), l.length ≤ n → ∀ {h wb we : Bool} {d : Nat}, modeGo h true wb we d l ≠ .none
 | n, [], _, h, wb, we, d => by
  rw [modeGo_nil]; unfold modeEnd
  split
  ·simp
  ·rw [if_pos rfl]; split <;> simp
 | 0, _ :: _, hn, _, _, _, _ => by simp at hn
 | n + 1, ch :: l, hn, h, wb, we, d => by
  have hn' : l.length ≤ n := by simpa using hn
  by_cases h2 : ch = 123
  ·subst h2; rw [modeGo_123]; exact mode_b n l hn'
  by_cases h3 : ch = 125
  ·subst h3; rw [modeGo_125]; split
   ·simp
   ·exact mode_b n l hn'
  by_cases h1 : ch = 92
  ·subst h1
   cases l with
   | nil => rw [modeGo_92n]; simp
   | cons s l =>
    rw [modeGo_92]
    split
    ·simp
    split
    ·exact mode_b n l (by simp at hn'; exact fg (.le (.v 0) (.v 1)) [.le (.a (.v 0) (.c 1)) (.v 1)] [1,1] [] rfl [_,_] [] hn')
    ·exact mode_b n _ hn'
  by_cases h4 : ch = 93 ∨ ch = 34
  ·rw [modeGo_we h4]; exact mode_b n l hn'
  by_cases h5 : ch = 91 ∨ ch = 36 ∨ ch = 59 ∨ blank ch = true
  ·rw [modeGo_wb h1 h2 h3 h4 h5]; exact mode_b n l hn'
  ·rw [modeGo_ch h1 h2 h3 h4 h5]; exact mode_b n l hn'
theorem mode_none : ∀ (l : List Nat) {h b wb we : Bool} {d : Nat}, modeGo h b wb we d l = .none → b = false ∧ ∀ ch ∈ l, blank ch = false ∧ ch ≠ 92
 | [], h, b, wb, we, d, hm => by
  refine ⟨?_, fun _ q => nomatch q⟩
  cases b with
  | false => rfl
  | true => exact absurd hm (mode_b 0 [] (Nat.le_refl _))
 | ch :: l, h, b, wb, we, d, hm => by
  have hb : b = false := by
   cases b with
   | false => rfl
   | true => exact absurd hm (mode_b _ _ (Nat.le_refl _))
  refine ⟨hb, ?_⟩
  have cons : (blank ch = false ∧ ch ≠ 92) → (∀ x ∈ l, blank x = false ∧ x ≠ 92) → ∀ x ∈ ch :: l, blank x = false ∧ x ≠ 92 := fun a k x hx => (List.mem_cons.mp hx).elim (fun e => e ▸ a) (k x)
  by_cases h2 : ch = 123
  ·subst h2; rw [modeGo_123] at hm; exact cons ⟨rfl, by decide⟩ (mode_none l hm).2
  by_cases h3 : ch = 125
  ·subst h3
   rw [modeGo_125] at hm
   by_cases q : d = 0
   ·rw [if_pos q] at hm; cases hm
   ·rw [if_neg q] at hm; exact cons ⟨rfl, by decide⟩ (mode_none l hm).2
  by_cases h1 : ch = 92
  ·subst h1
   cases l with
   | nil => rw [modeGo_92n] at hm; cases hm
   | cons s l =>
    rw [modeGo_92] at hm
    by_cases q1 : s = 10
    ·rw [if_pos q1] at hm; cases hm
    rw [if_neg q1] at hm
    by_cases q2 : s = 123 ∨ s = 125 ∨ s = 92
    ·rw [if_pos q2] at hm; exact absurd hm (mode_b _ _ (Nat.le_refl _))
    ·rw [if_neg q2] at hm; exact absurd hm (mode_b _ _ (Nat.le_refl _))
  by_cases h4 : ch = 93 ∨ ch = 34
  ·rw [modeGo_we h4] at hm; exact absurd hm (mode_b _ _ (Nat.le_refl _))
  by_cases h5 : ch = 91 ∨ ch = 36 ∨ ch = 59 ∨ blank ch = true
  ·rw [modeGo_wb h1 h2 h3 h4 h5] at hm; exact absurd hm (mode_b _ _ (Nat.le_refl _))
  ·rw [modeGo_ch h1 h2 h3 h4 h5] at hm
   exact cons ⟨by rw [← Bool.not_eq_true]; exact fun q => h5 (.inr (.inr (.inr q))), h1⟩ (mode_none l hm).2
theorem mode_wb : ∀ (n : Nat) (l : List Nat), l.length ≤ n → ∀ {h b we : Bool} {d : Nat}, modeGo h b true we d l ≠ .mask
 | n, [], _, h, b, we, d => by
  rw [modeGo_nil]; unfold modeEnd
  split
  ·simp
  ·split
   ·rw [if_neg (by simp)]; simp
   ·split <;> simp
 | 0, _ :: _, hn, _, _, _, _ => by simp at hn
 | n + 1, ch :: l, hn, h, b, we, d => by
  have hn' : l.length ≤ n := by simpa using hn
  by_cases h2 : ch = 123
  ·subst h2; rw [modeGo_123]; exact mode_wb n l hn'
  by_cases h3 : ch = 125
  ·subst h3; rw [modeGo_125]; split
   ·simp
   ·exact mode_wb n l hn'
  by_cases h1 : ch = 92
  ·subst h1
   cases l with
   | nil => rw [modeGo_92n]; simp
   | cons s l =>
    rw [modeGo_92]
    split
    ·simp
    split
    ·exact mode_wb n l (by simp at hn'; exact fg (.le (.v 0) (.v 1)) [.le (.a (.v 0) (.c 1)) (.v 1)] [1,1] [] rfl [_,_] [] hn')
    ·exact mode_wb n _ hn'
  by_cases h4 : ch = 93 ∨ ch = 34
  ·rw [modeGo_we h4]; exact mode_wb n l hn'
  by_cases h5 : ch = 91 ∨ ch = 36 ∨ ch = 59 ∨ blank ch = true
  ·rw [modeGo_wb h1 h2 h3 h4 h5]; exact mode_wb n l hn'
  ·rw [modeGo_ch h1 h2 h3 h4 h5]; exact mode_wb n l hn'
noncomputable def findGo (k : Nat) (r : List Nat) : FRes := match r with
 | [] => .none
 | 123 :: r => (match bracedN 1 r with
  | Option.none => .bad
  | some m => if openEnd (r.drop (m + 1)) then .ok (r.take m) (k + m + 2) else .unk)
 | 34 :: _ => .unk
 | r => (match bareN r with
  | some (e, n) => .ok e (k + n)
  | Option.none => .unk)
theorem findN_go (l : List Nat) : findN l = findGo (l.takeWhile blank).length (l.dropWhile blank) := rfl
theorem findGo_bare {k c0 : Nat} {t : List Nat} (h2 : c0 ≠ 123) (h3 : c0 ≠ 34) : findGo k (c0 :: t) = match bareN (c0 :: t) with
  | some (e, n) => .ok e (k + n)
  | Option.none => .unk := by
 unfold findGo
 split
 ·rename_i q; cases q
 ·rename_i q; cases q; exact absurd rfl h2
 ·rename_i q; cases q; exact absurd rfl h3
 ·rfl
theorem findGo_shift {k : Nat} : ∀ r : List Nat, findGo (k + 1) r = match findGo k r with | .ok e n => .ok e (n + 1) | x => x
 | [] => rfl
 | c0 :: r => by
  by_cases h2 : c0 = 123
  ·subst h2
   show (match bracedN 1 r with | Option.none => FRes.bad | some m => if openEnd (r.drop (m + 1)) = true then .ok (r.take m) (k + 1 + m + 2) else .unk) = match (match bracedN 1 r with | Option.none => FRes.bad | some m => if openEnd (r.drop (m + 1)) = true then .ok (r.take m) (k + m + 2) else .unk) with | .ok e n => .ok e (n + 1) | x => x
   cases bracedN 1 r with
   | none => rfl
   | some m =>
    dsimp only
    by_cases h : openEnd (r.drop (m + 1)) = true
    ·rw [if_pos h, if_pos h]
     show FRes.ok _ _ = FRes.ok _ _
     congr 1; exact fe (.a (.a (.a (.v 0) (.c 1)) (.v 1)) (.c 2)) (.a (.a (.a (.v 0) (.v 1)) (.c 2)) (.c 1)) [] [1] [] [1] [] rfl [_,_] []
    ·rw [if_neg h, if_neg h]
  by_cases h3 : c0 = 34
  ·subst h3; rfl
  rw [findGo_bare h2 h3, findGo_bare h2 h3]
  cases bareN (c0 :: r) with
  | none => rfl
  | some p =>
   show FRes.ok _ _ = FRes.ok _ _
   congr 1; exact fe (.a (.a (.v 0) (.c 1)) (.v 1)) (.a (.a (.v 0) (.v 1)) (.c 1)) [] [1] [] [1] [] rfl [_,_] []
theorem find_bare {c0 : Nat} {t e : List Nat} {n : Nat} (h1 : blank c0 = false) (h2 : c0 ≠ 123) (h3 : c0 ≠ 34) (hb : bareN (c0 :: t) = some (e, n)) : findN (c0 :: t) = .ok e n := by
 rw [findN_go, dropWhile_cons_false h1, List.takeWhile_cons, if_neg (by rw [h1]; decide), findGo_bare h2 h3, hb]
 show FRes.ok _ _ = FRes.ok _ _
 congr 1
 exact Nat.zero_add n
theorem find_brace {l r : List Nat} (hb : bracedN 1 (l ++ 125 :: r) = some l.length) (hr : openEnd r = true) : findN (123 :: l ++ [125] ++ r) = .ok l (l.length + 2) := by
 have e : 123 :: l ++ [125] ++ r = 123 :: (l ++ 125 :: r) := by simp
 rw [e, findN_go, dropWhile_cons_false rfl, List.takeWhile_cons, if_neg (by decide)]
 show (match bracedN 1 (l ++ 125 :: r) with | Option.none => FRes.bad | some m => if openEnd ((l ++ 125 :: r).drop (m + 1)) = true then .ok ((l ++ 125 :: r).take m) (0 + m + 2) else .unk) = _
 rw [hb]
 have e2 : (l ++ 125 :: r).drop (l.length + 1) = r := by
  rw [show l ++ 125 :: r = (l ++ [125]) ++ r by simp, List.drop_append_of_le_length (by simp), List.drop_of_length_le (by simp)]; rfl
 dsimp only
 rw [e2, if_pos hr, List.take_append_of_le_length (Nat.le_refl _), List.take_length]
 simp
theorem find_blank {b : Nat} {t : List Nat} (hb : blank b = true) : findN (b :: t) = match findN t with | .ok e n => .ok e (n + 1) | x => x := by
 rw [findN_go, findN_go, dropWhile_cons_true hb, List.takeWhile_cons, if_pos hb, List.length_cons]
 exact findGo_shift _
theorem escN_first {ch : Nat} {deep : Bool} (h : deep = true ∨ ch ≠ 123) : ∃ c0 t, escN ch deep = c0 :: t ∧ blank c0 = false ∧ c0 ≠ 123 ∧ c0 ≠ 34 := by
 rcases escN_cases ch deep with ⟨d, e1, _⟩ | ⟨e1, e2, e3, e4, e5⟩
 ·exact i23 92 [d] e1 rfl (by decide) (by decide)
 ·exact i23 ch [] e1 e2 (h.elim e5 id) e4
theorem find_esc {hash deep : Bool} {l r : List Nat} (hl : l ≠ []) (h : deep = true ∨ l.head? ≠ some 123) (hr : openEnd r = true) :
  findN ((if hash && l.head? == some 35 then [92] else []) ++ l.flatMap (escN · deep) ++ r) = .ok l ((if hash && l.head? == some 35 then [92] else []) ++ l.flatMap (escN · deep)).length := by
 refine o20 (List.exists_cons_of_ne_nil hl) fun ch l' zz1 => ?_
 subst zz1
 by_cases hh : (hash && (ch :: l').head? == some 35) = true
 ·rw [if_pos hh]
  obtain rfl : ch = 35 := by simp at hh; exact hh.2
  have e : ∀ d : Bool, escN 35 d = [35] := fun d => by cases d <;> rfl
  rw [List.flatMap_cons, e]
  refine find_bare (t := 35 :: (l'.flatMap (escN · deep)) ++ r) rfl (by decide) (by decide) ?_
  show bareN (92 :: 35 :: (l'.flatMap _ ++ r)) = _
  rw [bareN_esc, bare_esc l' hr]
  rfl
 ·rw [if_neg hh, List.nil_append]
  have hb := bare_esc (deep := deep) (ch :: l') hr
  refine o23 (escN_first (ch := ch) (deep := deep) (h.imp id fun q e => q (by rw [e]; rfl))) fun c0 t e1 e2 e3 e4 => ?_
  rw [List.flatMap_cons, e1] at hb ⊢
  exact find_bare e2 e3 e4 hb
theorem find_quote {h : Bool} {l r : List Nat} (hr : openEnd r = true) : findN (quoteN h l ++ r) = .ok l (quoteN h l).length := by
 have hq : quoteN h l = match modeN h l with
  | .none => l
  | .brace => 123 :: l ++ [125]
  | .mask => (if h && l.head? == some 35 then [92] else []) ++ l.flatMap (escN · false)
  | .escape => (if h && l.head? == some 35 then [92] else []) ++ l.flatMap (escN · true) := rfl
 cases l with
 | nil =>
  have : quoteN h [] = 123 :: [] ++ [125] := rfl
  rw [this]
  exact find_brace (l := []) (by rw [List.nil_append, bracedN_125, if_pos rfl]; rfl) hr
 | cons c0 l =>
  have hm : modeN h (c0 :: l) = modeGo (h && c0 == 35) (c0 == 123 || c0 == 34) ((c0 == 123 || c0 == 34) || (h && c0 == 35)) false 0 (c0 :: l) := rfl
  cases hmd : modeN h (c0 :: l) with
  | none =>
   rw [hmd] at hq hm
   refine o01 (mode_none _ hm.symm) fun h1 h2 => ?_
   rw [Bool.or_eq_false_iff, beq_eq_false_iff_ne, beq_eq_false_iff_ne] at h1
   rw [hq]
   exact find_bare (h2 c0 (.head _)).1 h1.1 h1.2 (bare_plain (c0 :: l) h2 hr)
  | brace =>
   rw [hmd] at hq hm
   rw [hq]
   have := find_brace (l := c0 :: l) (brace_mode (r := r) (d := 0) _ (c0 :: l) (Nat.le_refl _) (by rw [← hm]; simp)) hr
   rw [this]
   simp
  | mask =>
   rw [hmd] at hq hm
   rw [hq]
   refine find_esc (by simp) (.inr fun e => ?_) hr
   obtain rfl : c0 = 123 := by simpa using e
   exact mode_wb _ _ (Nat.le_refl _) hm.symm
  | escape =>
   rw [hmd] at hq
   rw [hq]
   exact find_esc (by simp) (.inl rfl) hr
theorem find_sp {h : Bool} {l r : List Nat} (hr : openEnd r = true) : findN (32 :: (quoteN h l ++ r)) = .ok l ((quoteN h l).length + 1) := by
 rw [find_blank rfl, find_quote hr]
noncomputable def tailT (items : List (List Nat)) : List Nat := items.flatMap fun x => 32 :: quoteN false x
theorem tailT_cons (x : List Nat) (xs : List (List Nat)) : tailT (x :: xs) = 32 :: quoteN false x ++ tailT xs := rfl
theorem open_tail {items : List (List Nat)} {e : List Nat} (he : openEnd e = true) : openEnd (tailT items ++ e) = true := by
 cases items with
 | nil => exact he
 | cons x xs => rfl
theorem split_tail {e : List Nat} {R0 : Option (List (List Nat))} {s0 : Nat} (he : openEnd e = true) (hE : ∀ pre : List Nat, SplitAt (pre ++ e) pre.length R0 s0) : ∀ (items : List (List Nat)) (pre : List Nat), SplitAt (pre ++ (tailT items ++ e)) pre.length (R0.map (items ++ ·)) (s0 + items.length)
 | [], pre => by
  have := hE pre
  cases R0 <;> exact this
 | x :: xs, pre => by
  have ih := split_tail he hE xs (pre ++ 32 :: quoteN false x)
  have hd : (pre ++ (tailT (x :: xs) ++ e)).drop pre.length = 32 :: (quoteN false x ++ (tailT xs ++ e)) := by
   rw [List.drop_left]; simp [tailT_cons]
  have hf : findN ((pre ++ (tailT (x :: xs) ++ e)).drop pre.length) = .ok x ((quoteN false x).length + 1) := by
   rw [hd]; exact find_sp (open_tail he)
  have hl : pre ++ (tailT (x :: xs) ++ e) = pre ++ 32 :: quoteN false x ++ (tailT xs ++ e) := by simp [tailT_cons]
  have hlen : (pre ++ 32 :: quoteN false x).length = pre.length + ((quoteN false x).length + 1) := by simp
  rw [← hl, hlen] at ih
  have := SplitAt.ok hf (by rw [hl, List.length_append, hlen]; exact fg (.le (.a (.v 0) (.a (.v 1) (.c 1))) (.a (.a (.v 0) (.a (.v 1) (.c 1))) (.v 2))) [] [1] [0,0,1] rfl [_,_,_] []) ih
  rw [show (R0.map ((x :: xs) ++ ·)) = (R0.map (xs ++ ·)).map (x :: ·) by cases R0 <;> rfl]
  exact this
theorem intercal_tail : ∀ (q : List Nat) (xs : List (List Nat)), intercal [32] (q :: quoteAll false xs) = q ++ tailT xs
 | q, [] => by simp [intercal, quoteAll, tailT]
 | q, x :: xs => by
  show q ++ [32] ++ intercal [32] (quoteN false x :: quoteAll false xs) = _
  rw [intercal_tail _ xs, tailT_cons]; simp
theorem join_cons (x : List Nat) (xs : List (List Nat)) : joinN (x :: xs) = quoteN true x ++ tailT xs := intercal_tail _ xs
theorem split_join_with {e : List Nat} {R0 : Option (List (List Nat))} {s0 : Nat} (he : openEnd e = true) (hE : ∀ pre : List Nat, SplitAt (pre ++ e) pre.length R0 s0) : ∀ items : List (List Nat), SplitAt (joinN items ++ e) 0 (R0.map (items ++ ·)) (s0 + items.length)
 | [] => by
  have := hE []
  cases R0 <;> exact this
 | x :: xs => by
  have ih := split_tail he hE xs (quoteN true x)
  have hl : joinN (x :: xs) ++ e = quoteN true x ++ (tailT xs ++ e) := by rw [join_cons]; simp
  have hf : findN ((joinN (x :: xs) ++ e).drop 0) = .ok x (quoteN true x).length := by
   rw [List.drop_zero, hl]; exact find_quote (open_tail he)
  rw [← hl] at ih
  have := SplitAt.ok (a := 0) hf (by rw [hl, List.length_append]; exact fg (.le (.a (.c 0) (.v 0)) (.a (.v 0) (.v 1))) [] [1] [0,1] rfl [_,_] []) (by rw [Nat.zero_add]; exact ih)
  rw [show (R0.map ((x :: xs) ++ ·)) = (R0.map (xs ++ ·)).map (x :: ·) by cases R0 <;> rfl]
  exact this
theorem split_join (items : List (List Nat)) : SplitAt (joinN items) 0 (some items) items.length := by
 have := split_join_with (e := []) (R0 := some []) (s0 := 0) rfl (fun pre => .done (by rw [List.append_nil, List.drop_length]; rfl)) items
 simpa using this
theorem split_join_bad (items : List (List Nat)) : SplitAt (joinN items ++ [32, 123]) 0 none items.length := by
 have := split_join_with (e := [32, 123]) (R0 := none) (s0 := 0) rfl (fun pre => .bad (by rw [List.drop_left]; rfl)) items
 simpa using this
theorem split_shift {l : List Nat} {a : Nat} {R : Option (List (List Nat))} {s : Nat} (pre : List Nat) (h : SplitAt l a R s) : SplitAt (pre ++ l) (pre.length + a) R s := by
 have hd : ∀ a, (pre ++ l).drop (pre.length + a) = l.drop a := fun a => by rw [← List.drop_drop, List.drop_left]
 induction h with
 | done h => exact .done (by rw [hd]; exact h)
 | bad h => exact .bad (by rw [hd]; exact h)
 | ok h1 h2 _ ih => exact .ok (by rw [hd]; exact h1) (by rw [List.length_append]; exact fg (.le (.a (.a (.v 3) (.v 0)) (.v 1)) (.a (.v 3) (.v 2))) [.le (.a (.v 0) (.v 1)) (.v 2)] [1,1] [] rfl [_,_,_,_] [] h2) (by rw [Nat.add_assoc]; exact ih)
theorem split_sp {l : List Nat} {R : Option (List (List Nat))} {s : Nat} (h : SplitAt l 0 R s) : SplitAt (32 :: l) 0 R s := by
 generalize ha : 0 = a at h
 cases h with
 | done h => subst ha; exact .done (by show findN (32 :: l) = _; rw [find_blank rfl, show findN l = .none from h])
 | bad h => subst ha; exact .bad (by show findN (32 :: l) = _; rw [find_blank rfl, show findN l = .bad from h])
 | @ok _ e n r s h1 h2 h3 =>
  subst ha
  have := split_shift [32] h3
  refine .ok (e := e) (n := n + 1) (by show findN (32 :: l) = _; rw [find_blank rfl, show findN l = .ok e n from h1]) (by simp; exact fg (.le (.v 0) (.v 1)) [.le (.a (.c 0) (.v 0)) (.v 1)] [1,1] [] rfl [_,_] [] h2) ?_
  rw [show 0 + (n + 1) = [32].length + (0 + n) by simp; exact fe (.a (.v 0) (.c 1)) (.a (.c 1) (.v 0)) [] [1] [] [1] [] rfl [_] []]
  exact this
end
section
noncomputable def figs (n : Nat) : List Nat := (Nat.toDigits 10 n).map Char.toNat
theorem figs_range {n c : Nat} (h : c ∈ figs n) : 48 ≤ c ∧ c ≤ 57 := by
 refine o11 (List.mem_map.mp h) fun ch hch e => ?_
 have r := digit_range (Nat.isDigit_of_mem_toDigits (by decide) (by decide) hch)
 rw [← e]; exact r
theorem figs_len {n : Nat} (h : n < 10 ^ 13) : (figs n).length ≤ 13 := by
 unfold figs; rw [List.length_map]; exact digits10_le (by decide) h
theorem figs_ne (n : Nat) : figs n ≠ [] := by
 intro e
 have h := tDigits_len_ge 10 n
 rw [List.map_eq_nil_iff.mp e] at h
 exact absurd h (by decide)
theorem figs_val (n : Nat) : (figs n).foldl (fun acc c => acc * 10 + (c - 48)) 0 = n := PySem.W.KIN.val_back n
theorem istr_nat (n : Nat) : istr (n : Int) = figs n := PySem.W.KIN.signs_num n
theorem istr_neg (n : Nat) : istr (-((n + 1 : Nat) : Int)) = 45 :: figs (n + 1) := by
 unfold istr
 rw [signs_ofString]
 show ("-" ++ Nat.repr (n + 1)).toList.map Char.toNat = _
 rw [String.toList_append, List.map_append, Nat.toList_repr]
 rfl
theorem digitN_fig {c : Nat} (h : 48 ≤ c ∧ c ≤ 57) : digitN c = ((c - 48 : Nat) : Int) := by
 unfold digitN; rw [if_pos h]; exact (Int.ofNat_sub h.1).symm
theorem digitsGo_figs : ∀ (l : List Nat) (acc : Nat), (∀ c ∈ l, 48 ≤ c ∧ c ≤ 57) → digitsGo 10 (acc : Int) l = some ((l.foldl (fun acc c => acc * 10 + (c - 48)) acc : Nat) : Int)
 | [], acc, _ => rfl
 | c :: l, acc, h => by
  have hc := h c (.head _)
  rw [digitsGo, digitN_fig hc, if_neg (by exact fun z => z.elim (fun z => absurd z (Int.not_lt.mpr (Int.natCast_nonneg _))) fun z => absurd z (Int.not_le.mpr (Int.ofNat_lt.mpr (Nat.lt_of_le_of_lt (Nat.sub_le_sub_right hc.2 48) (by decide)))))]
  have := digitsGo_figs l (acc * 10 + (c - 48)) fun x hx => h x (.tail _ hx)
  rw [List.foldl_cons, ← this]
  rfl
theorem digitsN_figs (n : Nat) : digitsN 10 (figs n) = some (n : Int) := by
 unfold digitsN
 rw [if_neg (figs_ne n)]
 have := digitsGo_figs (figs n) 0 fun c hc => figs_range hc
 rw [figs_val] at this
 exact this
theorem baseN_fig {c : Nat} (h : 48 ≤ c ∧ c ≤ 57) : baseN c = 0 := by
 unfold baseN
 rw [if_neg (by exact fun z => by rcases z with rfl | rfl <;> exact absurd h.2 (by decide)), if_neg (by exact fun z => by rcases z with rfl | rfl <;> exact absurd h.2 (by decide)), if_neg (by exact fun z => by rcases z with rfl | rfl <;> exact absurd h.2 (by decide)), if_neg (by exact fun z => by rcases z with rfl | rfl <;> exact absurd h.2 (by decide))]
theorem markN_figs {l : List Nat} (h : ∀ c ∈ l, 48 ≤ c ∧ c ≤ 57) : markN l = 0 := by
 unfold markN
 split
 ·rename_i b x y
  exact baseN_fig (h b (.tail _ (.head _)))
 ·rfl
theorem dropWhile_nb {l : List Nat} (h : ∀ c ∈ l, blank c = false) : l.dropWhile blank = l := by
 cases l with
 | nil => rfl
 | cons a l => rw [List.dropWhile_cons, if_neg (by rw [h a (.head _)]; decide)]
theorem stripB_nb {l : List Nat} (h : ∀ c ∈ l, blank c = false) : stripB l = l := by
 unfold stripB
 rw [dropWhile_nb h, dropWhile_nb (fun c hc => h c (List.mem_reverse.mp hc)), List.reverse_reverse]
theorem fig_nb {c : Nat} (h : 48 ≤ c ∧ c ≤ 57) : blank c = false := by rw [blank_false]; refine (i05 ?_ ?_ ?_ ?_ ?_ ?_) <;> rintro rfl <;> exact absurd h.1 (by decide)
theorem whole_figs (n : Nat) : wholeN (figs n) = some (n : Int) := by
 have h := fun c hc => @figs_range n c hc
 refine o20 (List.exists_cons_of_ne_nil (figs_ne n)) fun c0 l hl => ?_
 have hs : signN (figs n) = (false, figs n) := by
  rw [hl] at h ⊢
  have := h c0 (.head _)
  unfold signN
  split
  ·rename_i e; cases e; exact absurd this.1 (by decide)
  ·rename_i e; cases e; exact absurd this.1 (by decide)
  ·rfl
 unfold wholeN
 rw [stripB_nb fun c hc => fig_nb (h c hc), hs]
 dsimp only
 rw [markN_figs h, if_neg (by decide), digitsN_figs]
 rfl
theorem whole_neg (n : Nat) : wholeN (45 :: figs n) = some (-(n : Int)) := by
 have h := fun c hc => @figs_range n c hc
 have hb : ∀ c ∈ 45 :: figs n, blank c = false := fun c hc => by
  rcases List.mem_cons.mp hc with rfl | hc
  ·rfl
  ·exact fig_nb (h c hc)
 unfold wholeN
 rw [stripB_nb hb, show signN (45 :: figs n) = (true, figs n) from rfl]
 dsimp only
 rw [markN_figs h, if_neg (by decide), digitsN_figs]
 rfl
theorem whole_istr (i : Int) : wholeN (istr i) = some i := by
 rcases Int.le_total 0 i with h | h
 ·refine o10 (Int.eq_ofNat_of_zero_le h) fun n zz1 => ?_
  subst zz1
  rw [istr_nat, whole_figs]
 ·refine o10 (Int.eq_ofNat_of_zero_le (show 0 ≤ -i by exact fg (.ile (.c 0) (.g (.v 0))) [.ile (.v 0) (.c 0)] [1,1] [] rfl [] [_] h)) fun n hn => ?_
  cases n with
  | zero =>
   obtain rfl : i = ((0 : Nat) : Int) := by exact fi (.v 0) (.n (.c 0)) [.ieq (.g (.v 0)) (.n (.c 0)),.iqe (.g (.v 0)) (.n (.c 0))] [1,1,0] [] [1,0,1] [] rfl [] [_] hn hn
   rw [istr_nat, whole_figs]
  | succ n =>
   obtain rfl : i = -((n + 1 : Nat) : Int) := by exact fi (.v 0) (.g (.n (.a (.v 0) (.c 1)))) [.ieq (.g (.v 0)) (.n (.a (.v 0) (.c 1))),.iqe (.g (.v 0)) (.n (.a (.v 0) (.c 1)))] [1,1,0] [] [1,0,1] [] rfl [_] [_] hn hn
   rw [istr_neg, whole_neg]
theorem istr_head (i : Int) : ∃ c l, istr i = c :: l ∧ c ≤ 57 := by
 rcases Int.le_total 0 i with h | h
 ·refine o10 (Int.eq_ofNat_of_zero_le h) fun n zz1 => ?_
  subst zz1
  refine o20 (List.exists_cons_of_ne_nil (figs_ne n)) fun c0 l hl => ?_
  exact i21 c0 l ((istr_nat n).trans hl) ((figs_range (by rw [hl]; exact .head _)).2)
 ·refine o10 (Int.eq_ofNat_of_zero_le (show 0 ≤ -i by exact fg (.ile (.c 0) (.g (.v 0))) [.ile (.v 0) (.c 0)] [1,1] [] rfl [] [_] h)) fun n hn => ?_
  cases n with
  | zero =>
   obtain rfl : i = ((0 : Nat) : Int) := by exact fi (.v 0) (.n (.c 0)) [.ieq (.g (.v 0)) (.n (.c 0)),.iqe (.g (.v 0)) (.n (.c 0))] [1,1,0] [] [1,0,1] [] rfl [] [_] hn hn
   refine o20 (List.exists_cons_of_ne_nil (figs_ne 0)) fun c0 l hl => ?_
   exact i21 c0 l ((istr_nat 0).trans hl) ((figs_range (by rw [hl]; exact .head _)).2)
  | succ n =>
   obtain rfl : i = -((n + 1 : Nat) : Int) := by exact fi (.v 0) (.g (.n (.a (.v 0) (.c 1)))) [.ieq (.g (.v 0)) (.n (.a (.v 0) (.c 1))),.iqe (.g (.v 0)) (.n (.a (.v 0) (.c 1)))] [1,1,0] [] [1,0,1] [] rfl [_] [_] hn hn
   exact i21 45 _ (istr_neg n) (by decide)
theorem code_istr (i : Int) : codeN (istr i) = some i := by
 refine o21 (istr_head i) fun c l h hc => ?_
 have ne : ∀ {b : Nat} {m : List Nat}, 57 < b → istr i ≠ b :: m := fun hb e => by rw [h] at e; cases e; exact fm [.le (.v 0) (.c 57),.lt (.c 57) (.v 0)] [1,1] [] rfl [_] [] hc hb
 unfold codeN
 rw [if_neg (show ¬ istr i = nOk from ne (by decide)), if_neg (show ¬ istr i = nError from ne (by decide)), if_neg (show ¬ istr i = nReturn from ne (by decide)), if_neg (show ¬ istr i = nBreak from ne (by decide)), if_neg (show ¬ istr i = nContinue from ne (by decide)), whole_istr]
theorem level_istr {i : Int} (h : 0 ≤ i) : levelN (istr i) = some i := by
 unfold levelN
 rw [whole_istr]
 dsimp only
 rw [if_neg (by exact fg (.inlt (.v 0) (.c 0)) [.ile (.c 0) (.v 0)] [1,1] [] rfl [] [_] h)]
theorem istr_len {i : Int} (h : i.natAbs < 10 ^ 13) : (istr i).length ≤ 14 := by
 rcases Int.le_total 0 i with h0 | h0
 ·refine o10 (Int.eq_ofNat_of_zero_le h0) fun n zz1 => ?_
  subst zz1
  rw [istr_nat]; exact Nat.le_trans (figs_len h) (by decide)
 ·refine o10 (Int.eq_ofNat_of_zero_le (show 0 ≤ -i by exact fg (.ile (.c 0) (.g (.v 0))) [.ile (.v 0) (.c 0)] [1,1] [] rfl [] [_] h0)) fun n hn => ?_
  cases n with
  | zero =>
   obtain rfl : i = ((0 : Nat) : Int) := by exact fi (.v 0) (.n (.c 0)) [.ieq (.g (.v 0)) (.n (.c 0)),.iqe (.g (.v 0)) (.n (.c 0))] [1,1,0] [] [1,0,1] [] rfl [] [_] hn hn
   rw [istr_nat]; exact Nat.le_trans (figs_len (by decide)) (by decide)
  | succ n =>
   obtain rfl : i = -((n + 1 : Nat) : Int) := by exact fi (.v 0) (.g (.n (.a (.v 0) (.c 1)))) [.ieq (.g (.v 0)) (.n (.a (.v 0) (.c 1))),.iqe (.g (.v 0)) (.n (.a (.v 0) (.c 1)))] [1,1,0] [] [1,0,1] [] rfl [_] [_] hn hn
   rw [istr_neg, List.length_cons]
   have := @figs_len (n + 1) (h)
   exact fg (.le (.a (.v 0) (.c 1)) (.c 14)) [.le (.v 0) (.c 13)] [1,1] [] rfl [_] [] this
theorem istr_ok {i : Int} (h : i.natAbs < 10 ^ 13) : istrOk i := by
 unfold istrOk
 by_cases h0 : i.natAbs = 0
 ·rw [h0]; decide
 ·have := (Nat.log2_lt h0 (k := 64)).mpr (Nat.lt_trans h (by decide))
  exact fg (.lt (.v 0) (.c 1920)) [.lt (.v 0) (.c 64)] [1,1] [] rfl [_] [] this
end
section
noncomputable def PN (n : Int) (ns : List Int) : AO := .list (.int n :: ns.map .int)
noncomputable def PenOk (p : AO) : Prop := ∃ n ns, p = PN n ns
theorem noPylong {i j : Int} (h : j.natAbs.log2 < 6000) : Builtin.divisionGoesByPylong i j = false := by
 unfold Builtin.divisionGoesByPylong
 have : ¬ ((if (j == 0) = true then 0 else j.natAbs.log2 / 30 + 1) > 300) := by split <;> omega
 simp only [this, decide_false, Bool.false_and]
section
variable {c : Cx} {st : St} {X : Flds → List (Option AV) → Prop} {Q : AV → St → Prop}
theorem law_take_T {pa : Addr} {p : AO} {l : List (Addr × AO)} {many : Int} (hp : PenOk p) (hmu : st.mu = (pa, p) :: l) (hm : 0 < many) (hb : many.natAbs.log2 < 6000) (hhd : c.hd = false) (hr : 1 ≤ c.room)
  (h : ∀ d p', 0 ≤ d → d < many → PenOk p' → Q (.d (.int d)) ⟨st.loc, (pa, p') :: l⟩) : TC c st (.ref 263) [.v (.ref pa), .d (.int many)] Q X := by
 refine o20 hp fun n ns zz1 => ?_
 try clear hp
 subst zz1
 refine enter_law_take [(pa, PN n ns)] l hmu hhd hr fun o ho hF => ?_
 with_reducible refine' absN ?e fun K0 hK0 => ?_
 case e => exact rfl
 have main : ∀ (g : Int) (ns' : List Int), TL (mkCx ["pen", "many", "given", "drawn"] [("len", .builtin "len")] (c.room - 1) o) ⟨[some (.v (.ref pa)), some (.d (.int many)), some (.d (.int g)), none], [(pa, PN n ns')]⟩ ((fdOf 38).2.1.drop 1) K0 (fun fs _ => X fs st.loc) := by
  intro g ns'
  refine TL_c ?_
  unfold PN
  walk_at "T"
  refine Item.mu (by walk_at "MA") (by decide) rfl ?_
  walk_at "T"
  refine Bin.mod_int (by omega) ?_
  walk_at "T"
  refine Item.mu (by walk_at "MA") (by decide) rfl ?_
  walk_at "T"
  refine Bin.div_int (by omega) (noPylong hb) ?_
  walk_at "T"
  refine setitm_list (by walk_at "MS") (by decide) (by simp) rfl ?_
  walk_at "T"
  walk_at "E"; exact h _ (PN (n.fdiv many) ns') (Int.fmod_nonneg_of_pos _ hm) (Int.fmod_lt_of_pos _ hm) ⟨_, _, rfl⟩
 unfold PN
 walk_at "V"
 refine TC_len_mu (by walk_at "MA") ?_
 walk_at "V"
 refine ite_d (fun q => ?_) fun q => ?_ <;> walk_at "V"
 ·cases ns with
  | nil => simp at q
  | cons m ns =>
   refine TC_pp (qs := .int n :: ns.map .int) (i := 1) (p := .int m) (by walk_at "MS") (by decide) rfl rfl ?_
   walk_at "V"
   exact main m ns
 ·exact main 0 ns
end
end
section
noncomputable def Vd (l : List Nat) : Prop := ∀ c ∈ l, c < 1114112
noncomputable def OkT (t : List Nat) : Prop := t.length ≤ 3 ∧ Vd t
theorem Vd.snoc {l : List Nat} {c : Nat} (h : Vd l) (hc : c < 1114112) : Vd (l ++ [c]) := fun x hx => (List.mem_append.mp hx).elim (h x) fun q => by rw [List.mem_singleton.mp q]; exact hc
noncomputable def NumOk (i : Int) : Prop := (5 ≤ i ∨ i ≤ -1) ∧ -1000000000000 ≤ i ∧ i ≤ 1000000000000
section
variable {c : Cx} {st : St} {X : Flds → List (Option AV) → Prop} {Q : AV → St → Prop}
theorem law_number_T {pa : Addr} {p : AO} {l : List (Addr × AO)} (hp : PenOk p) (hmu : st.mu = (pa, p) :: l) (hhd : c.hd = false) (hr : 2 ≤ c.room)
  (h : ∀ i p', NumOk i → PenOk p' → Q (.d (.int i)) ⟨st.loc, (pa, p') :: l⟩) : TC c st (.ref 289) [.v (.ref pa)] Q X := by
 refine enter_law_number [(pa, p)] l hmu hhd (rm0 hr rfl) fun o ho hF => ?_
 with_reducible refine' absN ?e fun K0 hK0 => ?_
 case e => exact rfl
 walk_at "T"
 refine Bin.pow_int (by decide) (by decide) ?_
 walk_at "T"
 refine law_take_T hp rfl (by decide) (by decide) rfl (by walk_at "RM") fun d p' h0 h1 hp' => ?_
 walk_at "T"
 refine Bin.mod_int (by decide) ?_
 walk_at "T"
 have h1 : d < 1000000000000 := h1
 have e : d.fdiv 2 = d / 2 := Int.fdiv_eq_ediv_of_nonneg _ (by decide)
 refine ite_eq (fun q => ?_) fun q => ?_ <;> walk_at "T"
 ·refine Bin.div_int (by decide) (noPylong (by decide)) ?_
  walk_at "T"
  rw [e]
  walk_at "E"; exact h _ p' ⟨by omega, by omega, by omega⟩ hp'
 ·refine Bin.div_int (by decide) (noPylong (by decide)) ?_
  walk_at "T"
  rw [e]
  walk_at "E"; exact h _ p' ⟨by omega, by omega, by omega⟩ hp'
theorem rangeSize01 {d : Int} (h0 : 0 ≤ d) : Builtin.Range.rangeSize 0 d 1 = d.toNat := by
 refine o10 (Int.eq_ofNat_of_zero_le h0) fun n zz1 => ?_
 subst zz1
 rw [rangeSize1]; rfl
theorem small01 {d : Int} (h0 : 0 ≤ d) (h1 : d ≤ 100000) : Builtin.Range.small 0 d 1 = true := by
 refine o10 (Int.eq_ofNat_of_zero_le h0) fun n zz1 => ?_
 subst zz1
 exact small1 (by exact fg (.le (.v 0) (.c 100000)) [.ile (.n (.v 0)) (.c 100000)] [1,1] [] rfl [_] [] h1)
theorem law_text_T {pa : Addr} {p : AO} {l : List (Addr × AO)} (hp : PenOk p) (hmu : st.mu = (pa, p) :: l) (hhd : c.hd = false) (hr : 2 ≤ c.room)
  (h : ∀ t p', OkT t → PenOk p' → Q (.d (.str (S t))) ⟨st.loc, (pa, p') :: l⟩) : TC c st (.ref 277) [.v (.ref pa)] Q X := by
 refine enter_law_text [(pa, p)] l hmu hhd (rm0 hr rfl) fun o ho hF => ?_
 with_reducible refine' absN ?e fun K0 hK0 => ?_
 case e => exact rfl
 walk_at "V"
 with_reducible refine TL_c (TS_sq (fun st1 => ∃ t p' x y z, OkT t ∧ PenOk p' ∧ st1 = ⟨[some (.v (.ref pa)), some (.d (.str (S t))), x, y, z], [(pa, p')]⟩) (fun K2 hK2 => ?_) fun st1 => exI fun t => exI fun p' => exI fun x => exI fun y => exI fun z => aiI fun h1 => aiI fun h2 => fun e1 => ?_)
 ·refine TS_fr (S := fun σ : List Nat × AO × Option AV × Option AV × Option AV => ⟨[some (.v (.ref pa)), some (.d (.str (S σ.1))), σ.2.2.1, σ.2.2.2.1, σ.2.2.2.2], [(pa, σ.2.1)]⟩)
   (I := fun xs σ => PenOk σ.2.1 ∧ Vd σ.1 ∧ ∃ a n, xs = rangeL a 1 n ∧ σ.1.length + n ≤ 3) hF ?_ (by intro _; rfl)
  walk_at "T"
  refine law_take_T hp rfl (by decide) (by decide) rfl (by walk_at "RM") fun d p' h0 h1 hp' => ?_
  walk_at "T"
  refine TC_range1 ?_
  walk_at "T"
  refine i24 _ ([], p', none, none, none) (Iters.rng (n := d.toNat) (small01 h0 (by exact fg (.ile (.v 0) (.c 100000)) [.ilt (.v 0) (.c 4)] [1,1] [] rfl [] [_] h1)) (rangeSize01 h0)) (show Le ⟨[some (.v (.ref pa)), some (.d (.str "")), none, none, none], [(pa, p')]⟩ _ by walk_at "LE") (i02 hp' (fun _ q => nomatch q) (i21 _ _ rfl (by simp; exact fg (.ile (.v 0) (.c 3)) [.ilt (.v 0) (.c 4)] [1,1] [] rfl [] [_] h1))) (fun o' ho'' hF' x xs σ hI K1 hK1 => ?_) (fun σ hI => ?_)
  ·refine o02 hI fun hpk hvd zz1 => ?_
   try clear hI
   refine o21 zz1 fun a n hx hl => ?_
   clear zz1
   cases n with
   | zero => cases hx
   | succ n =>
    obtain ⟨rfl, rfl⟩ : x = .int a ∧ xs = rangeL (a + 1) 1 n := by
     have := List.cons.inj hx; exact ⟨this.1, this.2⟩
    walk_at "T"
    refine law_take_T hpk rfl (by decide) (by decide) rfl (by walk_at "RM") fun d2 p2 h0 h1 hp2 => ?_
    walk_at "T"
    refine ite_eq (fun q => ?_) fun q => ?_ <;> walk_at "T"
    ·refine law_take_T hp2 rfl (by decide) (by decide) rfl (by walk_at "RM") fun d3 p3 h0 h1 hp3 => ?_
     walk_at "T"
     refine ite_d (fun q => ?_) fun q => ?_ <;> walk_at "T"
     all_goals
      refine TC_chr (by omega) (by omega) ?_
      walk_at "T"
      refine Bin.add_str (by rw [len_S]; show _ + 1 ≤ _; omega) ?_
      walk_at "T"
      rw [show S σ.1 ++ (⟨#[_]⟩ : Str) = S (σ.1 ++ [_]) from S_append _ [_]]
      exact i13 (_, p3, some (.d (.int a)), some (.d (.int d2)), some (.d (.int d3))) (by walk_at "LE") hp3 (hvd.snoc (by omega)) (i21 _ _ rfl (by simp; omega))
    ·refine o10 (Int.eq_ofNat_of_zero_le h0) fun k zz1 => ?_
     subst zz1
     refine o10 (get_lt (l := [32, 123, 125, 91, 93, 36, 59, 34, 35, 92, 10, 9, 97]) (f := k) (by show k < 13; omega)) fun ch hch => ?_
     have hcl : ch < 1114112 := (by decide : ∀ c ∈ [32, 123, 125, 91, 93, 36, 59, 34, 35, 92, 10, 9, 97], c < 1114112) ch (List.mem_of_getElem? hch)
     refine Item.str (ch := ch) (by exact fg (.ile (.c 0) (.n (.v 0))) [] [1] [1] rfl [_] []) (item_S (k := k) rfl hch) (by decide) ?_
     walk_at "T"
     refine Bin.add_str (by rw [len_S]; show _ + 1 ≤ _; exact fg (.le (.a (.v 0) (.c 1)) (.c 1000000)) [.le (.a (.v 0) (.a (.v 1) (.c 1))) (.c 3)] [1,1] [0,1] rfl [_,_] [] hl) ?_
     walk_at "T"
     rw [show S σ.1 ++ (⟨#[ch]⟩ : Str) = S (σ.1 ++ [ch]) from S_append _ [ch]]
     exact i13 (σ.1 ++ [ch], p2, some (.d (.int a)), some (.d (.int (k : Nat))), σ.2.2.2.2) (by walk_at "LE") hp2 (hvd.snoc hcl) (i21 _ _ rfl (by simp; exact fg (.le (.a (.a (.v 0) (.c 1)) (.v 1)) (.c 3)) [.le (.a (.v 0) (.a (.v 1) (.c 1))) (.c 3)] [1,1] [] rfl [_,_] [] hl))
  ·refine o02 hI fun hpk hvd zz1 => ?_
   try clear hI
   refine o21 zz1 fun a n hx hl => ?_
   clear zz1
   cases n with
   | zero => walk_at "K"; exact Seq.next (i52 σ.1 σ.2.1 _ _ _ ⟨by exact fg (.le (.v 0) (.c 3)) [.le (.a (.v 0) (.c 0)) (.c 3)] [1,1] [] rfl [_] [] hl, hvd⟩ hpk rfl)
   | succ n => cases hx
 subst e1
 walk_at "T"
 walk_at "E"; exact h t p' h1 h2
end
end
section
noncomputable def okTexts (ts : List (List Nat)) : Prop := ts.length ≤ 2 ∧ ∀ t ∈ ts, OkT t
section
variable {c : Cx} {st : St} {X : Flds → List (Option AV) → Prop} {Q : AV → St → Prop}
theorem law_texts_T {pa : Addr} {p : AO} {l : List (Addr × AO)} (hp : PenOk p) (hmu : st.mu = (pa, p) :: l) (hhd : c.hd = false) (hr : 3 ≤ c.room)
  (h : ∀ ts D p', okTexts ts → PenOk p' → Q (.v (.ref D)) ⟨st.loc, (D, .list (txs ts)) :: (pa, p') :: l⟩) : TC c st (.ref 282) [.v (.ref pa)] Q X := by
 refine enter_law_texts [(pa, p)] l hmu hhd (rm0 hr rfl) fun o ho hF hsc => ?_
 with_reducible refine' absN ?e fun K0 hK0 => ?_
 case e => exact rfl
 walk_at "T"
 refine TE_comp (M := fun p : AO => [(pa, p)]) (I := fun xs out p => PenOk p ∧ ∃ a n ts, xs = rangeL a 1 n ∧ out = txs ts ∧ ts.length + n ≤ 2 ∧ ∀ t ∈ ts, OkT t) false ["pen"] [some (.v (.ref pa))] [("_law_text", .ref 277)] hsc (by kernel_rfl!) (fun P => by kernel_rfl!) rfl (.cons .here .nil) (fun xs out a hI => ?_) ?_ (fun _ => rfl)
 ·refine o01 hI fun _ zz1 => ?_
  try clear hI
  refine o33 zz1 fun _ n ts _ zz2 h1 _ => ?_
  clear zz1
  subst zz2
  rw [txs_len]; exact fg (.le (.v 0) (.c 1000)) [.le (.a (.v 0) (.v 1)) (.c 2)] [1,1] [0,1] rfl [_,_] [] h1
 walk_at "T"
 refine law_take_T hp rfl (by decide) (by decide) rfl (by walk_at "RM") fun d p' h0 h1 hp' => ?_
 walk_at "T"
 refine TC_range1 ?_
 walk_at "T"
 refine i24 _ p' (Iters.rng (n := d.toNat) (small01 h0 (by exact fg (.ile (.v 0) (.c 100000)) [.ilt (.v 0) (.c 3)] [1,1] [] rfl [] [_] h1)) (rangeSize01 h0)) rfl ⟨hp', _, _, [], rfl, rfl, by simp; exact fg (.ile (.v 0) (.c 2)) [.ilt (.v 0) (.c 3)] [1,1] [] rfl [] [_] h1, fun _ q => nomatch q⟩ (fun o' ho' hsc' D y xs out p2 hI => ?_) (fun out p2 D hI => ?_)
 ·refine o01 hI fun hp2 zz1 => ?_
  try clear hI
  refine o33 zz1 fun a n ts hx zz2 h2 h3 => ?_
  clear zz1
  subst zz2
  cases n with
  | zero => cases hx
  | succ n =>
   obtain ⟨rfl, rfl⟩ : y = .int a ∧ xs = rangeL (a + 1) 1 n := by
    have := List.cons.inj hx; exact ⟨this.1, this.2⟩
   refine TI_nil ?_
   refine ite_t rfl ?_
   walk_at "T"
   refine law_text_T hp2 rfl rfl (by walk_at "RM") fun t p3 h4 hp3 => ?_
   refine i23 _ p3 rfl rfl hp3 (i33 _ n (ts ++ [t]) rfl (by rw [txs_snoc]) (by simp; exact fg (.le (.a (.a (.v 0) (.c 1)) (.v 1)) (.c 2)) [.le (.a (.v 0) (.a (.v 1) (.c 1))) (.c 2)] [1,1] [] rfl [_,_] [] h2) (fun z hz => ?_))
   rcases List.mem_append.mp hz with hz | hz
   ·walk_at "E"; exact h3 z hz
   ·rw [List.mem_singleton.mp hz]; exact h4
 ·refine o01 hI fun hp2 zz1 => ?_
  try clear hI
  refine o33 zz1 fun a n ts hx zz2 h2 h3 => ?_
  clear zz1
  subst zz2
  cases n with
  | zero =>
   walk_at "T"
   walk_at "E"; exact h ts D p2 ⟨by exact fg (.le (.v 0) (.c 2)) [.le (.a (.v 0) (.c 0)) (.c 2)] [1,1] [] rfl [_] [] h2, h3⟩ hp2
  | succ n => cases hx
end
end
section
theorem intercal_len (sep : List Nat) : ∀ ys : List (List Nat), (intercal sep ys).length ≤ (ys.map List.length).sum + ys.length * sep.length
 | [] => by simp [intercal]
 | [x] => by simp [intercal]
 | x :: y :: r => by
  have := intercal_len sep (y :: r)
  show (x ++ sep ++ intercal sep (y :: r)).length ≤ _
  simp only [List.length_append, List.map_cons, List.sum_cons, List.length_cons, Nat.add_mul, Nat.one_mul] at this ⊢
  exact fg (.le (.a (.a (.v 5) (.v 4)) (.v 0)) (.a (.a (.v 5) (.a (.v 1) (.v 2))) (.a (.a (.v 3) (.v 4)) (.v 4)))) [.le (.v 0) (.a (.a (.v 1) (.v 2)) (.a (.v 3) (.v 4)))] [1,1] [] rfl [_,_,_,_,_,_] [] this
theorem join_len (items : List (List Nat)) : (joinN items).length ≤ 2 * (items.map List.length).sum + 3 * items.length := by
 have h1 := intercal_len [32] (quoteAll true items)
 have h2 := quoteAll_sum true items
 rw [quoteAll_len] at h1
 unfold joinN
 have : items.length * [32].length = items.length := by simp
 exact fg (.le (.v 0) (.a (.m 2 (.v 3)) (.m 3 (.v 4)))) [.le (.v 0) (.a (.v 1) (.v 2)),.le (.v 1) (.a (.m 2 (.v 3)) (.m 2 (.v 4))),.eq (.v 2) (.v 4)] [1,1,1,1] [] rfl [_,_,_,_,_] [] h1 h2 this
theorem sum_le {k : Nat} : ∀ {l : List (List Nat)}, (∀ x ∈ l, x.length ≤ k) → (l.map List.length).sum ≤ k * l.length
 | [], _ => by simp
 | x :: l, h => by
  have h1 := h x (.head _)
  have h2 := sum_le fun y hy => h y (.tail x hy)
  simp only [List.map_cons, List.sum_cons, List.length_cons, Nat.mul_add, Nat.mul_one]
  exact fg (.le (.a (.v 0) (.v 2)) (.a (.v 3) (.v 1))) [.le (.v 0) (.v 1),.le (.v 2) (.v 3)] [1,1,1] [] rfl [_,_,_,_] [] h1 h2
noncomputable def Splits (l : List Nat) : Prop := ∃ es s, SplitAt l 0 (some es) s ∧ s ≤ 1000
theorem Vd.append {a b : List Nat} (h : Vd a) (k : Vd b) : Vd (a ++ b) := fun x hx => (List.mem_append.mp hx).elim (h x) (k x)
theorem Vd.cons {a : Nat} {b : List Nat} (h : a < 1114112) (k : Vd b) : Vd (a :: b) := fun x hx => (List.mem_cons.mp hx).elim (fun e => e ▸ h) (k x)
theorem Vd.nil : Vd [] := fun _ q => nomatch q
theorem escN_vd {ch : Nat} {b : Bool} (h : ch < 1114112) : Vd (escN ch b) := by
 unfold escN
 repeat' split
 all_goals first | exact .cons (by decide) (.cons (by decide) .nil) | exact .cons (by decide) (.cons h .nil) | exact .cons h .nil
theorem flat_vd {b : Bool} : ∀ {l : List Nat}, Vd l → Vd (l.flatMap (escN · b))
 | [], _ => .nil
 | a :: l, h => by
  rw [List.flatMap_cons]
  exact (escN_vd (h a (.head _))).append (flat_vd fun x hx => h x (.tail _ hx))
theorem quoteN_vd {h : Bool} {l : List Nat} (v : Vd l) : Vd (quoteN h l) := by
 have pre : ∀ b : Bool, Vd (if b = true then [92] else []) := fun b => by cases b; exact .nil; exact .cons (by decide) .nil
 unfold quoteN
 split
 ·exact v
 ·exact (Vd.cons (by decide) v).append (.cons (by decide) .nil)
 ·exact (pre _).append (flat_vd v)
 ·exact (pre _).append (flat_vd v)
theorem tailT_vd : ∀ {l : List (List Nat)}, (∀ x ∈ l, Vd x) → Vd (tailT l)
 | [], _ => .nil
 | a :: l, h => by
  rw [tailT_cons]
  exact (Vd.cons (by decide) (quoteN_vd (h a (.head _)))).append (tailT_vd fun x hx => h x (.tail _ hx))
theorem join_vd {l : List (List Nat)} (h : ∀ x ∈ l, Vd x) : Vd (joinN l) := by
 cases l with
 | nil => exact .nil
 | cons a l =>
  rw [join_cons]
  exact (quoteN_vd (h a (.head _))).append (tailT_vd fun x hx => h x (.tail _ hx))
theorem okTexts.vd {ts : List (List Nat)} (h : okTexts ts) : Vd (joinN ts) := join_vd fun x hx => (h.2 x hx).2
theorem okTexts.sum {ts : List (List Nat)} (h : okTexts ts) : (ts.map List.length).sum ≤ 6 := by
 have := sum_le fun x hx => (h.2 x hx).1; have := h.1; omega
theorem okTexts.len {ts : List (List Nat)} (h : okTexts ts) : (joinN ts).length ≤ 18 := by
 have := join_len ts; have := h.sum; have := h.1; omega
theorem okTexts.splits {ts : List (List Nat)} (h : okTexts ts) : Splits (joinN ts) := ⟨ts, _, split_join ts, by have := h.1; exact fg (.le (.v 0) (.c 1000)) [.le (.v 0) (.c 2)] [1,1] [] rfl [_] [] this⟩
noncomputable def CodedOk (l : List Nat) : Prop := l.length ≤ 40 ∧ Vd l ∧ Splits l
noncomputable def nPre : List Nat := [32, 65, 9, 123, 98, 32, 99, 125, 32]
theorem pre_splits {l : List Nat} (h : ∃ es s, SplitAt l 0 (some es) s ∧ s ≤ 100) : Splits (nPre ++ l) := by
 refine o21 h fun es s h1 h2 => ?_
 try clear h
 have h3 : SplitAt (nPre ++ l) 8 (some es) s := split_shift (nPre.take 8) (split_sp h1)
 have f1 : findN ((nPre ++ l).drop 0) = .ok [65] 2 := by
  show findN (32 :: (65 :: 9 :: (123 :: 98 :: 32 :: 99 :: 125 :: 32 :: l))) = _
  rw [find_blank rfl, find_bare (e := [65]) (n := 1) rfl (by decide) (by decide) (by rw [bareN_ch rfl (by decide), bareN_blank rfl]; rfl)]
 have f2 : findN ((nPre ++ l).drop 2) = .ok [98, 32, 99] 6 := by
  show findN (9 :: (123 :: [98, 32, 99] ++ [125] ++ (32 :: l))) = _
  rw [find_blank rfl, find_brace (l := [98, 32, 99]) (r := 32 :: l) (by rfl) rfl]
  rfl
 have hl : (nPre ++ l).length = 9 + l.length := by rw [List.length_append]; rfl
 have g2 := SplitAt.ok f2 (by exact fg (.le (.a (.c 2) (.c 6)) (.v 0)) [.qe (.v 0) (.a (.c 9) (.v 1))] [1,1] [0,1] rfl [_,_] [] hl) h3
 have g1 := SplitAt.ok (a := 0) f1 (by exact fg (.le (.a (.c 0) (.c 2)) (.v 0)) [.qe (.v 0) (.a (.c 9) (.v 1))] [1,1] [0,1] rfl [_,_] [] hl) g2
 exact ⟨_, _, g1, by exact fg (.le (.a (.a (.v 0) (.c 1)) (.c 1)) (.c 1000)) [.le (.v 0) (.c 100)] [1,1] [] rfl [_] [] h2⟩
noncomputable def nW : List Nat := [45, 119]
noncomputable def OtherOk (err : Bool) (n v : List Nat) : Prop := n.length ≤ 11 ∧ v.length ≤ 20 ∧ Vd n ∧ Vd v ∧ n ≠ nW ∧ n ≠ nCode ∧ n ≠ nLevel ∧ n ≠ nOptions ∧ (err = true → n ≠ nEC ∧ n ≠ nEI) ∧ (n = nEC → Splits v)
section
variable {c : Cx} {st : St} {X : Flds → List (Option AV) → Prop} {Q : AV → St → Prop}
theorem TC_freeze_out {f : Value} {as : List AV} (h : TC c st f as (fun x st1 => ∃ a ps mu', x = .v (.ref a) ∧ MuOut st1.mu a (.list ps) mu' ∧ Q (.d (.list ps)) ⟨st1.loc, mu'⟩) X) : TC c st f as Q X := fun s vs r hv =>
 wpAny_mono (h s vs r hv) (fun v s' zm0 => o23 zm0 fun x st1 zz51 r1 t1 hx => o32 zz51 fun a ps mu' e hm q => by
  subst e
  obtain rfl : v = .ref a := hx
  refine o02 (out_list r1 hm) fun r2 t2 q2 => ?_
  exact ⟨_, _, q, r2, t1.trans t2, q2⟩) fun _ _ p => p
theorem law_texts_Tf {pa : Addr} {p : AO} {l : List (Addr × AO)} (hp : PenOk p) (hmu : st.mu = (pa, p) :: l) (hhd : c.hd = false) (hr : 3 ≤ c.room)
  (h : ∀ ts p', okTexts ts → PenOk p' → Q (.d (.list (txs ts))) ⟨st.loc, (pa, p') :: l⟩) : TC c st (.ref 282) [.v (.ref pa)] Q X :=
 TC_freeze_out (law_texts_T hp hmu hhd hr fun ts D p' h1 h2 => i32 D _ _ rfl .here (h ts p' h1 h2))
theorem ecNone_EC : EC ecNone nNONE := by
 have : EC (.tuple (txs [nNONE])) (joinN [nNONE]) := .tup (by decide)
 exact this
theorem none_vd : Vd nNONE := by unfold Vd nNONE; decide
theorem pre_vd : Vd nPre := by unfold Vd nPre; decide
theorem none_splits : Splits nNONE := ⟨_, _, split_join [nNONE], by decide⟩
theorem s_Pre : (Str.ofString " A\t{b c} ") = S nPre := by kernel_rfl!
theorem law_errorcode_T {pa : Addr} {p : AO} {l : List (Addr × AO)} (hp : PenOk p) (hmu : st.mu = (pa, p) :: l) (hhd : c.hd = false) (hr : 5 ≤ c.room)
  (h : ∀ ec t p', EC ec t → CodedOk t → PenOk p' → Q (.d (.tuple [ec, .str (S t)])) ⟨st.loc, (pa, p') :: l⟩) : TC c st (.ref 296) [.v (.ref pa)] Q X := by
 refine enter_law_errorcode [(pa, p)] l hmu hhd (rm0 hr rfl) fun o ho hF => ?_
 with_reducible refine' absN ?e fun K0 hK0 => ?_
 case e => exact rfl
 walk_at "V"
 refine law_take_T hp rfl (by decide) (by decide) rfl (by walk_at "RM") fun d p1 h0 h1 hp1 => ?_
 walk_at "V"
 refine law_texts_Tf hp1 rfl rfl (by walk_at "RM") fun ts p2 hts hp2 => ?_
 walk_at "V"
 have hsum := hts.sum
 have hlen := hts.1
 have hj := hts.len
 with_reducible refine TL_c ?_
 walk_at "V"
 refine join_list_T (.inl rfl) (by exact fg (.le (.a (.v 0) (.v 1)) (.c 100000)) [.le (.v 0) (.c 6),.le (.v 1) (.c 2)] [1,1,1] [] rfl [_,_] [] hsum hlen) rfl (by walk_at "RM") ?_
 walk_at "T"
 refine ite_eq (fun q => ?_) fun q => ?_ <;> walk_at "T"
 ·walk_at "E"; exact h ecNone nNONE p2 ecNone_EC ⟨by decide, none_vd, none_splits⟩ hp2
 refine ite_eq (fun q2 => ?_) fun q2 => ?_ <;> walk_at "T"
 ·refine TC_tuple_list (by rw [txs_len]; (try dsimp only); exact fg (.le (.v 0) (.c 1000000)) [.le (.v 0) (.c 2)] [1,1] [] rfl [_] [] hlen) ?_
  walk_at "T"
  walk_at "E"; exact h _ _ p2 (.tup (by exact fg (.le (.a (.v 0) (.v 1)) (.c 100000)) [.le (.v 0) (.c 6),.le (.v 1) (.c 2)] [1,1,1] [] rfl [_,_] [] hsum hlen)) ⟨by exact fg (.le (.v 0) (.c 40)) [.le (.v 0) (.c 18)] [1,1] [] rfl [_] [] hj, hts.vd, hts.splits⟩ hp2
 refine ite_eq (fun q3 => ?_) fun q3 => ?_ <;> walk_at "T"
 ·walk_at "E"; exact h _ _ p2 .str ⟨by exact fg (.le (.v 0) (.c 40)) [.le (.v 0) (.c 18)] [1,1] [] rfl [_] [] hj, hts.vd, hts.splits⟩ hp2
 rw [s_Pre]
 have e9 : nPre.length = 9 := rfl
 refine Bin.add_str (by rw [len_S, len_S]; exact fg (.le (.a (.v 1) (.v 0)) (.c 1000000)) [.le (.v 0) (.c 18),.eq (.v 1) (.c 9)] [1,1,1] [] rfl [_,_] [] hj e9) ?_
 walk_at "T"
 refine Bin.add_str (by rw [len_S, len_S]; exact fg (.le (.a (.v 1) (.v 0)) (.c 1000000)) [.le (.v 0) (.c 18),.eq (.v 1) (.c 9)] [1,1,1] [] rfl [_,_] [] hj e9) ?_
 walk_at "T"
 rw [S_append]
 walk_at "E"; exact h _ _ p2 .str ⟨by rw [List.length_append]; exact fg (.le (.a (.v 1) (.v 0)) (.c 40)) [.le (.v 0) (.c 18),.eq (.v 1) (.c 9)] [1,1,1] [] rfl [_,_] [] hj e9, pre_vd.append hts.vd, pre_splits (i21 _ _ (split_join ts) (by exact fg (.le (.v 0) (.c 100)) [.le (.v 0) (.c 2)] [1,1] [] rfl [_] [] hlen))⟩ hp2
theorem s_During : (Str.ofString "-during") = S [45, 100, 117, 114, 105, 110, 103] := by kernel_rfl!
theorem s_k : (Str.ofString "-k") = S [45, 107] := by kernel_rfl!
theorem law_other_T {pa : Addr} {p : AO} {l : List (Addr × AO)} {err : Bool} (hp : PenOk p) (hmu : st.mu = (pa, p) :: l) (hhd : c.hd = false) (hr : 5 ≤ c.room)
  (h : ∀ n v p', OtherOk err n v → PenOk p' → Q (.d (pairD (n, v))) ⟨st.loc, (pa, p') :: l⟩) : TC c st (.ref 303) [.v (.ref pa), .d (.bool err)] Q X := by
 refine enter_law_other [(pa, p)] l hmu hhd (rm0 hr rfl) fun o ho hF => ?_
 with_reducible refine' absN ?e fun K0 hK0 => ?_
 case e => exact rfl
 walk_at "V"
 refine law_take_T hp rfl (by decide) (by decide) rfl (by walk_at "RM") fun d p1 h0 h1 hp1 => ?_
 walk_at "V"
 with_reducible refine TL_c (TS_sq (fun st1 => ∃ n p', PenOk p' ∧ st1 = ⟨[some (.v (.ref pa)), some (.d (.bool err)), some (.d (.int d)), some (.d (.str (S n)))], [(pa, p')]⟩ ∧ n.length ≤ 11 ∧ Vd n ∧ n ≠ nW ∧ n ≠ nCode ∧ n ≠ nLevel ∧ n ≠ nOptions ∧ (err = true → n ≠ nEC ∧ n ≠ nEI)) (fun K1 hK1 => ?_) fun st1 => exI fun n => exI fun p' => aiI fun hp' => aiI fun e1 => aiI fun h2 => aiI fun hvd => aiI fun hnw => aiI fun h3 => aiI fun h4 => aiI fun h5 => fun h6 => ?_)
 ·walk_at "V"
  refine ite_d (fun q => ?_) fun q => ?_ <;> walk_at "V"
  ·with_reducible refine TL_c ?_
   walk_at "V"
   refine TE_lst ?_
   walk_at "V"
   have nm : ∃ n : List Nat, ([PyData.str "-during", .str "", .str "*"] : List PyData)[d.toNat]? = some (.str (S n)) ∧ (d = 2 → n = [42]) ∧ n.length ≤ 7 ∧ Vd n ∧ n ≠ nW ∧ n ≠ nCode ∧ n ≠ nLevel ∧ n ≠ nOptions ∧ n ≠ nEC ∧ n ≠ nEI := by
    have : d = 0 ∨ d = 1 ∨ d = 2 := e3 h0 (by assumption)
    rcases this with rfl | rfl | rfl
    ·exact i19 [45, 100, 117, 114, 105, 110, 103] rfl (by decide) (by decide) (by unfold Vd; decide) (by decide) (by decide) (by decide) (by decide) (by decide) (by decide)
    ·exact i19 [] rfl (by decide) (by decide) (by unfold Vd; decide) (by decide) (by decide) (by decide) (by decide) (by decide) (by decide)
    ·exact i19 [42] rfl (by decide) (by decide) (by unfold Vd; decide) (by decide) (by decide) (by decide) (by decide) (by decide) (by decide)
   refine o19 nm fun n g1 g2 g3 gv gw g4 g5 g6 g7 g8 => ?_
   try clear nm
   refine Item.list (p := .str (S n)) h0 g1 (by decide) ?_
   walk_at "V"
   with_reducible refine TL_c ?_
   walk_at "V"
   refine ite_eq (fun q2 => ?_) fun q2 => ?_ <;> walk_at "V"
   ·with_reducible refine TL_c ?_
    walk_at "V"
    refine law_text_T hp1 rfl rfl (by walk_at "RM") fun t p2 ht hp2 => ?_
    walk_at "V"
    refine Bin.add_str (by have := ht.1; rw [len_S, len_S]; exact fg (.le (.a (.v 0) (.v 1)) (.c 1000000)) [.le (.v 0) (.c 7),.le (.v 1) (.c 3)] [1,1,1] [] rfl [_,_] [] g3 this) ?_
    walk_at "V"
    rw [S_append]
    obtain rfl := g2 q2
    walk_at "K"; refine Seq.next (i28 ([42] ++ t) p2 hp2 rfl (by have := ht.1; simp; exact fg (.le (.v 0) (.c 10)) [.le (.v 0) (.c 3)] [1,1] [] rfl [_] [] this) ((Vd.cons (by decide) .nil).append ht.2) ?_ ?_ ?_ ?_ (fun _ => ⟨?_, ?_⟩)) <;> (intro e; cases e)
   ·walk_at "K"; exact Seq.next (i28 n p1 hp1 rfl (by exact fg (.le (.v 0) (.c 11)) [.le (.v 0) (.c 7)] [1,1] [] rfl [_] [] g3) gv gw g4 g5 g6 (fun _ => ⟨g7, g8⟩))
  ·cases err with
   | true =>
    with_reducible refine TL_c ?_
    walk_at "V"
    with_reducible refine TL_c ?_
    walk_at "V"
    walk_at "K"; exact Seq.next (i28 [45, 107] p1 hp1 rfl (by decide) (by unfold Vd; decide) (by decide) (by decide) (by decide) (by decide) (fun _ => ⟨by decide, by decide⟩))
   | false =>
    with_reducible refine TL_c ?_
    walk_at "V"
    with_reducible refine TL_c ?_
    walk_at "V"
    refine TE_lst ?_
    walk_at "V"
    have nm : ∃ n : List Nat, ([PyData.str "-errorinfo", .str "-errorcode"] : List PyData)[(d - 3).toNat]? = some (.str (S n)) ∧ n.length ≤ 10 ∧ Vd n ∧ n ≠ nW ∧ n ≠ nCode ∧ n ≠ nLevel ∧ n ≠ nOptions := by
     have : d = 3 ∨ d = 4 := by omega
     rcases this with rfl | rfl
     ·exact i16 nEI rfl (by decide) (by unfold Vd nEI; decide) (by decide) (by decide) (by decide) (by decide)
     ·exact i16 nEC rfl (by decide) (by unfold Vd nEC; decide) (by decide) (by decide) (by decide) (by decide)
    refine o16 nm fun n g1 g3 gv gw g4 g5 g6 => ?_
    try clear nm
    refine Item.list (p := .str (S n)) (by exact fg (.ile (.c 0) (.s (.v 0) (.c 3))) [.inlt (.v 0) (.c 3)] [1,1] [] rfl [] [_] q) g1 (by decide) ?_
    walk_at "V"
    walk_at "K"; exact Seq.next (i28 n p1 hp1 rfl (by exact fg (.le (.v 0) (.c 11)) [.le (.v 0) (.c 10)] [1,1] [] rfl [_] [] g3) gv gw g4 g5 g6 (fun q => nomatch q))
 subst e1
 walk_at "T"
 refine ite_seq (fun q => ?_) fun q => ?_ <;> walk_at "T"
 ·obtain rfl : n = nEC := S_inj q
  refine law_texts_Tf hp' rfl rfl (by walk_at "RM") fun ts p2 hts hp2 => ?_
  walk_at "T"
  have hsum := hts.sum
  have hlen := hts.1
  have hj := hts.len
  refine join_list_T (.inl rfl) (by exact fg (.le (.a (.v 0) (.v 1)) (.c 100000)) [.le (.v 0) (.c 6),.le (.v 1) (.c 2)] [1,1,1] [] rfl [_,_] [] hsum hlen) rfl (by walk_at "RM") ?_
  walk_at "T"
  walk_at "E"; exact h nEC (joinN ts) p2 ⟨h2, by exact fg (.le (.v 0) (.c 20)) [.le (.v 0) (.c 18)] [1,1] [] rfl [_] [] hj, hvd, hts.vd, hnw, h3, h4, h5, h6, fun _ => hts.splits⟩ hp2
 ·refine law_text_T hp' rfl rfl (by walk_at "RM") fun t p2 ht hp2 => ?_
  walk_at "T"
  walk_at "E"; exact h n t p2 ⟨h2, by have := ht.1; exact fg (.le (.v 0) (.c 20)) [.le (.v 0) (.c 3)] [1,1] [] rfl [_] [] this, hvd, ht.2, hnw, h3, h4, h5, h6, fun e => absurd (by rw [e]; rfl) q⟩ hp2
end
end
section
noncomputable def drawnD (code : Int) (value : List Nat) (cd : PyData) (level ret : Int) (info : List Nat) (others : Kv) : PyData := .tuple [.int code, .str (S value), cd, .int level, .int ret, .str (S info), .list (others.map pairD)]
structure Drawn (raising : PyData) (code : Int) (value : List Nat) (cd : PyData) (ct : List Nat) (level ret : Int) (info : List Nat) (others : Kv) : Prop where
 hvalue : OkT value
 hinfo : OkT info
 len : others.length ≤ 3
 ec : EC raising ct
 coded : CodedOk ct
 kind : (code = 1 ∧ level = 0 ∧ ret = 0 ∧ cd = .str (S ct)) ∨ (code = 2 ∧ 1 ≤ level ∧ level ≤ 40 ∧ ((ret = 1 ∧ cd = .str (S ct)) ∨ ((ret = 0 ∨ ret = 2 ∨ ret = 3 ∨ NumOk ret) ∧ raising = ecNone ∧ cd = ecNone ∧ ct = nNONE ∧ info = []))) ∨
  ((code = 3 ∨ code = 4 ∨ NumOk code) ∧ level = 0 ∧ ret = 0 ∧ raising = ecNone ∧ cd = ecNone ∧ ct = nNONE ∧ info = [])
 other : ∀ p ∈ others, OtherOk (decide (code = 1 ∨ ret = 1)) p.1 p.2
noncomputable def Codes1 (code : Int) : Prop := code = 1 ∨ code = 2 ∨ code = 3 ∨ code = 4 ∨ NumOk code
noncomputable def Kind (code level ret : Int) : Prop := (code = 1 ∧ level = 0 ∧ ret = 0) ∨ (code = 2 ∧ 1 ≤ level ∧ level ≤ 40 ∧ (ret = 1 ∨ ret = 0 ∨ ret = 2 ∨ ret = 3 ∨ NumOk ret)) ∨ ((code = 3 ∨ code = 4 ∨ NumOk code) ∧ level = 0 ∧ ret = 0)
theorem Drawn.of {raising : PyData} {code level ret : Int} {value ct info : List Nat} {cd : PyData} {others : Kv} (h1 : OkT value) (h2 : OkT info) (h3 : others.length ≤ 3) (h4 : EC raising ct) (h5 : CodedOk ct) (hk : Kind code level ret)
  (h6 : (code = 1 ∨ ret = 1) → cd = .str (S ct)) (h7 : ¬ (code = 1 ∨ ret = 1) → raising = ecNone ∧ cd = ecNone ∧ ct = nNONE ∧ info = []) (h8 : ∀ p ∈ others, OtherOk (decide (code = 1 ∨ ret = 1)) p.1 p.2) : Drawn raising code value cd ct level ret info others := by
 refine ⟨h1, h2, h3, h4, h5, ?_, h8⟩
 rcases hk with ⟨a, b, d⟩ | ⟨a, b, d, e⟩ | ⟨a, b, d⟩
 ·exact .inl (i03 a b d (h6 (.inl a)))
 ·refine .inr (.inl (i03 a b d ?_))
  rcases e with e | e
  ·exact .inl ⟨e, h6 (.inr e)⟩
  ·refine .inr ⟨e, h7 fun q => ?_⟩
   unfold NumOk at e
   exact q.elim (fun z => absurd (a.symm.trans z) (by decide)) fun z => absurd e (by rw [z]; decide)
 ·refine .inr (.inr (i03 a b d (h7 fun q => ?_)))
  unfold NumOk at a
  exact q.elim (fun z => absurd a (by rw [z]; decide)) fun z => absurd (d.symm.trans z) (by decide)
section
variable {c : Cx} {st : St} {X : Flds → List (Option AV) → Prop} {Q : AV → St → Prop}
theorem law_drawn_T {pa : Addr} {p : AO} {l : List (Addr × AO)} (hp : PenOk p) (hmu : st.mu = (pa, p) :: l) (hhd : c.hd = false) (hr : 6 ≤ c.room)
  (h : ∀ raising code value cd ct level ret info others p', Drawn raising code value cd ct level ret info others → PenOk p' → Q (.d (.tuple [raising, drawnD code value cd level ret info others])) ⟨st.loc, (pa, p') :: l⟩) : TC c st (.ref 308) [.v (.ref pa)] Q X := by
 refine enter_law_drawn [(pa, p)] l hmu hhd (rm0 hr rfl) fun o ho hF hsc => ?_
 with_reducible refine' absN ?e fun K0 hK0 => ?_
 case e => exact rfl
 refine (TS_sq (fun st1 => ∃ code p', (Codes1 code ∨ code = 0) ∧ PenOk p' ∧ st1 = ⟨[some (.v (.ref pa)), some (.d (.int code)), none, none, none, none, none, none, none, none], [(pa, p')]⟩) (fun K1 hK1 => ?_) fun st1 => exI fun code => exI fun p1 => aiI fun hc1 => aiI fun hp1 => fun e1 => ?_)
 ·walk_at "V"
  refine TE_lst ?_
  walk_at "V"
  refine law_take_T hp rfl (by decide) (by decide) rfl (by walk_at "RM") fun d p1 h0 h1 hp1 => ?_
  walk_at "V"
  have nm : ∃ k : Int, ([PyData.int 1, .int 2, .int 3, .int 4, .int 0] : List PyData)[d.toNat]? = some (.int k) ∧ (Codes1 k ∨ k = 0) := by
   have : d = 0 ∨ d = 1 ∨ d = 2 ∨ d = 3 ∨ d = 4 := e5 h0 h1
   unfold Codes1
   rcases this with rfl | rfl | rfl | rfl | rfl
   ·exact i11 1 rfl (.inl (.inl rfl))
   ·exact i11 2 rfl (.inl (.inr (.inl rfl)))
   ·exact i11 3 rfl (.inl (.inr (.inr (.inl rfl))))
   ·exact i11 4 rfl (.inl (.inr (.inr (.inr (.inl rfl)))))
   ·exact i11 0 rfl (.inr rfl)
  refine o11 nm fun k g1 g2 => ?_
  try clear nm
  refine Item.list (p := .int k) h0 g1 (by decide) ?_
  walk_at "V"
  walk_at "K"; exact Seq.next (i22 k p1 g2 hp1 rfl)
 subst e1
 with_reducible refine TL_c ?_
 walk_at "V"
 refine law_text_T hp1 rfl rfl (by walk_at "RM") fun value p2 hval hp2 => ?_
 walk_at "V"
 with_reducible refine TL_c (TS_sq (fun st1 => ∃ code p', Codes1 code ∧ PenOk p' ∧ st1 = ⟨[some (.v (.ref pa)), some (.d (.int code)), some (.d (.str (S value))), none, none, none, none, none, none, none], [(pa, p')]⟩) (fun K2 hK2 => ?_) fun st1 => exI fun code => exI fun p3 => aiI fun hc3 => aiI fun hp3 => fun e1 => ?_)
 ·walk_at "V"
  refine ite_eq (fun q => ?_) fun q => ?_ <;> walk_at "V"
  ·with_reducible refine TL_c ?_
   walk_at "V"
   refine law_number_T hp2 rfl rfl (by walk_at "RM") fun i p3 hi hp3 => ?_
   walk_at "V"
   walk_at "K"; exact Seq.next (i22 i p3 (.inr (.inr (.inr (.inr hi)))) hp3 rfl)
  ·walk_at "K"; exact Seq.next (i22 code p2 (hc1.resolve_right q) hp2 rfl)
 subst e1
 with_reducible refine TL_c ?_
 walk_at "V"
 with_reducible refine TL_c (TS_sq (fun st1 => ∃ level ret p', Kind code level ret ∧ PenOk p' ∧ st1 = ⟨[some (.v (.ref pa)), some (.d (.int code)), some (.d (.str (S value))), some (.d (.int level)), some (.d (.int ret)), none, none, none, none, none], [(pa, p')]⟩) (fun K3 hK3 => ?_) fun st1 => exI fun level => exI fun ret => exI fun p4 => aiI fun hk => aiI fun hp4 => fun e1 => ?_)
 ·walk_at "V"
  refine ite_eq (fun q => ?_) fun q => ?_ <;> walk_at "V"
  ·with_reducible refine TL_c ?_
   walk_at "V"
   refine law_take_T hp3 rfl  (by decide) (by decide) rfl (by walk_at "RM") fun d p5 h0 h1 hp5 => ?_
   walk_at "V"
   refine TE_lst ?_
   walk_at "V"
   refine law_take_T hp5 rfl (by decide) (by decide) rfl (by walk_at "RM") fun d2 p6 h2 h3 hp6 => ?_
   walk_at "V"
   have nm : ∃ k : Int, ([PyData.int 1, .int 0, .int 2, .int 3, .int 4] : List PyData)[d2.toNat]? = some (.int k) ∧ (k = 1 ∨ k = 0 ∨ k = 2 ∨ k = 3 ∨ k = 4) := by
    have : d2 = 0 ∨ d2 = 1 ∨ d2 = 2 ∨ d2 = 3 ∨ d2 = 4 := e5 h2 h3
    rcases this with rfl | rfl | rfl | rfl | rfl
    ·exact i11 1 rfl (by decide)
    ·exact i11 0 rfl (by decide)
    ·exact i11 2 rfl (by decide)
    ·exact i11 3 rfl (by decide)
    ·exact i11 4 rfl (by decide)
   refine o11 nm fun k g1 g2 => ?_
   try clear nm
   refine Item.list (p := .int k) h2 g1 (by decide) ?_
   walk_at "V"
   with_reducible refine TL_c ?_
   walk_at "V"
   refine ite_eq (fun q2 => ?_) fun q2 => ?_ <;> walk_at "V"
   ·with_reducible refine TL_c ?_
    walk_at "V"
    refine law_number_T hp6 rfl rfl (by walk_at "RM") fun i p7 hi hp7 => ?_
    walk_at "V"
    walk_at "K"; exact Seq.next (i32 _ i p7 (.inr (.inl (i03 q (by exact fg (.ile (.c 1) (.a (.c 1) (.v 0))) [.ile (.c 0) (.v 0)] [1,1] [] rfl [] [_] h0) (by exact fg (.ile (.a (.c 1) (.v 0)) (.c 40)) [.ilt (.v 0) (.c 40)] [1,1] [] rfl [] [_] h1) (.inr (.inr (.inr (.inr hi))))))) hp7 rfl)
   ·walk_at "K"; exact Seq.next (i32 _ k p6 (.inr (.inl (i03 q (by exact fg (.ile (.c 1) (.a (.c 1) (.v 0))) [.ile (.c 0) (.v 0)] [1,1] [] rfl [] [_] h0) (by exact fg (.ile (.a (.c 1) (.v 0)) (.c 40)) [.ilt (.v 0) (.c 40)] [1,1] [] rfl [] [_] h1) (g2.imp_right (·.imp_right (·.imp_right (·.imp_right fun z => absurd z q2))))))) hp6 rfl)
  ·walk_at "K"; refine Seq.next (i32 0 0 p3 ?_ hp3 rfl)
   rcases hc3 with r | r | r | r | r
   ·exact .inl (i02 r rfl rfl)
   ·exact absurd r q
   ·exact .inr (.inr (i02 (.inl r) rfl rfl))
   ·exact .inr (.inr (i02 (.inr (.inl r)) rfl rfl))
   ·exact .inr (.inr (i02 (.inr (.inr r)) rfl rfl))
 subst e1
 with_reducible refine TL_c (TS_sq (fun st1 => st1 = ⟨[some (.v (.ref pa)), some (.d (.int code)), some (.d (.str (S value))), some (.d (.int level)), some (.d (.int ret)), some (.d (.bool (decide (code = 1 ∨ ret = 1)))), none, none, none, none], [(pa, p4)]⟩) (fun K4 hK4 => ?_) fun st1 e1 => ?_)
 ·walk_at "V"
  refine ite_eq (fun q => ?_) fun q => ?_ <;> walk_at "V"
  ·walk_at "K"; refine Seq.next ?_
   rw [decide_eq_true (p := code = 1 ∨ ret = 1) (.inl q), q]; rfl
  ·walk_at "K"; refine Seq.next ?_
   have : decide (code = 1 ∨ ret = 1) = (ret == 1) := by
    rw [Bool.eq_iff_iff]; simp [q]
   rw [this]
 subst e1
 with_reducible refine TL_c ?_
 walk_at "V"
 with_reducible refine TL_c (TS_sq (fun st1 => ∃ raising cd ct info p', EC raising ct ∧ CodedOk ct ∧ OkT info ∧ ((code = 1 ∨ ret = 1) → cd = .str (S ct)) ∧ (¬ (code = 1 ∨ ret = 1) → raising = ecNone ∧ cd = ecNone ∧ ct = nNONE ∧ info = []) ∧ PenOk p' ∧ st1 = ⟨[some (.v (.ref pa)), some (.d (.int code)), some (.d (.str (S value))), some (.d (.int level)), some (.d (.int ret)), some (.d (.bool (decide (code = 1 ∨ ret = 1)))), some (.d raising), some (.d cd), some (.d (.str (S info))), none], [(pa, p')]⟩) (fun K5 hK5 => ?_) fun st1 => exI fun raising => exI fun cd => exI fun ct => exI fun info => exI fun p5 => aiI fun hE => aiI fun hC => aiI fun hI => aiI fun h6 => aiI fun h7 => aiI fun hp5 => fun e1 => ?_)
 ·walk_at "V"
  refine ite_d (fun q => ?_) fun q => ?_ <;> walk_at "V"
  ·with_reducible refine TL_c ?_
   walk_at "V"
   refine law_errorcode_T hp4 rfl rfl (by walk_at "RM") fun ec t p5 hE hC hp5 => ?_
   walk_at "V"
   with_reducible refine TL_c ?_
   walk_at "V"
   refine law_text_T hp5 rfl rfl (by walk_at "RM") fun info p6 hI hp6 => ?_
   walk_at "V"
   walk_at "K"; exact Seq.next (i56 ec _ t info p6 hE hC hI (fun _ => rfl) (fun z => absurd q z) hp6 rfl)
  ·walk_at "K"; exact Seq.next (i56 ecNone ecNone nNONE [] p4 ecNone_EC ⟨by decide, none_vd, none_splits⟩ ⟨by decide, .nil⟩ (fun z => absurd z q) (fun _ => (i03 rfl rfl rfl rfl)) hp4 rfl)
 subst e1
 have hbq : ∀ b : Bool, b = decide (code = 1 ∨ ret = 1) → True := fun _ _ => trivial
 generalize hb : decide (code = 1 ∨ ret = 1) = b
 with_reducible refine TL_c (TS_sq (fun st1 => ∃ (D : Addr) (others : Kv) (p' : AO), others.length ≤ 3 ∧ (∀ p ∈ others, OtherOk b p.1 p.2) ∧ PenOk p' ∧ st1 = ⟨[some (.v (.ref pa)), some (.d (.int code)), some (.d (.str (S value))), some (.d (.int level)), some (.d (.int ret)), some (.d (.bool b)), some (.d raising), some (.d cd), some (.d (.str (S info))), some (.v (.ref D))], [(D, .list (others.map pairD)), (pa, p')]⟩) (fun K6 hK6 => ?_) fun st1 => exI fun D => exI fun others => exI fun p6 => aiI fun hol => aiI fun hoo => aiI fun hp6 => fun e1 => ?_)
 ·walk_at "V"
  refine TS_assign_comp (M := fun p : AO => [(pa, p)]) (I := fun xs out p => PenOk p ∧ ∃ a n, ∃ ts : Kv, xs = rangeL a 1 n ∧ out = ts.map pairD ∧ ts.length + n ≤ 3 ∧ ∀ t ∈ ts, OtherOk b t.1 t.2) false ["pen", "is_error"] [some (.v (.ref pa)), some (.d (.bool b))] [("_law_other", .ref 303)] hsc (by kernel_rfl!) (fun P => by kernel_rfl!) rfl rfl (.cons (by with_reducible (repeat (first | exact NameAt.here | apply NameAt.there))) (.cons (by with_reducible (repeat (first | exact NameAt.here | apply NameAt.there))) .nil)) (fun xs out a hI => ?_) ?_
   (swaps_comp (by show o.env.scope.kind = _; rw [hsc]; kernel_rfl!) (by show o.env.scope.names.lookup _ = _; rw [hsc]; kernel_rfl!) (by kernel_rfl!) (by kernel_rfl!)) (fun _ => rfl)
  ·refine o01 hI fun _ zz1 => ?_
   try clear hI
   refine o33 zz1 fun _ n ts _ zz2 h1 _ => ?_
   clear zz1
   subst zz2
   rw [List.length_map]; exact fg (.le (.v 0) (.c 1000)) [.le (.a (.v 0) (.v 1)) (.c 3)] [1,1] [0,1] rfl [_,_] [] h1
  walk_at "V"
  refine law_take_T hp5 rfl (by decide) (by decide) rfl (by walk_at "RM") fun d p' h0 h1 hp' => ?_
  walk_at "V"
  refine TC_range1 ?_
  walk_at "V"
  refine i24 _ p' (Iters.rng (n := d.toNat) (small01 h0 (by exact fg (.ile (.v 0) (.c 100000)) [.ilt (.v 0) (.c 4)] [1,1] [] rfl [] [_] h1)) (rangeSize01 h0)) rfl ⟨hp', _, _, [], rfl, rfl, by simp; exact fg (.ile (.v 0) (.c 3)) [.ilt (.v 0) (.c 4)] [1,1] [] rfl [] [_] h1, fun _ q => nomatch q⟩ (fun o' ho' hsc' D y xs out p2 hI => ?_) (fun out p2 D hI => ?_)
  ·refine o01 hI fun hp2 zz1 => ?_
   try clear hI
   refine o33 zz1 fun a n ts hx zz2 h2 h3 => ?_
   clear zz1
   subst zz2
   cases n with
   | zero => cases hx
   | succ n =>
    obtain ⟨rfl, rfl⟩ : y = .int a ∧ xs = rangeL (a + 1) 1 n := by
     have := List.cons.inj hx; exact ⟨this.1, this.2⟩
    refine TI_nil ?_
    refine ite_t rfl ?_
    walk_at "V"
    refine law_other_T hp2 rfl rfl (by walk_at "RM") fun n1 v1 p3 h4 hp3 => ?_
    refine i23 _ p3 rfl rfl hp3 (i33 _ n (ts ++ [(n1, v1)]) rfl (by simp) (by simp; exact fg (.le (.a (.a (.v 0) (.c 1)) (.v 1)) (.c 3)) [.le (.a (.v 0) (.a (.v 1) (.c 1))) (.c 3)] [1,1] [] rfl [_,_] [] h2) (fun z hz => ?_))
    rcases List.mem_append.mp hz with hz | hz
    ·walk_at "E"; exact h3 z hz
    ·rw [List.mem_singleton.mp hz]; exact h4
  ·refine o01 hI fun hp2 zz1 => ?_
   try clear hI
   refine o33 zz1 fun a n ts hx zz2 h2 h3 => ?_
   clear zz1
   subst zz2
   cases n with
   | zero =>
    refine i11 _ (by with_reducible (repeat (first | exact StoreAt.here | apply StoreAt.there))) ?_
    walk_at "K"; exact Seq.next (i33 D ts p2 (by exact fg (.le (.v 0) (.c 3)) [.le (.a (.v 0) (.c 0)) (.c 3)] [1,1] [] rfl [_] [] h2) h3 hp2 rfl)
   | succ n => cases hx
 subst e1
 refine TL_freeze MuOut.here (by with_reducible (repeat (first | exact Frz.nil | apply Frz.frz | apply Frz.same))) ?_
 walk_at "T"
 refine h raising code value cd ct level ret info others p6 ?_ hp6
 subst hb
 exact .of hval hI hol hE hC hk h6 h7 hoo
end
end
section
theorem okF_R {code level ret : Int} {value info : List Nat} {ec : PyData} {extra : Kv} : IsR (okF code value ec level ret info extra) code value ec level ret info extra :=
 ⟨by kernel_rfl!, by kernel_rfl!, by kernel_rfl!, by kernel_rfl!, by kernel_rfl!, by kernel_rfl!, by kernel_rfl!⟩
theorem errF_code {t : Str} {ec : PyData} : look (errF t ec) "code" = some (.int 1) := by kernel_rfl!
theorem errF_value {t : Str} {ec : PyData} : look (errF t ec) "value" = some (.str t) := by kernel_rfl!
theorem errF_ec {t : Str} {ec : PyData} : look (errF t ec) "errorcode" = some ec := by kernel_rfl!
section
variable {c : Cx} {st : St} {X : Flds → List (Option AV) → Prop} {Q : AV → St → Prop}
theorem law_raised_T {raising cd : PyData} {code level ret : Int} {value info : List Nat} {others : Kv} (hl : others.length ≤ 1000) (hhd : c.hd = false) (hr : 3 ≤ c.room)
  (h : ∀ e dx, Q (.v (.ref e)) ⟨st.loc, (e, .inst dx (okF code value raising level ret info others) none) :: st.mu⟩) : TC c st (.ref 315) [.d raising, .d (drawnD code value cd level ret info others)] Q X := by
 refine enter_law_raised [] st.mu rfl hhd (rm0 hr rfl) fun o ho' hF => ?_
 with_reducible refine' absN ?e fun K0 hK0 => ?_
 case e => exact rfl
 unfold drawnD
 walk_at "T"
 refine raised_T5 rfl (by walk_at "RM") fun e dx => ?_
 walk_at "T"
 refine TS_at ?_ (by first | kernel_rfl! | with_unfolding_all rfl) swap_attr2
 walk_at "T"
 refine TC_list_list (by rw [List.length_map]; exact fg (.le (.v 0) (.c 1000000)) [.le (.v 0) (.c 1000)] [1,1] [] rfl [_] [] hl) ?_
 walk_at "T"
 refine set_any (fs' := rF (.int code) (.str (S value)) raising (.int level) (.int ret) (.str (S info)) (.bool false) (.int 0) (.list [])) pl_info .here (by show (9 : Nat) < 900; decide) (by kernel_rfl!) ?_
 walk_at "T"
 refine set_any (fs' := okF code value raising level ret info others) pl_extra .here (by show (9 : Nat) < 900; decide) (by kernel_rfl!) ?_
 walk_at "T"
 walk_at "E"; exact h e dx
theorem law_fields_T {e dx : Addr} {fs : Flds} {tb : Option (Addr × Value)} {code level ret : Int} {value info : List Nat} {ec : PyData} {extra : Kv} (hm : MuAt st.mu e (.inst dx fs tb)) (H : IsR fs code value ec level ret info extra) (hhd : c.hd = false) (hr : 1 ≤ c.room)
  (h : Q (.d (drawnD code value ec level ret info extra)) st) : TC c st (.ref 346) [.v (.ref e)] Q X := by
 refine enter_law_fields st.mu [] (by simp) hhd (rm0 hr rfl) fun o ho' hF => ?_
 with_reducible refine' absN ?e fun K0 hK0 => ?_
 case e => exact rfl
 walk_at "T"
 refine i54 e dx fs tb _ rfl hm pl_code H.code ?_
 walk_at "T"
 refine i54 e dx fs tb _ rfl hm pl_value H.value ?_
 walk_at "T"
 refine i54 e dx fs tb _ rfl hm pl_errorcode H.ec ?_
 walk_at "T"
 refine i54 e dx fs tb _ rfl hm pl_level H.level ?_
 walk_at "T"
 refine i54 e dx fs tb _ rfl hm pl_ret H.ret ?_
 walk_at "T"
 refine i54 e dx fs tb _ rfl hm pl_info H.info ?_
 walk_at "T"
 refine i54 e dx fs tb _ rfl hm pl_extra H.extra ?_
 walk_at "T"
 exact end_mu h
theorem law_fields_none (hhd : c.hd = false) (hr : 1 ≤ c.room) (h : Q (.d .none) st) : TC c st (.ref 346) [.d .none] Q X := by
 refine enter_law_fields [] st.mu rfl hhd (rm0 hr rfl) fun o ho' hF => ?_
 with_reducible refine' absN ?e fun K0 hK0 => ?_
 case e => exact rfl
 walk_at "T"
 refine ite_t rfl ?_
 walk_at "T"
 walk_at "E"; exact h
noncomputable def lawBad (what sought : Str) (text : List Nat) (mark : Str) : PyData := .tuple [.int 1, .str (Str.ofString "bad -" ++ what ++ Str.ofString " value: expected " ++ sought ++ Str.ofString " but got \"" ++ S text ++ Str.ofString "\""), .tuple [.str "TCL", .str "RESULT", .str (Str.ofString "ILLEGAL_" ++ mark)]]
theorem law_bad_T {what sought mark : Str} {l : List Nat} (hn : what.length ≤ 100) (hw : sought.length ≤ 100) (hk : mark.length ≤ 100) (hl : l.length ≤ 100000) (hhd : c.hd = false) (hr : 1 ≤ c.room)
  (h : Q (.d (lawBad what sought l mark)) st) : TC c st (.ref 360) [.d (.str what), .d (.str sought), .d (.str (S l)), .d (.str mark)] Q X := by
 refine enter_law_bad [] st.mu rfl hhd (rm0 hr rfl) fun o ho' hF => ?_
 with_reducible refine' absN ?e fun K0 hK0 => ?_
 case e => exact rfl
 walk_at "T"
 refine Bin.add_of (m := 100) (n := 100) (lit_le (by kernel_rfl!)) hn (by decide) ?_
 walk_at "T"
 refine Bin.add_of (m := 100 + 100) (n := 100) (add_le (lit_le (by kernel_rfl!)) hn) (lit_le (by kernel_rfl!)) (by decide) ?_
 walk_at "T"
 refine Bin.add_of (m := 100 + 100 + 100) (n := 100) (add_le (add_le (lit_le (by kernel_rfl!)) hn) (lit_le (by kernel_rfl!))) hw (by decide) ?_
 walk_at "T"
 refine Bin.add_of (m := 100 + 100 + 100 + 100) (n := 100) (add_le (add_le (add_le (lit_le (by kernel_rfl!)) hn) (lit_le (by kernel_rfl!))) hw) (lit_le (by kernel_rfl!)) (by decide) ?_
 walk_at "T"
 refine Bin.add_of (m := 100 + 100 + 100 + 100 + 100) (n := 100000) (add_le (add_le (add_le (add_le (lit_le (by kernel_rfl!)) hn) (lit_le (by kernel_rfl!))) hw) (lit_le (by kernel_rfl!))) (S_le hl) (by decide) ?_
 walk_at "T"
 refine Bin.add_of (m := 100 + 100 + 100 + 100 + 100 + 100000) (n := 100) (add_le (add_le (add_le (add_le (add_le (lit_le (by kernel_rfl!)) hn) (lit_le (by kernel_rfl!))) hw) (lit_le (by kernel_rfl!))) (S_le hl)) (lit_le (by kernel_rfl!)) (by decide) ?_
 walk_at "T"
 refine Bin.add_of (m := 100) (n := 100) (lit_le (by kernel_rfl!)) hk (by decide) ?_
 walk_at "T"
 walk_at "E"; exact h
theorem law_refusal_T {ops : Kv} {why : Str} {word : String} (hE : EndR ops [118] (.bad why word)) (hhd : c.hd = false) (hr : 11 ≤ c.room)
  (h : Q (.d (.tuple [.int 1, .str why, .tuple [.str "TCL", .str "RESULT", .str word]])) st) : TC c st (.ref 353) [.d (.list (ops.map pairD))] Q X := by
 refine enter_law_refusalC [] st.mu rfl hhd (rm0 hr rfl) fun o ho' hF hsc => ?_
 with_reducible refine' absN ?e fun K0 hK0 => ?_
 case e => exact rfl
 refine TS_try_as hF (by with_reducible (repeat (first | exact mem_h | apply mem_t))) (by with_reducible (repeat (first | exact mem_h | apply mem_t))) (by show ∀ y ∈ o.env.scope.names, y.2 ≠ .cell; rw [hsc]; intro y hy; have : ((fdOf 52).2.2.names.all fun y => y.2 != .cell) = true := (by kernel_rfl!); exact bne_iff_ne.mp (List.all_eq_true.mp this y hy)) ?_ (by rfl)
 walk_at "T"
 refine end_raised_T (value := [118]) hE rfl (by walk_at "RM") ?_
 unfold EQ
 intro e dx T
 refine i11 _ (by with_reducible (repeat (first | exact StoreAt.here | apply StoreAt.there))) ?_
 walk_at "T"
 refine i54 e dx _ _ _ rfl .here pl_code errF_code ?_
 walk_at "T"
 refine i54 e dx _ _ _ rfl .here pl_value errF_value ?_
 walk_at "T"
 refine i54 e dx _ _ _ rfl .here pl_errorcode errF_ec ?_
 walk_at "T"
 exact hK0 _ _ h
end
end
section
section
variable {c : Cx} {st : St} {X : Flds → List (Option AV) → Prop} {Q : AV → St → Prop}
theorem law_flat_T {cd : PyData} {code level ret : Int} {value ct info : List Nat} {others : Kv} (hl : others.length ≤ 1000) (hcd : (code = 1 ∨ (code = 2 ∧ ret = 1)) → cd = .str (S ct)) (hlv : code ≠ 2 → level = 0)
  (hi : istrOk (if code = 2 then ret else code) ∧ istrOk level) (hhd : c.hd = false) (hr : 1 ≤ c.room)
  (h : Q (.d (.list (txs (optItems code level ret ct info value others)))) st) : TC c st (.ref 327) [.d (drawnD code value cd level ret info others)] Q X := by
 refine enter_law_flat [] st.mu rfl hhd (rm0 hr rfl) fun o ho' hF => ?_
 with_reducible refine' absN ?e fun K0 hK0 => ?_
 case e => exact rfl
 unfold drawnD
 walk_at "V"
 have hlevel : (if code = 2 then level else 0) = level := by
  split
  ·rfl
  ·rename_i q; exact (hlv q).symm
 with_reducible refine TL_c (TS_sq (fun st1 => st1 = ⟨[some (.d (drawnD code value cd level ret info others)), some (.d (.int code)), some (.d (.str (S value))), some (.d cd), some (.d (.int level)), some (.d (.int ret)), some (.d (.str (S info))), some (.d (.list (others.map pairD))), some (.d (.list (txs [nCode, istr (if code = 2 then ret else code), nLevel, istr level]))), none, none], []⟩) (fun K2 hK2 => T.conseq ?_ hK2 fun _ _ x => x) fun st1 e1 => ?_)
 ·walk_at "V"
  refine TE_lst ?_
  walk_at "V"
  refine ite_eq (fun q => ?_) fun q => ?_ <;> walk_at "V"
  ·rw [if_pos q] at hi ⊢
   refine TC_str_int hi.1 ?_
   walk_at "V"
   refine TC_str_int hi.2 ?_
   walk_at "V"
   walk_at "K"; exact Seq.next rfl
  ·rw [if_neg q] at hi ⊢
   refine TC_str_int hi.1 ?_
   walk_at "V"
   refine TC_str_int hi.2 ?_
   walk_at "V"
   walk_at "K"; exact Seq.next rfl
 subst e1
 have hopt : [nCode, istr (if code = 2 then ret else code), nLevel, istr level] ++ errOpts code ret ct info value ++ flatP others = optItems code level ret ct info value others := by
  unfold optItems; rw [hlevel]
 generalize hP : [nCode, istr (if code = 2 then ret else code), nLevel, istr level] = P at *
 have hPl : P.length = 4 := by rw [← hP]; rfl
 -- what the three ifs make of it
 with_reducible refine TL_c (TS_sq (fun st1 => st1 = ⟨[some (.d (drawnD code value cd level ret info others)), some (.d (.int code)), some (.d (.str (S value))), some (.d cd), some (.d (.int level)), some (.d (.int ret)), some (.d (.str (S info))), some (.d (.list (others.map pairD))), some (.d (.list (txs (if code = 1 then P ++ errOpts code ret ct info value else P)))), none, none], []⟩) (fun K3 hK3 => T.conseq ?_ hK3 fun _ _ x => x) fun st1 e1 => ?_)
 ·walk_at "V"
  refine ite_eq (fun q => ?_) fun q => ?_ <;> walk_at "V"
  ·obtain rfl := hcd (.inl q)
   rw [if_pos q]
   with_reducible refine TL_c ?_
   walk_at "V"
   refine TE_lst ?_
   walk_at "V"
   have fin : ∀ v : List Nat, v = (if info = [] then value else info) → P ++ [nEC, ct, nEI, v] = P ++ errOpts code ret ct info value := fun v hv => by
    unfold errOpts; rw [if_pos q, hv]
   by_cases hi0 : info = []
   ·subst hi0
    refine ite_f (by decide) ?_
    walk_at "V"
    refine Bin.add_list (by rw [txs_len, hPl]; show 4 + 4 ≤ _; exact fg (.le (.a (.c 4) (.c 4)) (.c 1000000)) [] [1] [] rfl [] []) ?_
    walk_at "V"
    walk_at "K"; refine Seq.next ?_
    rw [← fin value rfl, ← txs_append]
    rfl
   ·refine ite_t (bne_iff_ne.mpr fun k => hi0 (S_eq_nil k)) ?_
    walk_at "V"
    refine Bin.add_list (by rw [txs_len, hPl]; show 4 + 4 ≤ _; exact fg (.le (.a (.c 4) (.c 4)) (.c 1000000)) [] [1] [] rfl [] []) ?_
    walk_at "V"
    walk_at "K"; refine Seq.next ?_
    rw [← fin info (by rw [if_neg hi0]), ← txs_append]
    rfl
  ·rw [if_neg q]
   walk_at "K"; exact Seq.next rfl
 subst e1
 have loop : ∀ L : List (List Nat), L.length ≤ 10 → L ++ flatP others = optItems code level ret ct info value others → TL (mkCx ["drawn", "code", "value", "coded", "level", "ret", "info", "others", "flat", "name", "text"] [("str", .type "str")] (c.room - 1) o) ⟨[some (.d (drawnD code value cd level ret info others)), some (.d (.int code)), some (.d (.str (S value))), some (.d cd), some (.d (.int level)), some (.d (.int ret)), some (.d (.str (S info))), some (.d (.list (others.map pairD))), some (.d (.list (txs L))), none, none], []⟩ ((fdOf 48).2.1.drop 5) K0 (fun fs _ => X fs st.loc) := by
  intro L hL hLo
  refine TL_c (TS_sq (fun st1 => ∃ x y, st1 = ⟨[some (.d (drawnD code value cd level ret info others)), some (.d (.int code)), some (.d (.str (S value))), some (.d cd), some (.d (.int level)), some (.d (.int ret)), some (.d (.str (S info))), some (.d (.list (others.map pairD))), some (.d (.list (txs (L ++ flatP others)))), x, y], []⟩) (fun K4 hK4 => ?_) fun st1 => exI fun x => exI fun y => fun e1 => ?_)
  ·refine TS_fr (S := fun σ : Kv × Option AV × Option AV => ⟨[some (.d (drawnD code value cd level ret info others)), some (.d (.int code)), some (.d (.str (S value))), some (.d cd), some (.d (.int level)), some (.d (.int ret)), some (.d (.str (S info))), some (.d (.list (others.map pairD))), some (.d (.list (txs (L ++ flatP σ.1)))), σ.2.1, σ.2.2], []⟩)
    (I := fun xs σ => ∃ r, xs = r.map pairD ∧ σ.1 ++ r = others) hF ?_ (by intro _; rfl)
   walk_at "T"
   refine i24 (others.map pairD) ([], none, none) Iters.list ?_ (i11 others rfl rfl) (fun o' ho'' hF' x xs σ hI K1 hK1 => ?_) (fun σ hI => ?_)
   ·show Le ⟨[_, _, _, _, _, _, _, _, some (.d (.list (txs (L ++ [])))), _, _], _⟩ _
    rw [List.append_nil]
    walk_at "LE"
   ·refine o11 hI fun r hx h1 => ?_
    try clear hI
    cases r with
    | nil => cases hx
    | cons p r =>
     obtain ⟨rfl, rfl⟩ : x = pairD p ∧ xs = r.map pairD := by
      have := List.cons.inj hx; exact ⟨this.1, this.2⟩
     have hl2 : σ.1.length + (r.length + 1) ≤ 1000 := by rw [← h1] at hl; simpa using hl
     show TT _ _ _ (.d (.tuple [.str (S p.1), .str (S p.2)])) _ _
     walk_at "T"
     refine TE_lst ?_
     walk_at "T"
     refine Bin.add_list (by rw [txs_len, List.length_append, flatP_len]; show _ + 2 ≤ _; exact fg (.le (.a (.a (.v 0) (.m 2 (.v 1))) (.c 2)) (.c 1000000)) [.le (.v 0) (.c 10),.le (.a (.v 1) (.a (.v 2) (.c 1))) (.c 1000)] [1,1,2] [0,0,2] rfl [_,_,_] [] hL hl2) ?_
     rw [show (txs (L ++ flatP σ.1) ++ [PyData.str (S p.1), .str (S p.2)]) = txs (L ++ flatP (σ.1 ++ [p])) by rw [flatP_append, ← List.append_assoc, ← txs_append (L ++ flatP σ.1)]; rfl]
     walk_at "T"
     exact i11 (σ.1 ++ [p], some (.d (.str (S p.1))), some (.d (.str (S p.2)))) (by walk_at "LE") (i11 r rfl (by rw [← h1]; simp))
   ·refine o11 hI fun r hx h1 => ?_
    try clear hI
    cases r with
    | nil => walk_at "K"; exact Seq.next (i20 σ.2.1 σ.2.2 (by rw [← h1, List.append_nil]))
    | cons ch r => cases hx
  subst e1
  walk_at "T"
  rw [hLo]
  walk_at "E"; exact h
 have step2 : ∀ L : List (List Nat), L.length ≤ 8 → (¬ (code = 2 ∧ ret = 1) → L ++ flatP others = optItems code level ret ct info value others) → (code = 2 ∧ ret = 1 → L ++ (if info = [] then [] else [nEI, info]) ++ flatP others = optItems code level ret ct info value others) → TL (mkCx ["drawn", "code", "value", "coded", "level", "ret", "info", "others", "flat", "name", "text"] [("str", .type "str")] (c.room - 1) o) ⟨[some (.d (drawnD code value cd level ret info others)), some (.d (.int code)), some (.d (.str (S value))), some (.d cd), some (.d (.int level)), some (.d (.int ret)), some (.d (.str (S info))), some (.d (.list (others.map pairD))), some (.d (.list (txs L))), none, none], []⟩ ((fdOf 48).2.1.drop 4) K0 (fun fs _ => X fs st.loc) := by
  intro L hL h1 h2
  refine TL_c ?_
  walk_at "V"
  refine ite_eq (fun q => ?_) fun q => ?_ <;> walk_at "V"
  ·refine ite_eq (fun q2 => ?_) fun q2 => ?_ <;> walk_at "V"
   ·have h2 := h2 ⟨q, q2⟩
    by_cases hi0 : info = []
    ·subst hi0
     refine ite_f (by decide) ?_
     walk_at "V"
     exact loop L (by exact fg (.le (.v 0) (.c 10)) [.le (.v 0) (.c 8)] [1,1] [] rfl [_] [] hL) (by simpa using h2)
    ·refine ite_t (bne_iff_ne.mpr fun k => hi0 (S_eq_nil k)) ?_
     walk_at "V"
     with_reducible refine TL_c ?_
     walk_at "V"
     refine TE_lst ?_
     walk_at "V"
     refine Bin.add_list (by rw [txs_len]; show _ + 2 ≤ _; exact fg (.le (.a (.v 0) (.c 2)) (.c 1000000)) [.le (.v 0) (.c 8)] [1,1] [] rfl [_] [] hL) ?_
     rw [show (txs L ++ [PyData.str (Str.ofString "-errorinfo"), .str (S info)]) = txs (L ++ [nEI, info]) by rw [← txs_append]; rfl]
     walk_at "V"
     exact loop _ (by simp; exact fg (.le (.v 0) (.c 8)) [.le (.v 0) (.c 8)] [1,1] [] rfl [_] [] hL) (by rw [if_neg hi0] at h2; exact h2)
   ·exact loop L (by exact fg (.le (.v 0) (.c 10)) [.le (.v 0) (.c 8)] [1,1] [] rfl [_] [] hL) (h1 fun k => q2 k.2)
  ·exact loop L (by exact fg (.le (.v 0) (.c 10)) [.le (.v 0) (.c 8)] [1,1] [] rfl [_] [] hL) (h1 fun k => q k.1)
 with_reducible refine TL_c ?_
 walk_at "V"
 refine ite_eq (fun q => ?_) fun q => ?_ <;> walk_at "V"
 ·have q1 : code ≠ 1 := by omega
  rw [if_neg q1]
  refine ite_eq (fun q2 => ?_) fun q2 => ?_ <;> walk_at "V"
  ·obtain rfl := hcd (.inr ⟨q, q2⟩)
   have he := @errOpts_r code ret ct info value q1 q q2
   by_cases hn : ct = nNONE
   ·subst hn
    walk_at "V"
    refine ite_f (by decide) ?_
    walk_at "V"
    exact step2 P (by exact fg (.le (.v 0) (.c 8)) [.eq (.v 0) (.c 4)] [1,1] [] rfl [_] [] hPl) (fun k => absurd ⟨q, q2⟩ k) fun _ => by rw [← hopt, he, if_pos rfl]; simp
   ·walk_at "V"
    refine ite_t (bne_iff_ne.mpr fun k => hn (S_inj k)) ?_
    walk_at "V"
    with_reducible refine TL_c ?_
    walk_at "V"
    refine TE_lst ?_
    walk_at "V"
    refine Bin.add_list (by rw [txs_len, hPl]; show 4 + 2 ≤ _; exact fg (.le (.a (.c 4) (.c 2)) (.c 1000000)) [] [1] [] rfl [] []) ?_
    rw [show (txs P ++ [PyData.str (Str.ofString "-errorcode"), .str (S ct)]) = txs (P ++ [nEC, ct]) by rw [← txs_append]; rfl]
    walk_at "V"
    exact step2 _ (by simp; exact fg (.le (.v 0) (.c 6)) [.eq (.v 0) (.c 4)] [1,1] [] rfl [_] [] hPl) (fun k => absurd ⟨q, q2⟩ k) fun _ => by rw [← hopt, he, if_neg hn]; simp
  ·refine step2 P (by exact fg (.le (.v 0) (.c 8)) [.eq (.v 0) (.c 4)] [1,1] [] rfl [_] [] hPl) (fun _ => ?_) fun k => absurd k.2 q2
   rw [← hopt]; unfold errOpts; rw [if_neg q1, if_neg fun k => q2 k.2]; simp
 ·have hne : errOpts code ret ct info value = if code = 1 then errOpts code ret ct info value else [] := by
   split
   ·rfl
   ·rename_i q1; unfold errOpts; rw [if_neg q1, if_neg fun k => q k.1]
  refine step2 _ ?_ (fun _ => ?_) fun k => absurd k.1 q
  ·split
   ·rw [List.length_append, hPl]
    have := @errOpts_len code ret ct info value
    exact fg (.le (.a (.c 4) (.v 0)) (.c 8)) [.le (.v 0) (.c 4)] [1,1] [] rfl [_] [] this
   ·exact fg (.le (.v 0) (.c 8)) [.eq (.v 0) (.c 4)] [1,1] [] rfl [_] [] hPl
  ·rw [← hopt, hne]
   split <;> simp
end
end
section
noncomputable def lastV : Kv → List Nat → List Nat → List Nat
 | [], _, d => d
 | p :: r, k, d => lastV r k (if p.1 = k then p.2 else d)
theorem lastV_snoc (k : List Nat) (p : List Nat × List Nat) : ∀ (r : Kv) (d : List Nat), lastV (r ++ [p]) k d = if p.1 = k then p.2 else lastV r k d
 | [], d => rfl
 | q :: r, d => lastV_snoc k p r _
theorem getK_cons (p : List Nat × List Nat) (kv : Kv) (k d : List Nat) : getK (p :: kv) k d = if p.1 = k then p.2 else getK kv k d := by
 unfold getK
 by_cases h : p.1 = k
 ·rw [List.find?_cons_of_pos (by simpa using h), if_pos h]
 ·rw [List.find?_cons_of_neg (by simpa using h), if_neg h]
theorem getK_putK (k v k' d : List Nat) : ∀ kv : Kv, getK (putK kv k v) k' d = if k = k' then v else getK kv k' d
 | [] => by
  show getK [(k, v)] k' d = _
  rw [getK_cons]
 | p :: kv => by
  have ih := getK_putK k v k' d kv
  by_cases h : p.1 = k
  ·have e : putK (p :: kv) k v = (p.1, v) :: kv.map (fun p => if p.1 = k then (p.1, v) else p) := by
    unfold putK
    rw [if_pos (by simp [h]), List.map_cons, if_pos h]
   rw [e, getK_cons, getK_cons]
   by_cases h2 : k = k'
   ·rw [if_pos (by rw [h, h2]), if_pos h2]
   ·rw [if_neg (by rw [h]; exact h2), if_neg h2, if_neg (by rw [h]; exact h2)]
    clear ih e
    induction kv with
    | nil => rfl
    | cons q kv ih =>
     rw [List.map_cons, getK_cons]
     by_cases h3 : q.1 = k
     ·rw [if_pos h3, getK_cons, if_neg (show ¬ q.1 = k' by rw [h3]; exact h2), if_neg (show ¬ q.1 = k' by rw [h3]; exact h2)]; exact ih
     ·rw [if_neg h3, getK_cons, ih]
  ·by_cases hany : kv.any (fun p => decide (p.1 = k)) = true
   ·have e : putK (p :: kv) k v = p :: putK kv k v := by
     unfold putK
     rw [if_pos (by rw [List.any_cons, hany, Bool.or_true]), if_pos hany, List.map_cons, if_neg h]
    rw [e, getK_cons, getK_cons, ih]
    by_cases h2 : k = k'
    ·rw [if_neg (show ¬ p.1 = k' by rw [← h2]; exact h), if_pos h2, if_pos h2]
    ·rw [if_neg h2, if_neg h2]
   ·have e : putK (p :: kv) k v = p :: putK kv k v := by
     unfold putK
     rw [if_neg (by rw [List.any_cons]; simp only [h, decide_false, Bool.false_or]; exact hany), if_neg hany]; rfl
    rw [e, getK_cons, getK_cons, ih]
    by_cases h2 : k = k'
    ·rw [if_neg (show ¬ p.1 = k' by rw [← h2]; exact h), if_pos h2, if_pos h2]
    ·rw [if_neg h2, if_neg h2]
theorem getK_putAll (k d : List Nat) : ∀ (r acc : Kv), getK (putAll acc r) k d = lastV r k (getK acc k d)
 | [], acc => rfl
 | p :: r, acc => by
  show getK (putAll (putK acc p.1 p.2) r) k d = lastV r k _
  rw [getK_putAll k d r, getK_putK]
theorem getK_mem (d : List Nat) : ∀ {kv : Kv} {p : List Nat × List Nat}, (kv.map (·.1)).Nodup → p ∈ kv → getK kv p.1 d = p.2
 | q :: kv, p, nd, h => by
  have nd' := List.nodup_cons.mp nd
  rw [getK_cons]
  rcases List.mem_cons.mp h with rfl | h
  ·rw [if_pos rfl]
  ·rw [if_neg (fun e => nd'.1 (by show q.1 ∈ kv.map (·.1); rw [e]; exact List.mem_map.mpr (i11 p h rfl)))]
   exact getK_mem d nd'.2 h
theorem lastV_eq (kv : Kv) : (putAll [] kv).map (fun p => (p.1, lastV kv p.1 [])) = putAll [] kv := by
 have : ∀ p ∈ putAll [] kv, (p.1, lastV kv p.1 []) = p := fun p hp => by
  have h1 := getK_putAll p.1 [] kv []
  rw [getK_mem [] (putAll_nodup kv [] .nil) hp] at h1
  rw [show getK [] p.1 [] = [] from rfl] at h1
  rw [← h1]
 calc _ = (putAll [] kv).map id := List.map_congr_left fun p hp => this p hp
  _ = _ := by simp
theorem last_filter (k : List Nat) : ∀ (kv : Kv) (d : List Nat), ((kv.filter fun p => decide (p.1 = k)).map (·.2)).getLast?.getD d = lastV kv k d
 | [], d => rfl
 | p :: r, d => by
  by_cases h : p.1 = k
  ·rw [List.filter_cons_of_pos (by simpa using h), List.map_cons, lastV, if_pos h, ← last_filter k r p.2]
   rw [List.getLast?_cons]; rfl
  ·rw [List.filter_cons_of_neg (by simpa using h), lastV, if_neg h]
   exact last_filter k r d
theorem putK_keys (kv : Kv) (k v : List Nat) : (putK kv k v).map (·.1) = if (kv.map (·.1)).contains k then kv.map (·.1) else kv.map (·.1) ++ [k] := by
 have e : kv.any (fun p => decide (p.1 = k)) = (kv.map (·.1)).contains k := by
  rw [List.contains_eq_any_beq, List.any_map]
  congr 1
  funext p
  show decide (p.1 = k) = (k == p.1)
  rw [Bool.eq_iff_iff, decide_eq_true_eq, beq_iff_eq]; exact eq_comm
 unfold putK
 rw [e]
 by_cases h : (kv.map (·.1)).contains k = true
 ·rw [if_pos h, if_pos h, List.map_map]
  congr 1
  funext q; simp only [Function.comp]; split <;> rfl
 ·rw [if_neg h, if_neg h]; simp
theorem putAll_keys : ∀ (r acc : Kv) {k : List Nat}, k ∈ (putAll acc r).map (·.1) → k ∈ acc.map (·.1) ∨ ∃ p ∈ r, p.1 = k
 | [], acc, k, h => .inl h
 | p :: r, acc, k, h => by
  rcases putAll_keys r (putK acc p.1 p.2) h with h | ⟨q, hq, e⟩
  ·rw [putK_keys] at h
   split at h
   ·exact .inl h
   ·rcases List.mem_append.mp h with h | h
    ·exact .inl h
    ·exact .inr (i11 p (.head _) ((List.mem_singleton.mp h).symm))
  ·exact .inr (i11 q (.tail _ hq) e)
theorem putAll_snoc (acc : Kv) (r : Kv) (p : List Nat × List Nat) : putAll acc (r ++ [p]) = putK (putAll acc r) p.1 p.2 := putAll_append acc r [p]
section
variable {c : Cx} {st : St} {X : Flds → List (Option AV) → Prop} {Q : AV → St → Prop}
theorem law_last_T {kv : Kv} (hl : kv.length ≤ 900) (hhd : c.hd = false) (hr : 1 ≤ c.room)
  (h : ∀ D, Q (.v (.ref D)) ⟨st.loc, (D, .list ((putAll [] kv).map pairD)) :: st.mu⟩) : TC c st (.ref 320) [.d (.list (kv.map pairD))] Q X := by
 refine enter_law_last [] st.mu rfl hhd (rm0 hr rfl) fun o ho' hF hsc => ?_
 with_reducible refine' absN ?e fun K0 hK0 => ?_
 case e => exact rfl
 walk_at "T"
 refine TE_lmu ?_
 walk_at "T"
 intro a
 walk_at "V"
 have hpl := putAll_len kv []
 simp only [List.length_nil, Nat.zero_add] at hpl
 with_reducible refine TL_c (TS_sq (fun st1 => ∃ x y, st1 = ⟨[some (.d (.list (kv.map pairD))), some (.v (.ref a)), x, y], [(a, .list (txs ((putAll [] kv).map (·.1))))]⟩) (fun K2 hK2 => ?_) fun st1 => exI fun x => exI fun y => fun e1 => ?_)
 ·refine TS_fr (S := fun σ : List (List Nat) × Option AV × Option AV => ⟨[some (.d (.list (kv.map pairD))), some (.v (.ref a)), σ.2.1, σ.2.2], [(a, .list (txs σ.1))]⟩)
   (I := fun xs σ => ∃ pre r, pre ++ r = kv ∧ xs = r.map pairD ∧ σ.1 = (putAll [] pre).map (·.1)) hF ?_ (by intro _; rfl)
  walk_at "T"
  refine i24 _ ([], none, none) Iters.list (show Le ⟨[some (.d (.list (kv.map pairD))), some (.v (.ref a)), none, none], [(a, .list [])]⟩ _ by walk_at "LE") (i22 [] kv rfl rfl rfl) (fun o' ho'' hF' x xs σ hI K1 hK1 => ?_) (fun σ hI => ?_)
  ·refine o22 hI fun pre r hp hx1 _ => ?_
   clear hI
   rename_i hI
   cases r with
   | nil => cases hx1
   | cons p r =>
    obtain ⟨rfl, rfl⟩ : x = pairD p ∧ xs = r.map pairD := by
     have := List.cons.inj hx1; exact ⟨this.1, this.2⟩
    have hsl : σ.1.length ≤ kv.length := by
     rw [hI, List.length_map]
     have h1 := putAll_len pre []
     have h2 : pre.length ≤ kv.length := by rw [← hp]; simp
     simp only [List.length_nil, Nat.zero_add] at h1
     exact fg (.le (.v 2) (.v 1)) [.le (.v 0) (.v 1),.le (.v 2) (.v 0)] [1,1,1] [] rfl [_,_,_] [] h2 h1
    have hnext : (putAll [] (pre ++ [p])).map (·.1) = if σ.1.contains p.1 then σ.1 else σ.1 ++ [p.1] := by
     rw [putAll_snoc, putK_keys, hI]
    show TT _ _ _ (.d (.tuple [.str (S p.1), .str (S p.2)])) _ _
    walk_at "T"
    rw [txs_map]
    refine Cm_i (Cmp.notIn_mu (by walk_at "MA")) ?_
    rw [strsIn_txs, ← txs_map]
    cases hc : σ.1.contains p.1 with
    | true =>
     refine ite_f rfl ?_
     walk_at "T"
     exact i11 (σ.1, some (.d (.str (S p.1))), some (.d (.str (S p.2)))) (by walk_at "LE") (i22 (pre ++ [p]) r (by rw [← hp]; simp) rfl (by rw [hnext, if_pos hc]))
    | false =>
     refine ite_t rfl ?_
     walk_at "T"
     refine TC_app (by walk_at "MS") (by rw [txs_len]; (try dsimp only); exact fg (.lt (.v 1) (.c 1000000)) [.le (.v 0) (.c 900),.le (.v 1) (.v 0)] [1,1,1] [] rfl [_,_] [] hl hsl) ?_
     rw [txs_snoc]
     walk_at "T"
     exact i11 (σ.1 ++ [p.1], some (.d (.str (S p.1))), some (.d (.str (S p.2)))) (by walk_at "LE") (i22 (pre ++ [p]) r (by rw [← hp]; simp) rfl (by rw [hnext, if_neg (by rw [hc]; decide)]))
  ·refine o22 hI fun pre r hp hx1 _ => ?_
   clear hI
   rename_i hI
   cases r with
   | nil =>
    walk_at "K"; refine Seq.next (i20 σ.2.1 σ.2.2 ?_)
    rw [hI, ← hp, List.append_nil]
   | cons ch r => cases hx1
 subst e1
 generalize hks : (putAll [] kv).map (·.1) = ks
 have hksl : ks.length ≤ 900 := by rw [← hks, List.length_map]; exact fg (.le (.v 1) (.c 900)) [.le (.v 0) (.c 900),.le (.v 1) (.v 0)] [1,1,1] [] rfl [_,_] [] hl hpl
 have hkin : ∀ k ∈ ks, ∃ p ∈ kv, p.1 = k := fun k hk => by
  rw [← hks] at hk
  exact (putAll_keys kv [] hk).resolve_left fun q => nomatch q
 refine TL_freeze MuOut.here (by with_reducible (repeat (first | exact Frz.nil | apply Frz.frz | apply Frz.same))) ?_
 with_reducible refine TL_c (TS_rt ?_)
 refine TE_comp (M := fun _ : Unit => []) (I := fun xs out _ => ∃ pre r, pre ++ r = ks ∧ xs = txs r ∧ out = (pre.map fun k => (k, lastV kv k [])).map pairD) true ["pairs"] [some (.d (.list (kv.map pairD)))] [] hsc (by kernel_rfl!) (fun P => by kernel_rfl!) rfl (.cons (by with_reducible (repeat (first | exact NameAt.here | apply NameAt.there))) .nil) (fun xs out a hI => ?_) ?_ (fun _ => rfl)
 ·refine o22 hI fun pre r h1 _ zz1 => ?_
  try clear hI
  subst zz1
  have : pre.length ≤ ks.length := by rw [← h1]; simp
  simp; exact fg (.le (.v 1) (.c 1000)) [.le (.v 0) (.c 900),.le (.v 1) (.v 0)] [1,1,1] [] rfl [_,_] [] hksl this
 walk_at "T"
 refine i24 _ () Iters.list rfl (i22 [] ks rfl rfl rfl) (fun o' ho'' hsc' D y xs out _ hI => ?_) (fun out _ D hI => ?_)
 ·refine o22 hI fun pre r h1 hx1 zz1 => ?_
  try clear hI
  subst zz1
  cases r with
  | nil => cases hx1
  | cons k r =>
   obtain ⟨rfl, rfl⟩ : y = .str (S k) ∧ xs = txs r := by
    have := List.cons.inj hx1; exact ⟨this.1, this.2⟩
   refine TI_nil ?_
   refine ite_t rfl ?_
   walk_at "V"
   refine TE_freeze ?_
   refine TE_comp (M := fun _ : Unit => [(D, .list ((pre.map fun k => (k, lastV kv k [])).map pairD))]) (I := fun xs out _ => ∃ pr r, pr ++ r = kv ∧ xs = r.map pairD ∧ out = txs ((pr.filter fun p => decide (p.1 = k)).map (·.2))) false ["name"] [some (.d (.str (S k)))] [] hsc' (by kernel_rfl!) (fun P => by kernel_rfl!) rfl (.cons (by with_reducible (repeat (first | exact NameAt.here | apply NameAt.there))) .nil) (fun xs out a hI => ?_) ?_ (fun _ => rfl)
   ·refine o22 hI fun pr r h1 _ zz1 => ?_
    try clear hI
    subst zz1
    have h2 : pr.length ≤ kv.length := by rw [← h1]; simp
    have h3 := List.length_filter_le (fun p : List Nat × List Nat => decide (p.1 = k)) pr
    rw [txs_len, List.length_map]; exact fg (.le (.v 2) (.c 1000)) [.le (.v 0) (.c 900),.le (.v 1) (.v 0),.le (.v 2) (.v 1)] [1,1,1,1] [] rfl [_,_,_] [] hl h2 h3
   walk_at "V"
   refine i24 _ () Iters.list rfl (i22 [] kv rfl rfl rfl) (fun o2 ho2 hsc2 D2 y xs out _ hI => ?_) (fun out _ D2 hI => ?_)
   ·refine o22 hI fun pr r2 h2 hx2 zz1 => ?_
    try clear hI
    subst zz1
    cases r2 with
    | nil => cases hx2
    | cons p r2 =>
     obtain ⟨rfl, rfl⟩ : y = pairD p ∧ xs = r2.map pairD := by
      have := List.cons.inj hx2; exact ⟨this.1, this.2⟩
     refine TI_one ?_
     unfold pairD
     walk_at "V"
     refine Item.tuple (by decide) rfl (by simp) ?_
     walk_at "V"
     refine ite_seq (fun q => ?_) fun q => ?_
     ·have q : p.1 = k := S_inj q
      walk_at "V"
      refine Item.tuple (i := 1) (by decide) rfl (by simp) ?_
      walk_at "V"
      refine i22 (.str (S p.2)) () rfl rfl (i22 (pr ++ [p]) r2 (by rw [← h2]; simp) rfl ?_)
      rw [List.filter_append, List.filter_cons_of_pos (by simpa using q), List.filter_nil, List.map_append, ← txs_append]; rfl
     ·have q : ¬ p.1 = k := fun e => q (by rw [e])
      refine i11 () rfl (i22 (pr ++ [p]) r2 (by rw [← h2]; simp) rfl ?_)
      rw [List.filter_append, List.filter_cons_of_neg (by simpa using q), List.filter_nil, List.append_nil]
   ·refine o22 hI fun pr r2 h2 hx2 zz1 => ?_
    try clear hI
    subst zz1
    cases r2 with
    | cons p r2 => cases hx2
    | nil =>
     have hpr : pr = kv := by simpa using h2
     rw [hpr]
     refine i32 D2 _ _ rfl .here ?_
     walk_at "V"
     have hne : ((kv.filter fun p => decide (p.1 = k)).map (·.2)) ≠ [] := by
      refine o11 (hkin k (by rw [← h1]; simp)) fun p hp he => ?_
      intro e
      have := List.map_eq_nil_iff.mp e
      have hm : p ∈ kv.filter (fun p => decide (p.1 = k)) := List.mem_filter.mpr ⟨hp, by simpa using he⟩
      rw [this] at hm
      cases hm
     have hlast := last_filter k kv []
     generalize hvs : (kv.filter fun p => decide (p.1 = k)).map (·.2) = vs at *
     have hvl : vs.length ≤ 900 := by
      rw [← hvs, List.length_map]
      have := List.length_filter_le (fun p : List Nat × List Nat => decide (p.1 = k)) kv
      exact fg (.le (.v 1) (.c 900)) [.le (.v 0) (.c 900),.le (.v 1) (.v 0)] [1,1,1] [] rfl [_,_] [] hl this
     have hpos : 0 < vs.length := List.length_pos_iff.mpr hne
     refine Item.list_last (p := .str (S (lastV kv k []))) (by decide) (by rw [txs_len]; (try dsimp only); exact fg (.ile (.g (.n (.v 0))) (.g (.c 1))) [.lt (.c 0) (.v 0)] [1,1] [] rfl [_] [] hpos) ?_ (by rw [txs_len]; (try dsimp only); exact fg (.le (.v 0) (.c 1000000)) [.le (.v 0) (.c 900)] [1,1] [] rfl [_] [] hvl) ?_
     ·rw [txs_len, show ((-1 : Int) + (vs.length : Nat)).toNat = vs.length - 1 from m1 hpos]
      unfold txs
      rw [List.getElem?_map, ← hlast, List.getLast?_eq_getElem?]
      rw [List.getElem?_eq_getElem (by exact Nat.sub_one_lt_of_lt hpos)]
      rfl
     walk_at "V"
     refine i22 (pairD (k, lastV kv k [])) () rfl rfl (i22 (pre ++ [k]) r (by rw [← h1]; simp) rfl (by simp))
 ·refine o22 hI fun pre r h1 hx1 zz1 => ?_
  try clear hI
  subst zz1
  cases r with
  | cons k r => cases hx1
  | nil =>
   obtain rfl : pre = ks := by simpa using h1
   walk_at "V"
   have e : (pre.map fun k => (k, lastV kv k [])) = putAll [] kv := by rw [← hks, List.map_map]; exact lastV_eq kv
   rw [e]
   walk_at "E"; exact h D
end
end
section
noncomputable def dueD : ERes → PyData
 | .ok code value ec level ret info extra => drawnD code value ec level ret info extra
 | _ => .none
noncomputable def againD (code : Int) (value : List Nat) (cd : PyData) (level ret : Int) (info : List Nat) (others : Kv) : PyData :=
 drawnD code value cd (if ret = 2 then level + 1 else level) (if ret = 2 then 0 else ret) (if code = 1 ∧ info = [] then value else info) (putAll [] others)
section
variable {c : Cx} {st : St} {X : Flds → List (Option AV) → Prop} {Q : AV → St → Prop}
theorem law_last_Tf {kv : Kv} (hl : kv.length ≤ 900) (hhd : c.hd = false) (hr : 1 ≤ c.room) (h : Q (.d (.list ((putAll [] kv).map pairD))) st) : TC c st (.ref 320) [.d (.list (kv.map pairD))] Q X :=
 TC_freeze_out (law_last_T hl hhd hr fun D => i32 D _ _ rfl .here h)
theorem law_again_T {cd : PyData} {code level ret : Int} {value info : List Nat} {others : Kv} (hl : others.length ≤ 900) (hhd : c.hd = false) (hr : 2 ≤ c.room)
  (h : Q (.d (againD code value cd level ret info others)) st) : TC c st (.ref 334) [.d (drawnD code value cd level ret info others)] Q X := by
 refine enter_law_again [] st.mu rfl hhd (rm0 hr rfl) fun o ho' hF => ?_
 with_reducible refine' absN ?e fun K0 hK0 => ?_
 case e => exact rfl
 unfold drawnD
 walk_at "V"
 with_reducible refine TL_c (TS_sq (fun st1 => st1 = ⟨[some (.d (drawnD code value cd level ret info others)), some (.d (.int code)), some (.d (.str (S value))), some (.d cd), some (.d (.int level)), some (.d (.int ret)), some (.d (.str (S (if code = 1 ∧ info = [] then value else info)))), some (.d (.list (others.map pairD)))], []⟩) (fun K1 hK1 => ?_) fun st1 e1 => ?_)
 ·walk_at "V"
  refine ite_eq (fun q => ?_) fun q => ?_ <;> walk_at "V"
  ·refine ite_seq (fun q2 => ?_) fun q2 => ?_ <;> walk_at "V"
   ·with_reducible refine TL_c ?_
    walk_at "V"
    walk_at "K"; refine Seq.next ?_
    rw [if_pos (And.intro q (S_eq_nil q2))]; rfl
   ·walk_at "K"; refine Seq.next ?_
    rw [if_neg fun k => q2 (by rw [k.2]; rfl)]; rfl
  ·walk_at "K"; refine Seq.next ?_
   rw [if_neg fun k => q k.1]; rfl
 subst e1
 with_reducible refine TL_c ?_
 walk_at "V"
 unfold againD at h
 generalize (if code = 1 ∧ info = [] then value else info) = info' at *
 refine ite_eq (fun q => ?_) fun q => ?_ <;> walk_at "V"
 ·rw [if_pos q, if_pos q] at h
  with_reducible refine TL_c ?_
  walk_at "V"
  with_reducible refine TL_c ?_
  walk_at "V"
  refine law_last_Tf hl rfl (by walk_at "RM") ?_
  walk_at "V"
  walk_at "E"; exact h
 ·rw [if_neg q, if_neg q] at h
  with_reducible refine TL_c ?_
  walk_at "V"
  refine law_last_Tf hl rfl (by walk_at "RM") ?_
  walk_at "V"
  walk_at "E"; exact h
theorem law_due_T {D : Addr} {kv : Kv} {l : List (Addr × AO)} {code level : Int} {value : List Nat} (hmu : st.mu = (D, .list (kv.map pairD)) :: l) (hl : kv.length ≤ 900) (hself : putAll [] kv = kv) (hhd : c.hd = false) (hr : 1 ≤ c.room)
  (h : Q (.d (dueD (endOf kv code level value))) ⟨st.loc, l⟩) : TC c st (.ref 339) [.v (.ref D), .d (.int code), .d (.int level), .d (.str (S value))] Q X := by
 refine enter_law_due [(D, .list (kv.map pairD))] l hmu hhd (rm0 hr rfl) fun o ho' hF hsc => ?_
 with_reducible refine' absN ?e fun K0 hK0 => ?_
 case e => exact rfl
 walk_at "V"
 refine TC_dict_pairs MuOut.here hl rfl ?_
 rw [hself]
 walk_at "V"
 refine TL_freeze MuOut.here (by with_reducible (repeat (first | exact Frz.nil | apply Frz.frz | apply Frz.same))) ?_
 have rest : ∀ ci lj : Int, Q (.d (dueD (endOf2 kv ci lj value))) ⟨st.loc, l⟩ → TL (mkCx ["pairs", "code", "level", "value", "held", "own", "coded", "info", "others"] [("dict", .type "dict")] (c.room - 1) o ["own"]) ⟨[some (.d (.list (kv.map pairD))), some (.d (.int ci)), some (.d (.int lj)), some (.d (.str (S value))), some (.fd o.w.params (dct kv)), none, none, none, none], []⟩ ((fdOf 50).2.1.drop 2) K0 (fun fs _ => X fs st.loc) := by
  intro ci lj hh
  have rest2 : ¬ (ci = 0 ∧ lj = 0) → TL (mkCx ["pairs", "code", "level", "value", "held", "own", "coded", "info", "others"] [("dict", .type "dict")] (c.room - 1) o ["own"]) ⟨[some (.d (.list (kv.map pairD))), some (.d (.int ci)), some (.d (.int lj)), some (.d (.str (S value))), some (.fd o.w.params (dct kv)), none, none, none, none], []⟩ ((fdOf 50).2.1.drop 3) K0 (fun fs _ => X fs st.loc) := by
   intro hne
   unfold endOf2 at hh
   rw [if_neg hne] at hh
   refine TL_c ?_
   refine TS_at ?_ (by first | kernel_rfl! | with_unfolding_all rfl) (swap_cell3 (.inl (by show o.env.scope.names.lookup _ = _; rw [hsc]; kernel_rfl!)))
   walk_at "V"
   refine TE_lst ?_
   walk_at "V"
   have last : ∀ (ec : PyData) (info : List Nat), ec = (if ci = 1 then .str (S (getK kv nEC nNONE)) else ecNone) → info = (if ci = 1 then getK kv nEI [] else []) → TL (mkCx ["pairs", "code", "level", "value", "held", "own", "coded", "info", "others"] [("dict", .type "dict")] (c.room - 1) o ["own"]) ⟨[some (.d (.list (kv.map pairD))), some (.d (.int ci)), some (.d (.int lj)), some (.d (.str (S value))), some (.fd o.w.params (dct kv)), some (.d (.list (txs (ownOf ci)))), some (.d ec), some (.d (.str (S info))), none], []⟩ ((fdOf 50).2.1.drop 5) K0 (fun fs _ => X fs st.loc) := by
    intro ec info hec hinfo
    rw [← hec, ← hinfo] at hh
    refine TL_c ?_
    refine TS_assign_comp (M := fun _ : Unit => []) (I := fun xs out _ => ∃ pre r, pre ++ r = kv ∧ xs = r.map pairD ∧ out = (pre.filter fun p => !(ownOf ci).contains p.1).map pairD) false ["own"] [some (.d (.list (txs (ownOf ci))))] [] hsc (by kernel_rfl!) (fun P => by kernel_rfl!) rfl rfl (.cons (by with_reducible (repeat (first | exact NameAt.here | apply NameAt.there))) .nil) (fun xs out a hI => ?_) ?_
     (swaps_comp (by show o.env.scope.kind = _; rw [hsc]; kernel_rfl!) (by show o.env.scope.names.lookup _ = _; rw [hsc]; kernel_rfl!) (by kernel_rfl!) (by kernel_rfl!)) (fun _ => rfl)
    ·refine o22 hI fun pre r h1 _ zz1 => ?_
     try clear hI
     subst zz1
     have h2 : pre.length ≤ kv.length := by rw [← h1]; simp
     have h3 := List.length_filter_le (fun p : List Nat × List Nat => !(ownOf ci).contains p.1) pre
     rw [List.length_map]; exact fg (.le (.v 2) (.c 1000)) [.le (.v 0) (.c 900),.le (.v 1) (.v 0),.le (.v 2) (.v 1)] [1,1,1,1] [] rfl [_,_,_] [] hl h2 h3
    walk_at "V"
    refine i24 _ () Iters.list rfl (i22 [] kv rfl rfl rfl) (fun o2 ho2 hsc2 D2 y xs out _ hI => ?_) (fun out _ D2 hI => ?_)
    ·refine o22 hI fun pre r h1 hx zz1 => ?_
     try clear hI
     subst zz1
     cases r with
     | nil => cases hx
     | cons p r =>
      obtain ⟨rfl, rfl⟩ : y = pairD p ∧ xs = r.map pairD := by
       have := List.cons.inj hx; exact ⟨this.1, this.2⟩
      refine TI_one ?_
      unfold pairD
      walk_at "V"
      refine Item.tuple (by decide) rfl (by simp) ?_
      walk_at "V"
      rw [txs_map]
      refine Cm_i (Cmp.notIn_list) ?_
      rw [strsIn_txs]
      cases hc : (ownOf ci).contains p.1 with
      | true =>
       refine ite_f rfl ?_
       refine i11 () rfl (i22 (pre ++ [p]) r (by rw [← h1]; simp) rfl ?_)
       rw [List.filter_append, List.filter_cons_of_neg (by rw [hc]; decide), List.filter_nil, List.append_nil]
      | false =>
       refine ite_t rfl ?_
       walk_at "V"
       refine i22 _ () rfl rfl (i22 (pre ++ [p]) r (by rw [← h1]; simp) rfl ?_)
       rw [List.filter_append, List.filter_cons_of_pos (by rw [hc]; decide), List.filter_nil, List.map_append]; rfl
    ·refine o22 hI fun pre r h1 hx zz1 => ?_
     try clear hI
     subst zz1
     cases r with
     | cons p r => cases hx
     | nil =>
      have hpr : pre = kv := by simpa using h1
      rw [hpr]
      refine i11 _ (by with_reducible (repeat (first | exact StoreAt.here | apply StoreAt.there))) ?_
      refine TL_freeze MuOut.here (by with_reducible (repeat (first | exact Frz.nil | apply Frz.frz | apply Frz.same))) ?_
      with_reducible refine TL_c ?_
      walk_at "V"
      refine ite_d (fun q => ?_) fun q => ?_ <;> walk_at "V"
      ·rw [if_pos q, if_pos q, if_pos q] at hh
       with_reducible refine TL_c ?_
       walk_at "V"
       exact hh
      ·rw [if_neg q, if_neg q, if_neg q] at hh
       with_reducible refine TL_c ?_
       walk_at "V"
       exact hh
   with_reducible refine TL_c ?_
   walk_at "V"
   refine ite_eq (fun q => ?_) fun q => ?_ <;> walk_at "V"
   ·with_reducible refine TL_c ?_
    walk_at "V"
    refine TE_lst ?_
    walk_at "V"
    refine Bin.add_list (by show (2 : Nat) + 2 ≤ _; exact fg (.le (.a (.c 2) (.c 2)) (.c 1000000)) [] [1] [] rfl [] []) ?_
    walk_at "V"
    with_reducible refine TL_c ?_
    walk_at "V"
    refine TC_get ?_
    rw [show (look (dct kv) (Str.ofString "-errorcode")).getD (.str (Str.ofString "NONE")) = .str (S (getK kv nEC nNONE)) from look_getK kv nEC nNONE]
    walk_at "V"
    refine TC_get ?_
    rw [show (look (dct kv) (Str.ofString "-errorinfo")).getD (.str (Str.ofString "")) = .str (S (getK kv nEI [])) from look_getK kv nEI []]
    walk_at "V"
    have e : txs (ownOf ci) = ([PyData.str (Str.ofString "-code"), .str (Str.ofString "-level")] ++ [PyData.str (Str.ofString "-errorcode"), .str (Str.ofString "-errorinfo")]) := by unfold ownOf; rw [if_pos q]; rfl
    rw [← e]
    exact last _ _ (by rw [if_pos q]) (by rw [if_pos q])
   ·have e : txs (ownOf ci) = [PyData.str (Str.ofString "-code"), .str (Str.ofString "-level")] := by unfold ownOf; rw [if_neg q]; rfl
    rw [← e]
    exact last ecNone [] (by rw [if_neg q]) (by rw [if_neg q])
  refine TL_c ?_
  walk_at "V"
  refine ite_eq (fun q => ?_) fun q => ?_ <;> walk_at "V"
  ·refine ite_eq (fun q2 => ?_) fun q2 => ?_ <;> walk_at "V"
   ·unfold endOf2 at hh
    rw [if_pos (And.intro q q2)] at hh
    with_reducible refine TL_c ?_
    walk_at "V"
    exact hh
   ·exact rest2 fun k => q2 k.2
  ·exact rest2 fun k => q k.1
 with_reducible refine TL_c ?_
 walk_at "V"
 unfold endOf at h
 refine ite_eq (fun q => ?_) fun q => ?_ <;> walk_at "V"
 ·rw [if_pos q] at h
  with_reducible refine TL_c ?_
  walk_at "V"
  exact rest 0 (level + 1) h
 ·rw [if_neg q] at h
  exact rest code level h
end
end
section
theorem filter_putK (g : List Nat → Bool) (kv : Kv) (k v : List Nat) : (putK kv k v).filter (fun p => g p.1) = if g k = true then putK (kv.filter fun p => g p.1) k v else kv.filter fun p => g p.1 := by
 unfold putK
 by_cases h : kv.any (fun p => p.1 = k) = true
 ·rw [if_pos h, List.filter_map]
  have e : ((fun p : List Nat × List Nat => g p.1) ∘ fun p => if p.1 = k then (p.1, v) else p) = fun p => g p.1 := by
   funext p; simp only [Function.comp]; split <;> rfl
  rw [e]
  by_cases hg : g k = true
  ·rw [if_pos hg, if_pos]
   refine o11 (List.any_eq_true.mp h) fun p hp e => ?_
   have e : p.1 = k := by simpa using e
   exact List.any_eq_true.mpr (i11 p (List.mem_filter.mpr ⟨hp, by rw [e]; exact hg⟩) (by simpa using e))
  ·rw [if_neg hg]
   conv => rhs; rw [← List.map_id (kv.filter _)]
   refine List.map_congr_left fun p hp => ?_
   rw [if_neg fun e => hg (by rw [← e]; exact (List.mem_filter.mp hp).2)]; rfl
 ·rw [if_neg h, List.filter_append]
  by_cases hg : g k = true
  ·rw [if_pos hg, if_neg, List.filter_cons_of_pos (by simpa using hg)]; rfl
   intro q
   refine o11 (List.any_eq_true.mp q) fun p hp e => ?_
   exact h (List.any_eq_true.mpr (i11 p ((List.mem_filter.mp hp).1) e))
  ·rw [if_neg hg, List.filter_cons_of_neg (by simpa using hg)]
   simp
theorem filter_putAll (g : List Nat → Bool) : ∀ (r acc : Kv), (putAll acc r).filter (fun p => g p.1) = putAll (acc.filter fun p => g p.1) (r.filter fun p => g p.1)
 | [], acc => rfl
 | p :: r, acc => by
  show (putAll (putK acc p.1 p.2) r).filter _ = _
  rw [filter_putAll g r, filter_putK]
  by_cases h : g p.1 = true
  ·rw [if_pos h, List.filter_cons_of_pos (by simpa using h)]; rfl
  ·rw [if_neg h, List.filter_cons_of_neg (by simpa using h)]
theorem putK_new {kv : Kv} {k v : List Nat} (h : k ∉ kv.map (·.1)) : putK kv k v = kv ++ [(k, v)] := by
 unfold putK
 rw [if_neg]
 intro q
 refine o11 (List.any_eq_true.mp q) fun p hp e => ?_
 exact h (List.mem_map.mpr (i11 p hp (by simpa using e)))
theorem putAll_self : ∀ (r acc : Kv), ((acc ++ r).map (·.1)).Nodup → putAll acc r = acc ++ r
 | [], acc, _ => (List.append_nil _).symm
 | p :: r, acc, h => by
  show putAll (putK acc p.1 p.2) r = _
  have e : acc ++ p :: r = (acc ++ [(p.1, p.2)]) ++ r := by simp
  rw [putK_new, putAll_self r, e]
  ·rw [← e]; exact h
  ·intro q
   rw [List.map_append, List.nodup_append] at h
   exact h.2.2 _ q _ (by simp) rfl
theorem putAll_twice (r : Kv) : putAll [] (putAll [] r) = putAll [] r := putAll_self _ [] (by rw [List.nil_append]; exact putAll_nodup r [] .nil)
theorem walkP_flatP : ∀ (ps : Kv) (o : Option (List Nat)) (kv : Kv) (r : List (List Nat)), (∀ p ∈ ps, p.1 ≠ nOptions) → walkP (flatP ps ++ r) (o, kv) = walkP r (o, putAll kv ps)
 | [], o, kv, r, _ => rfl
 | p :: ps, o, kv, r, h => by
  show walkP (flatP ps ++ r) (if p.1 = nOptions then _ else _) = _
  rw [if_neg (h p (.head _)), walkP_flatP ps o _ r fun q hq => h q (.tail _ hq)]; rfl
theorem lastV_append (k : List Nat) : ∀ (a b : Kv) (d : List Nat), lastV (a ++ b) k d = lastV b k (lastV a k d)
 | [], b, d => rfl
 | p :: a, b, d => lastV_append k a b _
theorem lastV_none {k : List Nat} : ∀ {r : Kv} {d : List Nat}, (∀ p ∈ r, p.1 ≠ k) → lastV r k d = d
 | [], d, _ => rfl
 | p :: r, d, h => by
  rw [lastV, if_neg (h p (.head _))]
  exact lastV_none fun q hq => h q (.tail _ hq)
theorem lastV_or (k : List Nat) : ∀ (r : Kv) (d : List Nat), lastV r k d = d ∨ ∃ p ∈ r, p.1 = k ∧ lastV r k d = p.2
 | [], d => .inl rfl
 | p :: r, d => by
  rw [lastV]
  rcases lastV_or k r (if p.1 = k then p.2 else d) with h | ⟨q, hq, e1, e2⟩
  ·rw [h]
   by_cases e : p.1 = k
   ·exact .inr (i12 p (.head _) e (by rw [if_pos e]))
   ·exact .inl (if_neg e)
  ·exact .inr (i12 q (.tail _ hq) e1 e2)
noncomputable def errP (code ret : Int) (l info value : List Nat) : Kv :=
 if code = 1 then [(nEC, l), (nEI, if info = [] then value else info)] else if code = 2 ∧ ret = 1 then (if l = nNONE then [] else [(nEC, l)]) ++ (if info = [] then [] else [(nEI, info)]) else []
theorem flatP_errP {code ret : Int} {l info value : List Nat} : flatP (errP code ret l info value) = errOpts code ret l info value := by
 unfold errP errOpts
 split
 ·rfl
 split
 ·rw [flatP_append]
  congr 1 <;> split <;> rfl
 ·rfl
noncomputable def optP (code level ret : Int) (l info value : List Nat) (extra : Kv) : Kv :=
 [(nCode, istr (if code = 2 then ret else code)), (nLevel, istr (if code = 2 then level else 0))] ++ errP code ret l info value ++ extra
theorem flatP_optP {code level ret : Int} {l info value : List Nat} {extra : Kv} : flatP (optP code level ret l info value extra) = optItems code level ret l info value extra := by
 unfold optP optItems
 rw [flatP_append, flatP_append, flatP_errP]; rfl
theorem own_code {c : Int} : (ownOf c).contains nCode = true := by unfold ownOf; split <;> decide
theorem own_level {c : Int} : (ownOf c).contains nLevel = true := by unfold ownOf; split <;> decide
noncomputable def SmallP (ps : Kv) : Prop := ps.length ≤ 20 ∧ ∀ p ∈ ps, p.1.length ≤ 40 ∧ p.2.length ≤ 40
theorem flat_mem : ∀ {ps : Kv} {x : List Nat}, x ∈ flatP ps → ∃ p ∈ ps, x = p.1 ∨ x = p.2
 | p :: ps, x, h => by
  rcases List.mem_cons.mp h with e | h
  ·exact i11 p (.head _) (.inl e)
  rcases List.mem_cons.mp h with e | h
  ·exact i11 p (.head _) (.inr e)
  refine o11 (flat_mem h) fun q hq e => ?_
  exact i11 q (.tail _ hq) e
theorem SmallP.each {ps : Kv} (h : SmallP ps) : ∀ x ∈ flatP ps, x.length ≤ 40 := fun x hx => by
 refine o11 (flat_mem hx) fun p hp e => ?_
 have := h.2 p hp
 rcases e with rfl | rfl <;> omega
theorem SmallP.flen {ps : Kv} (h : SmallP ps) : (flatP ps).length ≤ 40 := by rw [flatP_len]; have := h.1; exact fg (.le (.m 2 (.v 0)) (.c 40)) [.le (.v 0) (.c 20)] [1,2] [] rfl [_] [] this
theorem SmallP.sum {ps : Kv} (h : SmallP ps) : ((flatP ps).map List.length).sum ≤ 1600 := by
 have h1 := sum_le h.each
 have h2 := h.flen
 exact fg (.le (.v 0) (.c 1600)) [.le (.v 0) (.m 40 (.v 1)),.le (.v 1) (.c 40)] [1,1,40] [] rfl [_,_] [] h1 h2
theorem SmallP.joined {ps : Kv} (h : SmallP ps) : (joinN (flatP ps)).length ≤ 4000 := by
 have h1 := join_len (flatP ps)
 have h2 := h.flen
 have h3 := h.sum
 exact fg (.le (.v 0) (.c 4000)) [.le (.v 0) (.a (.m 2 (.v 1)) (.m 3 (.v 2))),.le (.v 2) (.c 40),.le (.v 1) (.c 1600)] [1,1,3,2] [] rfl [_,_,_] [] h1 h2 h3
theorem Nested.flat {ps kv : Kv} (h : SmallP ps) (ho : ∀ p ∈ ps, p.1 ≠ nOptions) (hk : kv.length ≤ 100) : Nested (some (joinN (flatP ps))) kv (some (putAll kv ps)) 1 := by
 have h1 := h.joined
 have h2 := h.flen
 refine .step (by exact fg (.le (.v 0) (.c 100000)) [.le (.v 0) (.c 4000)] [1,1] [] rfl [_] [] h1) (split_join _) (by exact fg (.le (.v 0) (.c 100000)) [.le (.v 0) (.c 40)] [1,1] [] rfl [_] [] h2) (by rw [flatP_len]; exact Nat.mul_mod_right 2 _) (by exact fg (.le (.a (.v 0) (.v 1)) (.c 800)) [.le (.v 0) (.c 100),.le (.v 1) (.c 40)] [1,1,1] [] rfl [_,_] [] hk h2) ?_
 have e : walkP (flatP ps) (none, kv) = (none, putAll kv ps) := by
  have := walkP_flatP ps none kv [] ho
  rwa [List.append_nil] at this
 rw [e]
 exact .done
noncomputable def endE (code : Int) (value : List Nat) (cd : PyData) (level ret : Int) (info : List Nat) (extra : Kv) : ERes :=
 .ok code value cd (if ret = 2 then level + 1 else level) (if ret = 2 then 0 else ret) (if code = 1 ∧ info = [] then value else info) extra
section
variable {raising cd : PyData} {code level ret : Int} {value ct info : List Nat} {others : Kv}
theorem errP_keys : ∀ p ∈ errP code ret ct info value, p.1 = nEC ∨ p.1 = nEI := by
 unfold errP
 split
 ·intro p hp
  rcases List.mem_cons.mp hp with rfl | hp
  ·exact .inl rfl
  rcases List.mem_cons.mp hp with rfl | hp
  ·exact .inr rfl
  ·cases hp
 split
 ·intro p hp
  rcases List.mem_append.mp hp with hp | hp
  ·split at hp
   ·cases hp
   ·exact .inl (by rw [List.mem_singleton.mp hp])
  ·split at hp
   ·cases hp
   ·exact .inr (by rw [List.mem_singleton.mp hp])
 ·intro p hp; cases hp
theorem errP_len : (errP code ret ct info value).length ≤ 2 := by
 unfold errP
 split
 ·exact Nat.le_refl 2
 split
 ·split <;> split <;> simp
 ·simp
theorem errP_vals : ∀ p ∈ errP code ret ct info value, p.2 = ct ∨ p.2 = info ∨ p.2 = value := by
 unfold errP
 split
 ·intro p hp
  rcases List.mem_cons.mp hp with rfl | hp
  ·exact .inl rfl
  rcases List.mem_cons.mp hp with rfl | hp
  ·by_cases h : info = []
   ·rw [if_pos h]; exact .inr (.inr rfl)
   ·rw [if_neg h]; exact .inr (.inl rfl)
  ·cases hp
 split
 ·intro p hp
  rcases List.mem_append.mp hp with hp | hp
  ·split at hp
   ·cases hp
   ·exact .inl (by rw [List.mem_singleton.mp hp])
  ·split at hp
   ·cases hp
   ·exact .inr (.inl (by rw [List.mem_singleton.mp hp]))
 ·intro p hp; cases hp
theorem errP_no (h : ¬ (code = 1 ∨ (code = 2 ∧ ret = 1))) : errP code ret ct info value = [] := by
 unfold errP
 rw [if_neg fun q => h (.inl q), if_neg fun q => h (.inr q)]
theorem mem_optP {p : List Nat × List Nat} (h : p ∈ optP code level ret ct info value others) :
  p = (nCode, istr (if code = 2 then ret else code)) ∨ p = (nLevel, istr (if code = 2 then level else 0)) ∨ p ∈ errP code ret ct info value ∨ p ∈ others := by
 unfold optP at h
 rcases List.mem_append.mp h with h | h
 ·rcases List.mem_append.mp h with h | h
  ·rcases List.mem_cons.mp h with e | h
   ·exact .inl e
   ·exact .inr (.inl (List.mem_singleton.mp h))
  ·exact .inr (.inr (.inl h))
 ·exact .inr (.inr (.inr h))
variable (D : Drawn raising code value cd ct level ret info others)
include D
theorem Drawn.err : (code = 1 ∨ ret = 1) ↔ (code = 1 ∨ (code = 2 ∧ ret = 1)) := by
 constructor
 ·rintro (h | h)
  ·exact .inl h
  ·rcases D.kind with k | k | k
   ·exact .inl k.1
   ·exact .inr ⟨k.1, h⟩
   ·exact absurd (h.symm.trans k.2.2.1) (by decide)
 ·rintro (h | h)
  ·exact .inl h
  ·exact .inr h.2
theorem Drawn.nums : (if code = 2 then ret else code).natAbs < 10 ^ 13 ∧ (if code = 2 then level else 0).natAbs < 10 ^ 13 ∧ 0 ≤ (if code = 2 then level else 0) := by
 rcases D.kind with k | k | k
 ·rw [k.1, if_neg (by decide), if_neg (by decide)]; decide
 ·rw [if_pos k.1, if_pos k.1]
  have : ret = 1 ∨ ret = 0 ∨ ret = 2 ∨ ret = 3 ∨ NumOk ret := by
   rcases k.2.2.2 with q | q
   ·exact .inl q.1
   ·exact .inr q.1
  refine i02 ?_ (nab ⟨Int.le_trans (by decide) k.2.1, Int.le_trans k.2.2.1 (by decide)⟩) (by exact fg (.ile (.c 0) (.v 0)) [.ile (.c 1) (.v 0)] [1,1] [] rfl [] [_] k.2.1)
  rcases this with h | h | h | h | h
  ·rw [h]; decide
  ·rw [h]; decide
  ·rw [h]; decide
  ·rw [h]; decide
  ·exact nab h.2
 ·have : code ≠ 2 := by
   rcases k.1 with h | h | h
   ·rw [h]; decide
   ·rw [h]; decide
   ·exact nne h.1 (by decide)
  rw [if_neg this, if_neg this]
  refine i02 ?_ (by decide) (by decide)
  rcases k.1 with h | h | h
  ·rw [h]; decide
  ·rw [h]; decide
  ·exact nab h.2
theorem Drawn.small : SmallP (optP code level ret ct info value others) := by
 have h1 := D.len
 have h2 := @errP_len code ret value ct info
 have hn := D.nums
 refine ⟨by unfold optP; simp only [List.length_append, List.length_cons, List.length_nil]; exact fg (.le (.a (.a (.a (.a (.c 0) (.c 1)) (.c 1)) (.v 1)) (.v 0)) (.c 20)) [.le (.v 0) (.c 3),.le (.v 1) (.c 2)] [1,1,1] [] rfl [_,_] [] h1 h2, fun p hp => ?_⟩
 rcases mem_optP hp with rfl | rfl | h | h
 ·exact ⟨by show nCode.length ≤ 40; decide, Nat.le_trans (istr_len hn.1) (by decide)⟩
 ·exact ⟨by show nLevel.length ≤ 40; decide, Nat.le_trans (istr_len hn.2.1) (by decide)⟩
 ·refine ⟨?_, ?_⟩
  ·rcases errP_keys p h with e | e <;> rw [e] <;> decide
  ·have a1 := D.hvalue.1
   have a2 := D.hinfo.1
   have a3 := D.coded.1
   rcases errP_vals p h with e | e | e <;> rw [e] <;> omega
 ·have := D.other p h
  exact ⟨Nat.le_trans this.1 (by decide), Nat.le_trans this.2.1 (by decide)⟩
theorem Drawn.noopt : ∀ p ∈ optP code level ret ct info value others, p.1 ≠ nOptions := fun p hp => by
 rcases mem_optP hp with rfl | rfl | h | h
 ·show nCode ≠ nOptions; decide
 ·show nLevel ≠ nOptions; decide
 ·rcases errP_keys p h with e | e <;> rw [e] <;> decide
 ·refine o08 (D.other p h) fun _ _ _ _ _ _ _ h _ => ?_
  exact h
theorem Drawn.oth {p : List Nat × List Nat} (h : p ∈ others) : p.1 ≠ nW ∧ p.1 ≠ nCode ∧ p.1 ≠ nLevel ∧ ((code = 1 ∨ ret = 1) → p.1 ≠ nEC ∧ p.1 ≠ nEI) ∧ (p.1 = nEC → Splits p.2) := by
 refine o09 (D.other p h) fun _ _ _ _ h1 h2 h3 _ h4 h5 => ?_
 exact i04 h1 h2 h3 (fun q => h4 (by simpa using q)) h5
theorem Drawn.lCode (d : List Nat) : lastV (optP code level ret ct info value others) nCode d = istr (if code = 2 then ret else code) := by
 unfold optP
 rw [lastV_append, lastV_append, lastV_none fun p hp => (D.oth hp).2.1, lastV_none fun p hp => by rcases errP_keys p hp with e | e <;> rw [e] <;> decide]
 rfl
theorem Drawn.lLevel (d : List Nat) : lastV (optP code level ret ct info value others) nLevel d = istr (if code = 2 then level else 0) := by
 unfold optP
 rw [lastV_append, lastV_append, lastV_none fun p hp => (D.oth hp).2.2.1, lastV_none fun p hp => by rcases errP_keys p hp with e | e <;> rw [e] <;> decide]
 rfl
theorem Drawn.lEC (he : code = 1 ∨ ret = 1) : lastV (optP code level ret ct info value others) nEC nNONE = ct := by
 unfold optP
 rw [lastV_append, lastV_append, lastV_none fun p hp => ((D.oth hp).2.2.2.1 he).1]
 show lastV (errP code ret ct info value) nEC nNONE = ct
 unfold errP
 by_cases h : code = 1
 ·rw [if_pos h]; rfl
 ·rw [if_neg h, if_pos ((D.err.mp he).resolve_left h), lastV_append]
  rw [lastV_none (r := if info = [] then [] else [(nEI, info)]) fun p hp => by
   split at hp
   ·cases hp
   ·rw [List.mem_singleton.mp hp]; show nEI ≠ nEC; decide]
  split
  ·rename_i e; exact e.symm
  ·rfl
theorem Drawn.lEI (he : code = 1 ∨ ret = 1) : lastV (optP code level ret ct info value others) nEI [] = if code = 1 ∧ info = [] then value else info := by
 unfold optP
 rw [lastV_append, lastV_append, lastV_none fun p hp => ((D.oth hp).2.2.2.1 he).2]
 show lastV (errP code ret ct info value) nEI [] = _
 unfold errP
 by_cases h : code = 1
 ·rw [if_pos h]
  show (if info = [] then value else info) = _
  by_cases e : info = []
  ·rw [if_pos e, if_pos ⟨h, e⟩]
  ·rw [if_neg e, if_neg fun q => e q.2]
 ·rw [show (if code = 1 ∧ info = [] then value else info) = info from if_neg fun q => h q.1]
  rw [if_neg h, if_pos ((D.err.mp he).resolve_left h), lastV_append]
  rw [lastV_none (r := if ct = nNONE then [] else [(nEC, ct)]) fun p hp => by
   split at hp
   ·cases hp
   ·rw [List.mem_singleton.mp hp]; show nEC ≠ nEI; decide]
  split
  ·rename_i e; exact e.symm
  ·rfl
theorem Drawn.sEC : ∃ l, lastV (optP code level ret ct info value others) nEC nNONE = l ∧ l.length ≤ 40 ∧ Splits l := by
 refine i11 _ rfl ?_
 by_cases he : code = 1 ∨ ret = 1
 ·rw [D.lEC he]; exact ⟨D.coded.1, D.coded.2.2⟩
 ·rcases lastV_or nEC (optP code level ret ct info value others) nNONE with h | ⟨p, hp, e1, e2⟩
  ·rw [h]; exact ⟨by decide, none_splits⟩
  ·rw [e2]
   refine ⟨(D.small.2 p hp).2, ?_⟩
   rcases mem_optP hp with rfl | rfl | h | h
   ·exact absurd e1 (by show nCode ≠ nEC; decide)
   ·exact absurd e1 (by show nLevel ≠ nEC; decide)
   ·rw [errP_no fun q => he (D.err.mpr q)] at h; cases h
   ·exact (D.oth h).2.2.2.2 e1
theorem Drawn.kept {P : Kv} (hP : ∀ p ∈ P, p.1 = nCode ∨ p.1 = nLevel ∨ p.1 = nW) {c : Int} (hc : c = 1 ↔ (code = 1 ∨ ret = 1)) :
  (putAll [] (P ++ optP code level ret ct info value others)).filter (fun p => !(ownOf c).contains p.1) = putAll [] (P.filter (fun p => p.1 == nW) ++ others) := by
 rw [filter_putAll (fun k => !(ownOf c).contains k), List.filter_nil]
 congr 1
 rw [List.filter_append]
 congr 1
 ·refine List.filter_congr fun p hp => ?_
  rcases hP p hp with e | e | e <;> rw [e] <;> unfold ownOf <;> split <;> decide
 ·unfold optP
  rw [List.filter_append, List.filter_append]
  have e1 : ([(nCode, istr (if code = 2 then ret else code)), (nLevel, istr (if code = 2 then level else 0))] : Kv).filter (fun p => !(ownOf c).contains p.1) = [] := by
   refine List.filter_eq_nil_iff.mpr fun p hp => ?_
   rcases List.mem_cons.mp hp with rfl | hp
   ·show ¬ (!(ownOf c).contains nCode) = true; rw [own_code]; decide
   ·rw [List.mem_singleton.mp hp]; show ¬ (!(ownOf c).contains nLevel) = true; rw [own_level]; decide
  have e2 : (errP code ret ct info value).filter (fun p => !(ownOf c).contains p.1) = [] := by
   by_cases he : code = 1 ∨ ret = 1
   ·refine List.filter_eq_nil_iff.mpr fun p hp => ?_
    unfold ownOf
    rw [if_pos (hc.mpr he)]
    rcases errP_keys p hp with e | e <;> rw [e] <;> decide
   ·rw [errP_no fun q => he (D.err.mpr q)]; rfl
  rw [e1, e2]
  refine List.filter_eq_self.mpr fun p hp => ?_
  refine o04 (D.oth hp) fun h1 h2 h3 h4 h5 => ?_
  by_cases he : code = 1 ∨ ret = 1
  ·refine o01 (h4 he) fun h6 h7 => ?_
   unfold ownOf
   rw [if_pos (hc.mpr he)]
   simp [h2, h3, h6, h7]
  ·unfold ownOf
   rw [if_neg fun q => he (hc.mp q)]
   simp [h2, h3]
theorem Drawn.ends {P : Kv} (hP : ∀ p ∈ P, p.1 = nCode ∨ p.1 = nLevel ∨ p.1 = nW) :
  endOf (putAll [] (P ++ optP code level ret ct info value others)) (if code = 2 then ret else code) (if code = 2 then level else 0) value = endE code value cd level ret info (putAll [] (P.filter (fun p => p.1 == nW) ++ others)) := by
 have hEC : (code = 1 ∨ ret = 1) → getK (putAll [] (P ++ optP code level ret ct info value others)) nEC nNONE = ct := fun he => by
  rw [getK_putAll, lastV_append, lastV_none (r := P) fun p hp => by rcases hP p hp with e | e | e <;> rw [e] <;> decide]
  exact D.lEC he
 have hEI : (code = 1 ∨ ret = 1) → getK (putAll [] (P ++ optP code level ret ct info value others)) nEI [] = if code = 1 ∧ info = [] then value else info := fun he => by
  rw [getK_putAll, lastV_append, lastV_none (r := P) fun p hp => by rcases hP p hp with e | e | e <;> rw [e] <;> decide]
  exact D.lEI he
 have hk := fun {c : Int} => @Drawn.kept raising cd code level ret value ct info others D P hP c
 unfold endOf endE
 rcases D.kind with ⟨k1, k2, k3, k4⟩ | ⟨k1, k2, k3, k4⟩ | ⟨k1, k2, k3, k4, k5, k6, k7⟩
 ·have he : code = 1 ∨ ret = 1 := .inl k1
  rw [if_neg (by rw [k1, k3]; decide), if_neg (by rw [k1]; decide), if_neg (by rw [k1]; decide), if_neg (by rw [k3]; decide), if_neg (by rw [k3]; decide)]
  unfold endOf2
  rw [if_neg (by rw [k1]; decide), hk (by simp [k1]), if_pos k1, if_pos k1, hEC he, hEI he]
  simp [k1, k2, k3, k4]
 ·rw [if_pos k1]
  by_cases r2 : ret = 2
  ·have hne : ¬ (code = 1 ∨ ret = 1) := by rw [k1, r2]; decide
   refine o04 (k4.resolve_left fun q => by exact fm [.iqe (.v 0) (.c 2),.ieq (.v 0) (.c 1)] [1,1] [] rfl [] [_] r2 q.1) fun _ q2 q3 q4 q5 => ?_
   rw [if_pos r2, if_pos r2, if_pos r2]
   unfold endOf2
   rw [if_neg (by rw [if_pos k1]; exact fun z => Int.ne_of_gt (Int.lt_add_one_of_le (Int.le_trans (by decide) k2)) z.2), hk ⟨fun z => absurd z (by decide), fun z => absurd z hne⟩]
   simp [k1, q3, q5, show 0 < level + 1 by exact fg (.ilt (.c 0) (.a (.v 0) (.c 1))) [.ile (.c 1) (.v 0)] [1,1] [] rfl [] [_] k2]
  ·rw [if_neg r2, if_neg r2, if_neg r2]
   unfold endOf2
   rw [if_neg (by rw [if_pos k1]; exact fun z => absurd (z.2 ▸ k2) (by decide)), hk (c := ret) ⟨.inr, fun z => z.resolve_left (by rw [k1]; decide)⟩]
   by_cases r1 : ret = 1
   ·rw [if_pos r1, if_pos r1, hEC (.inr r1), hEI (.inr r1)]
    have : cd = .str (S ct) := by
     rcases k4 with q | q
     ·exact q.2
     ·rcases q.1 with q | q | q | q
      ·exact absurd (r1.symm.trans q) (by decide)
      ·exact absurd (r1.symm.trans q) (by decide)
      ·exact absurd (r1.symm.trans q) (by decide)
      ·exact absurd r1 (nne q.1 (by decide))
    simp [k1, this, show 0 < level by exact fg (.ilt (.c 0) (.v 0)) [.ile (.c 1) (.v 0)] [1,1] [] rfl [] [_] k2]
   ·refine o04 (k4.resolve_left fun q => r1 q.1) fun _ q2 q3 q4 q5 => ?_
    rw [if_neg r1, if_neg r1]
    simp [k1, q3, q5, show 0 < level by exact fg (.ilt (.c 0) (.v 0)) [.ile (.c 1) (.v 0)] [1,1] [] rfl [] [_] k2]
 ·have hc : code ≠ 2 ∧ code ≠ 1 ∧ code ≠ 0 := by
   rcases k1 with h | h | h
   ·rw [h]; decide
   ·rw [h]; decide
   ·exact i02 (nne h.1 (by decide)) (nne h.1 (by decide)) (nne h.1 (by decide))
  rw [if_neg hc.1, if_neg hc.1, if_neg hc.1, if_neg (by rw [k3]; decide), if_neg (by rw [k3]; decide), if_neg (by exact fun z => hc.2.1 z.1)]
  unfold endOf2
  rw [if_neg (by exact fun z => hc.2.2 z.1), hk ⟨.inl, fun z => z.resolve_right (by rw [k3]; decide)⟩]
  simp [k2, k3, k5, k7, hc.2.1]
theorem Drawn.fine {P : Kv} {ops : Kv} (hl : P.length ≤ 20) (hP : ∀ p ∈ P, p.1 = nCode ∨ p.1 = nLevel ∨ p.1 = nW) (hM : Mrg ops [] (.inl (putAll [] (P ++ optP code level ret ct info value others)))) :
  EndR ops value (endE code value cd level ret info (putAll [] (P.filter (fun p => p.1 == nW) ++ others))) := by
 have hn := D.nums
 have h1 : getK (putAll [] (P ++ optP code level ret ct info value others)) nCode nOk = istr (if code = 2 then ret else code) := by
  rw [getK_putAll, lastV_append]; exact D.lCode _
 have h2 : getK (putAll [] (P ++ optP code level ret ct info value others)) nLevel [49] = istr (if code = 2 then level else 0) := by
  rw [getK_putAll, lastV_append]; exact D.lLevel _
 have h3 : getK (putAll [] (P ++ optP code level ret ct info value others)) nEC nNONE = lastV (optP code level ret ct info value others) nEC nNONE := by
  rw [getK_putAll, lastV_append, lastV_none (r := P) fun p hp => by rcases hP p hp with e | e | e <;> rw [e] <;> decide]; rfl
 refine o12 D.sEC fun l e hll zz1 => ?_
 refine o21 zz1 fun es s hs hs2 => ?_
 clear zz1
 rw [← D.ends hP]
 have i1 := istr_len hn.1
 have i2 := istr_len hn.2.1
 have hlen := putAll_len (P ++ optP code level ret ct info value others) []
 have hsm := D.small.1
 rw [List.length_append, List.length_nil] at hlen
 refine .fine hM (by rw [h1]; exact fg (.le (.v 0) (.c 100000)) [.le (.v 0) (.c 14)] [1,1] [] rfl [_] [] i1) (by rw [h1]; exact code_istr _) (by rw [h2]; exact fg (.le (.v 0) (.c 100000)) [.le (.v 0) (.c 14)] [1,1] [] rfl [_] [] i2) (by rw [h2]; exact level_istr hn.2.2) (by rw [h3, e]; exact fg (.le (.v 0) (.c 100000)) [.le (.v 0) (.c 40)] [1,1] [] rfl [_] [] hll) (by rw [h3, e]; exact hs) (by exact fg (.le (.v 0) (.c 100000)) [.le (.v 0) (.c 1000)] [1,1] [] rfl [_] [] hs2) (putAll_nodup _ _ .nil) (by exact fg (.le (.v 1) (.c 900)) [.le (.v 0) (.c 20),.le (.v 1) (.a (.c 0) (.a (.v 0) (.v 2))),.le (.v 2) (.c 20)] [1,1,1,1] [] rfl [_,_,_] [] hl hlen hsm)
end
end
section
structure Lay (n : Nat) (p : PyData) : Prop where
 lay : p.canLay0 = true
 dep : p.depth ≤ n
theorem Lay.str {l : List Nat} (h : Vd l) : Lay 0 (.str (S l)) := ⟨by
 rw [PyData.canLay0]
 unfold PyData.strOk
 rw [Array.all_eq_true]
 intro i hi
 have : (S l).cps[i] ∈ l := by
  show l.toArray[i] ∈ l
  exact List.getElem_mem _
 exact decide_eq_true (h _ this), by rw [PyData.depth]; exact Nat.zero_le _⟩
theorem Lay.lit {x : Str} (h : PyData.strOk x = true) : Lay 0 (.str x) := ⟨by rw [PyData.canLay0]; exact h, by rw [PyData.depth]; exact Nat.zero_le _⟩
theorem Lay.int {i : Int} : Lay 0 (.int i) := ⟨by rw [PyData.canLay0], by rw [PyData.depth]; exact Nat.zero_le _⟩
theorem Lay.none : Lay 0 .none := ⟨by rw [PyData.canLay0], by rw [PyData.depth]; exact Nat.zero_le _⟩
theorem Lay.up {n m : Nat} {p : PyData} (h : Lay n p) (k : n ≤ m) : Lay m p := ⟨h.1, Nat.le_trans h.2 k⟩
theorem lays {n : Nat} : ∀ {xs : List PyData}, (∀ x ∈ xs, Lay n x) → PyData.canLayAll0 xs = true ∧ PyData.depthAll xs ≤ n
 | [], _ => ⟨by rw [PyData.canLayAll0], by rw [PyData.depthAll]; exact Nat.zero_le _⟩
 | x :: xs, h => by
  have h1 := h x (.head _)
  have h2 := lays fun y hy => h y (.tail _ hy)
  exact ⟨by rw [PyData.canLayAll0, h1.1, h2.1]; rfl, by rw [PyData.depthAll]; exact Nat.max_le.mpr ⟨h1.2, h2.2⟩⟩
theorem Lay.tup {n : Nat} {xs : List PyData} (h : ∀ x ∈ xs, Lay n x) : Lay (n + 1) (.tuple xs) := ⟨by rw [PyData.canLay0]; exact (lays h).1, by rw [PyData.depth]; have := (lays h).2; exact fg (.le (.a (.v 0) (.c 1)) (.a (.v 1) (.c 1))) [.le (.v 0) (.v 1)] [1,1] [] rfl [_,_] [] this⟩
theorem Lay.list {n : Nat} {xs : List PyData} (h : ∀ x ∈ xs, Lay n x) : Lay (n + 1) (.list xs) := ⟨by rw [PyData.canLay0]; exact (lays h).1, by rw [PyData.depth]; have := (lays h).2; exact fg (.le (.a (.v 0) (.c 1)) (.a (.v 1) (.c 1))) [.le (.v 0) (.v 1)] [1,1] [] rfl [_,_] [] this⟩
theorem all2 {α : Type} {P : α → Prop} {a b : α} (h1 : P a) (h2 : P b) : ∀ x ∈ [a, b], P x := by
 intro x hx
 rcases List.mem_cons.mp hx with rfl | hx
 ·exact h1
 ·rw [List.mem_singleton.mp hx]; exact h2
theorem all3 {α : Type} {P : α → Prop} {a b d : α} (h1 : P a) (h2 : P b) (h3 : P d) : ∀ x ∈ [a, b, d], P x := by
 intro x hx
 rcases List.mem_cons.mp hx with rfl | hx
 ·exact h1
 ·exact all2 h2 h3 x hx
theorem Cmp.ne_self {st : St} {p : PyData} (h : Lay 100 p) : Cmp st .NotEq (.d p) (.d p) false := by
 have := Cmp.ne_data (st := st) h.1 h.1 h.2
 rwa [SeqAt.eqv_refl p h.1] at this
theorem Cmp.eq_self {st : St} {p : PyData} (h : Lay 100 p) : Cmp st .Eq (.d p) (.d p) true := by
 have := Cmp.eq_data (st := st) h.1 h.1 h.2
 rwa [SeqAt.eqv_refl p h.1] at this
theorem txs_lay {es : List (List Nat)} (h : ∀ e ∈ es, Vd e) : Lay 1 (.list (txs es)) := .list fun x hx => by
 refine o11 (List.mem_map.mp hx) fun e he zz1 => ?_
 subst zz1
 exact .str (h e he)
theorem pair_lay {p : List Nat × List Nat} (h : Vd p.1 ∧ Vd p.2) : Lay 1 (pairD p) := .tup (all2 (.str h.1) (.str h.2))
noncomputable def VdP (kv : Kv) : Prop := ∀ p ∈ kv, Vd p.1 ∧ Vd p.2
theorem pairs_lay {kv : Kv} (h : VdP kv) : Lay 2 (.list (kv.map pairD)) := .list fun x hx => by
 refine o11 (List.mem_map.mp hx) fun p hp zz1 => ?_
 subst zz1
 exact pair_lay (h p hp)
theorem putK_vd {kv : Kv} {k v : List Nat} (h : VdP kv) (hk : Vd k) (hv : Vd v) : VdP (putK kv k v) := by
 intro p hp
 unfold putK at hp
 split at hp
 ·refine o11 (List.mem_map.mp hp) fun q hq e => ?_
  split at e
  ·rw [← e]; exact ⟨(h q hq).1, hv⟩
  ·rw [← e]; exact h q hq
 ·rcases List.mem_append.mp hp with hp | hp
  ·exact h p hp
  ·rw [List.mem_singleton.mp hp]; exact ⟨hk, hv⟩
theorem putAll_vd : ∀ {r acc : Kv}, VdP acc → VdP r → VdP (putAll acc r)
 | [], acc, h, _ => h
 | p :: r, acc, h, k => by
  show VdP (putAll (putK acc p.1 p.2) r)
  exact putAll_vd (putK_vd h (k p (.head _)).1 (k p (.head _)).2) fun q hq => k q (.tail _ hq)
theorem flat_vdP {kv : Kv} (h : VdP kv) : ∀ e ∈ flatP kv, Vd e := fun x hx => by
 refine o11 (flat_mem hx) fun p hp e => ?_
 have := h p hp
 rcases e with rfl | rfl
 ·exact this.1
 ·exact this.2
theorem istr_vd {i : Int} : Vd (istr i) := by
 rcases Int.le_total 0 i with h0 | h0
 ·refine o10 (Int.eq_ofNat_of_zero_le h0) fun n zz1 => ?_
  subst zz1
  rw [istr_nat]; intro c hc; have := figs_range hc; exact fg (.lt (.v 0) (.c 1114112)) [.le (.v 0) (.c 57)] [1,1] [] rfl [_] [] this.2
 ·refine o10 (Int.eq_ofNat_of_zero_le (show 0 ≤ -i by exact fg (.ile (.c 0) (.g (.v 0))) [.ile (.v 0) (.c 0)] [1,1] [] rfl [] [_] h0)) fun n hn => ?_
  cases n with
  | zero =>
   obtain rfl : i = ((0 : Nat) : Int) := by exact fi (.v 0) (.n (.c 0)) [.ieq (.g (.v 0)) (.n (.c 0)),.iqe (.g (.v 0)) (.n (.c 0))] [1,1,0] [] [1,0,1] [] rfl [] [_] hn hn
   rw [istr_nat]; intro c hc; have := figs_range hc; exact fg (.lt (.v 0) (.c 1114112)) [.le (.v 0) (.c 57)] [1,1] [] rfl [_] [] this.2
  | succ n =>
   obtain rfl : i = -((n + 1 : Nat) : Int) := by exact fi (.v 0) (.g (.n (.a (.v 0) (.c 1)))) [.ieq (.g (.v 0)) (.n (.a (.v 0) (.c 1))),.iqe (.g (.v 0)) (.n (.a (.v 0) (.c 1)))] [1,1,0] [] [1,0,1] [] rfl [_] [_] hn hn
   rw [istr_neg]
   intro c hc
   rcases List.mem_cons.mp hc with rfl | hc
   ·decide
   ·have := figs_range hc; exact fg (.lt (.v 0) (.c 1114112)) [.le (.v 0) (.c 57)] [1,1] [] rfl [_] [] this.2
theorem nlit {l : List Nat} (h : (l.all fun c => Nat.blt c 1114112) = true) : Vd l := fun c hc => Nat.le_of_ble_eq_true (List.all_eq_true.mp h c hc)
noncomputable def lawOpt (l : List Nat) : PyData := lawBad (Str.ofString "options") (Str.ofString "dictionary") l (Str.ofString "OPTIONS")
theorem eq_opt (l : List Nat) : PyData.tuple [.int 1, .str (optionsWhy l), .tuple [.str "TCL", .str "RESULT", .str "ILLEGAL_OPTIONS"]] = lawOpt l := by
 unfold lawOpt lawBad optionsWhy badWhy
 rw [show (Str.ofString "bad " ++ "-options") = (Str.ofString "bad -" ++ Str.ofString "options") from by kernel_rfl!, show (Str.ofString "ILLEGAL_" ++ Str.ofString "OPTIONS") = Str.ofString "ILLEGAL_OPTIONS" from by kernel_rfl!]
theorem eq_level (l : List Nat) : PyData.tuple [.int 1, .str (levelWhy l), .tuple [.str "TCL", .str "RESULT", .str "ILLEGAL_LEVEL"]] = lawBad (Str.ofString "level") (Str.ofString "non-negative integer") l (Str.ofString "LEVEL") := by
 unfold lawBad levelWhy badWhy
 rw [show (Str.ofString "bad " ++ "-level") = (Str.ofString "bad -" ++ Str.ofString "level") from by kernel_rfl!, show (Str.ofString "ILLEGAL_" ++ Str.ofString "LEVEL") = Str.ofString "ILLEGAL_LEVEL" from by kernel_rfl!]
theorem eq_ec (l : List Nat) : PyData.tuple [.int 1, .str (ecWhy l), .tuple [.str "TCL", .str "RESULT", .str "ILLEGAL_ERRORCODE"]] = lawBad (Str.ofString "errorcode") (Str.ofString "a list") l (Str.ofString "ERRORCODE") := by
 unfold lawBad ecWhy badWhy
 rw [show (Str.ofString "bad " ++ "-errorcode") = (Str.ofString "bad -" ++ Str.ofString "errorcode") from by kernel_rfl!, show (Str.ofString "ILLEGAL_" ++ Str.ofString "ERRORCODE") = Str.ofString "ILLEGAL_ERRORCODE" from by kernel_rfl!]
theorem Mrg.puts : ∀ {W kv : Kv}, (∀ p ∈ W, p.1 ≠ nOptions) → kv.length + W.length ≤ 800 → Mrg W kv (.inl (putAll kv W))
 | [], kv, _, _ => .nil
 | p :: W, kv, h, hl => by
  have := @putK_len kv p.1 p.2
  rw [List.length_cons] at hl
  exact .put (h p (.head _)) (by exact fg (.le (.v 0) (.c 800)) [.le (.a (.v 0) (.a (.v 1) (.c 1))) (.c 800)] [1,1] [0,1] rfl [_,_] [] hl) (Mrg.puts (fun q hq => h q (.tail _ hq)) (by exact fg (.le (.a (.v 2) (.v 1)) (.c 800)) [.le (.a (.v 0) (.a (.v 1) (.c 1))) (.c 800),.le (.v 2) (.a (.v 0) (.c 1))] [1,1,1] [] rfl [_,_,_] [] hl this))
theorem Mrg.text {ps P W kv : Kv} (h : SmallP ps) (ho : ∀ p ∈ ps, p.1 ≠ nOptions) (hW : ∀ p ∈ W, p.1 ≠ nOptions) (hk : kv.length ≤ 100) (hwl : W.length ≤ 100) : Mrg ((nOptions, joinN (flatP ps)) :: W) kv (.inl (putAll kv (ps ++ W))) := by
 rw [putAll_append]
 have h1 := h.joined
 have h2 := putAll_len ps kv
 have h3 := h.1
 exact .nest (by exact fg (.le (.v 0) (.c 100000)) [.le (.v 0) (.c 4000)] [1,1] [] rfl [_] [] h1) (.flat h ho hk) (.puts hW (by exact fg (.le (.a (.v 2) (.v 1)) (.c 800)) [.le (.v 0) (.c 100),.le (.v 1) (.c 100),.le (.v 2) (.a (.v 0) (.v 3)),.le (.v 3) (.c 20)] [1,1,1,1,1] [] rfl [_,_,_,_] [] hk hwl h2 h3))
theorem Mrg.then_text {ps : Kv} (h : SmallP ps) (ho : ∀ p ∈ ps, p.1 ≠ nOptions) : ∀ {W : Kv} {kv : Kv}, (∀ p ∈ W, p.1 ≠ nOptions) → kv.length + W.length ≤ 100 → Mrg (W ++ [(nOptions, joinN (flatP ps))]) kv (.inl (putAll kv (W ++ ps)))
 | [], kv, _, hl => by
  have h1 := h.joined
  exact .nest (by exact fg (.le (.v 0) (.c 100000)) [.le (.v 0) (.c 4000)] [1,1] [] rfl [_] [] h1) (.flat h ho hl) .nil
 | p :: W, kv, hW, hl => by
  have := @putK_len kv p.1 p.2
  rw [List.length_cons] at hl
  exact .put (hW p (.head _)) (by exact fg (.le (.v 0) (.c 800)) [.le (.a (.v 0) (.a (.v 1) (.c 1))) (.c 100)] [1,1] [0,1] rfl [_,_] [] hl) (Mrg.then_text h ho (fun q hq => hW q (.tail _ hq)) (by exact fg (.le (.a (.v 2) (.v 1)) (.c 100)) [.le (.a (.v 0) (.a (.v 1) (.c 1))) (.c 100),.le (.v 2) (.a (.v 0) (.c 1))] [1,1,1] [] rfl [_,_,_] [] hl this))
noncomputable def BadT (t : List Nat) : Prop := t.length ≤ 100000 ∧ Vd t ∧ ∃ n, Nested (some t) [] none n
theorem BadT.ends {t v : List Nat} (h : BadT t) : EndR [(nOptions, t)] v (.bad (optionsWhy t) "ILLEGAL_OPTIONS") := by
 refine o02 h fun h1 _ zz1 => ?_
 try clear h
 refine o10 zz1 fun n h2 => ?_
 clear zz1
 exact .opt (.fail h1 h2)
noncomputable def nK : List Nat := [45, 107]
noncomputable def nV : List Nat := [118]
noncomputable def nBadEC : List Nat := [123, 34]
noncomputable def nM1 : List Nat := [45, 49]
noncomputable def nEr : List Nat := [101, 114]
theorem odd_nested {ps kv : Kv} {x : List (List Nat)} (h : SmallP ps) (hx : x.length ≤ 40 ∧ x.length % 2 = 1) (hs : (joinN x).length ≤ 100000) : Nested (some (joinN x)) kv none 0 :=
 .bad hs (split_join _) (by exact fg (.le (.v 0) (.c 100000)) [.le (.v 0) (.c 40)] [1,1] [] rfl [_] [] hx.1) (.inr (i12 _ rfl hx.2 (by exact fg (.le (.v 0) (.c 100000)) [.le (.v 0) (.c 40)] [1,1] [] rfl [_] [] hx.1)))
theorem dropLast_sum {l : List (List Nat)} : (l.dropLast.map List.length).sum ≤ (l.map List.length).sum := by
 induction l with
 | nil => simp
 | cons a l ih =>
  cases l with
  | nil => simp
  | cons b l =>
   rw [List.dropLast_cons_of_ne_nil (by simp), List.map_cons, List.map_cons, List.sum_cons, List.sum_cons]
   exact fg (.le (.a (.v 2) (.v 0)) (.a (.v 2) (.v 1))) [.le (.v 0) (.v 1)] [1,1] [] rfl [_,_,_] [] ih
theorem SmallP.odd_len {ps : Kv} (h : SmallP ps) : (joinN (flatP ps).dropLast).length ≤ 4000 := by
 have h1 := join_len (flatP ps).dropLast
 have h2 := h.flen
 have h3 := h.sum
 have h4 := @dropLast_sum (flatP ps)
 have h5 : (flatP ps).dropLast.length ≤ 40 := by rw [List.length_dropLast]; exact Nat.le_trans (Nat.sub_le _ 1) h2
 exact fg (.le (.v 0) (.c 4000)) [.le (.v 0) (.a (.m 2 (.v 1)) (.m 3 (.v 2))),.le (.v 3) (.c 1600),.le (.v 1) (.v 3),.le (.v 2) (.c 40)] [1,1,2,2,3] [] rfl [_,_,_,_] [] h1 h3 h4 h5
theorem SmallP.bad_odd {ps : Kv} (h : SmallP ps) (hv : VdP ps) (hne : ps ≠ []) : BadT (joinN (flatP ps).dropLast) := by
 refine ⟨by have := h.odd_len; exact fg (.le (.v 0) (.c 100000)) [.le (.v 0) (.c 4000)] [1,1] [] rfl [_] [] this, join_vd fun x hx => flat_vdP hv x (List.dropLast_subset _ hx), 0, odd_nested h ?_ (by have := h.odd_len; exact fg (.le (.v 0) (.c 100000)) [.le (.v 0) (.c 4000)] [1,1] [] rfl [_] [] this)⟩
 have h1 := h.flen
 have h2 := flatP_len ps
 have h3 : 0 < ps.length := List.length_pos_iff.mpr hne
 rw [List.length_dropLast]
 exact oddm h1 h2 h3
theorem SmallP.bad_within {ps : Kv} (h : SmallP ps) (hv : VdP ps) (hne : ps ≠ []) : BadT (joinN [nK, nV, nOptions, joinN (flatP ps).dropLast]) := by
 have hl := h.odd_len
 have hj := join_len [nK, nV, nOptions, joinN (flatP ps).dropLast]
 have e : ([nK, nV, nOptions, joinN (flatP ps).dropLast].map List.length).sum = 11 + (joinN (flatP ps).dropLast).length := by simp [nK, nV, nOptions]; exact fe (.a (.c 2) (.a (.c 1) (.a (.c 8) (.v 0)))) (.a (.c 11) (.v 0)) [] [1] [] [1] [] rfl [_] []
 have e2 : [nK, nV, nOptions, joinN (flatP ps).dropLast].length = 4 := rfl
 have hh : (joinN [nK, nV, nOptions, joinN (flatP ps).dropLast]).length ≤ 100000 := by exact fg (.le (.v 1) (.c 100000)) [.le (.v 0) (.c 4000),.le (.v 1) (.a (.m 2 (.v 2)) (.m 3 (.v 3))),.eq (.v 2) (.a (.c 11) (.v 0)),.eq (.v 3) (.c 4)] [1,2,1,2,3] [] rfl [_,_,_,_] [] hl hj e e2
 refine o02 (h.bad_odd hv hne) fun a1 a2 zz1 => ?_
 refine o10 zz1 fun n a3 => ?_
 clear zz1
 refine ⟨hh, join_vd ?_, 1, .step hh (split_join _) (by rw [e2]; decide) (by rw [e2]) (by rw [e2]; decide) ?_⟩
 ·intro x hx
  rcases List.mem_cons.mp hx with rfl | hx
  ·exact nlit (by decide)
  rcases List.mem_cons.mp hx with rfl | hx
  ·exact nlit (by decide)
  rcases List.mem_cons.mp hx with rfl | hx
  ·exact nlit (by decide)
  rw [List.mem_singleton.mp hx]; exact a2
 ·show Nested (some _) _ none 0
  refine odd_nested h ?_ a1
  have h1 := h.flen
  have h2 := flatP_len ps
  have h3 : 0 < ps.length := List.length_pos_iff.mpr hne
  rw [List.length_dropLast]
  exact oddm h1 h2 h3
theorem SmallP.bad_open {ps : Kv} (h : SmallP ps) (hv : VdP ps) : BadT (joinN (flatP ps) ++ [32, 123]) := by
 have h1 := h.joined
 have h2 := h.flen
 refine ⟨by rw [List.length_append, List.length_cons, List.length_cons, List.length_nil]; exact fg (.le (.a (.v 0) (.a (.a (.c 0) (.c 1)) (.c 1))) (.c 100000)) [.le (.v 0) (.c 4000)] [1,1] [] rfl [_] [] h1, (join_vd (flat_vdP hv)).append (nlit (by decide)), 0, .bad (by rw [List.length_append, List.length_cons, List.length_cons, List.length_nil]; exact fg (.le (.a (.v 0) (.a (.a (.c 0) (.c 1)) (.c 1))) (.c 100000)) [.le (.v 0) (.c 4000)] [1,1] [] rfl [_] [] h1) (split_join_bad _) (by exact fg (.le (.v 0) (.c 100000)) [.le (.v 0) (.c 40)] [1,1] [] rfl [_] [] h2) (.inl rfl)⟩
section
variable {raising cd : PyData} {code level ret : Int} {value ct info : List Nat} {others : Kv}
variable (D : Drawn raising code value cd ct level ret info others)
include D
theorem Drawn.vdO : VdP others := fun p hp => by
 refine o04 (D.other p hp) fun _ _ h1 h2 _ => ?_
 exact ⟨h1, h2⟩
theorem Drawn.vd : VdP (optP code level ret ct info value others) := fun p hp => by
 rcases mem_optP hp with rfl | rfl | h | h
 ·exact ⟨show Vd nCode from nlit (by decide), istr_vd⟩
 ·exact ⟨show Vd nLevel from nlit (by decide), istr_vd⟩
 ·refine ⟨?_, ?_⟩
  ·rcases errP_keys p h with e | e <;> rw [e] <;> exact nlit (by decide)
  ·rcases errP_vals p h with e | e | e <;> rw [e]
   ·exact D.coded.2.1
   ·exact D.hinfo.2
   ·exact D.hvalue.2
 ·exact D.vdO p h
theorem Drawn.ne : optP code level ret ct info value others ≠ [] := by unfold optP; simp
theorem Drawn.hcd : cd = .str (S ct) ∨ (cd = ecNone ∧ ct = nNONE) := by
 rcases D.kind with k | k | k
 ·exact .inl k.2.2.2
 ·rcases k.2.2.2 with q | q
  ·exact .inl q.2
  ·exact .inr ⟨q.2.2.1, q.2.2.2.1⟩
 ·exact .inr ⟨k.2.2.2.2.1, k.2.2.2.2.2.1⟩
theorem Drawn.cdLay : Lay 1 cd := by
 rcases D.hcd with e | ⟨e, _⟩
 ·rw [e]; exact (Lay.str D.coded.2.1).up (by decide)
 ·rw [e]; exact ⟨by decide +kernel, by decide +kernel⟩
theorem Drawn.lay {level' ret' : Int} {info' : List Nat} {extra : Kv} (hi : Vd info') (hx : VdP extra) : Lay 100 (drawnD code value cd level' ret' info' extra) := by
 refine (Lay.tup (n := 2) ?_).up (by decide)
 intro x hx
 rcases List.mem_cons.mp hx with rfl | hx
 ·exact Lay.int.up (by decide)
 rcases List.mem_cons.mp hx with rfl | hx
 ·exact (Lay.str D.hvalue.2).up (by decide)
 rcases List.mem_cons.mp hx with rfl | hx
 ·exact D.cdLay.up (by decide)
 rcases List.mem_cons.mp hx with rfl | hx
 ·exact Lay.int.up (by decide)
 rcases List.mem_cons.mp hx with rfl | hx
 ·exact Lay.int.up (by decide)
 rcases List.mem_cons.mp hx with rfl | hx
 ·exact (Lay.str hi).up (by decide)
 rw [List.mem_singleton.mp hx]
 exact pairs_lay ‹_›
theorem Drawn.cdS (q : code = 1 ∨ (code = 2 ∧ ret = 1)) : cd = .str (S ct) := by
 rcases D.kind with k | k | k
 ·exact k.2.2.2
 ·rcases k.2.2.2 with z | z
  ·exact z.2
  ·rcases z.1 with y | y | y | y
   ·exact absurd (q.resolve_left (by rw [k.1]; decide)).2 (by rw [y]; decide)
   ·exact absurd (q.resolve_left (by rw [k.1]; decide)).2 (by rw [y]; decide)
   ·exact absurd (q.resolve_left (by rw [k.1]; decide)).2 (by rw [y]; decide)
   ·exact absurd (q.resolve_left (by rw [k.1]; decide)).2 (nne y.1 (by decide))
 ·rcases k.1 with y | y | y
  ·exact absurd q (by rw [y, k.2.2.1]; decide)
  ·exact absurd q (by rw [y, k.2.2.1]; decide)
  ·exact absurd q (not_or.mpr ⟨nne y.1 (by decide), fun z => nne y.1 (by decide) z.1⟩)
theorem Drawn.lv0 (q : code ≠ 2) : level = 0 := by
 rcases D.kind with k | k | k
 ·exact k.2.1
 ·exact absurd k.1 q
 ·exact k.2.1
theorem Drawn.istrs : istrOk (if code = 2 then ret else code) ∧ istrOk level := by
 have hn := D.nums
 refine ⟨istr_ok hn.1, ?_⟩
 by_cases q : code = 2
 ·have := hn.2.1; rw [if_pos q] at this; exact istr_ok this
 ·rw [D.lv0 q]; exact istr_ok (by decide)
theorem Drawn.gets {W : Kv} (k d : List Nat) : getK (putAll [] (optP code level ret ct info value others ++ W)) k d = lastV W k (lastV (optP code level ret ct info value others) k d) := by
 rw [getK_putAll, lastV_append]; rfl
theorem Drawn.mrg {W : Kv} (hW : ∀ p ∈ W, p.1 ≠ nOptions) (hwl : W.length ≤ 100) : Mrg ((nOptions, joinN (optItems code level ret ct info value others)) :: W) [] (.inl (putAll [] (optP code level ret ct info value others ++ W))) := by
 rw [← flatP_optP]
 exact Mrg.text (P := []) D.small D.noopt hW (by decide) hwl
theorem Drawn.wrong0 {v : List Nat} : EndR [(nOptions, joinN (optItems code level ret ct info value others)), (nEC, nBadEC), (nLevel, nM1), (nCode, nEr)] v (.bad (codeWhy nEr) "ILLEGAL_CODE") := by
 have hM := D.mrg (W := [(nEC, nBadEC), (nLevel, nM1), (nCode, nEr)]) (by decide) (by decide)
 have h1 : getK (putAll [] (optP code level ret ct info value others ++ [(nEC, nBadEC), (nLevel, nM1), (nCode, nEr)])) nCode nOk = nEr := by rw [D.gets]; rfl
 have := EndR.code (value := v) hM (by rw [h1]; decide) (by rw [h1]; decide +kernel)
 rwa [h1] at this
theorem Drawn.wrong1 {v : List Nat} : EndR [(nOptions, joinN (optItems code level ret ct info value others)), (nEC, nBadEC), (nLevel, nM1)] v (.bad (levelWhy nM1) "ILLEGAL_LEVEL") := by
 have hM := D.mrg (W := [(nEC, nBadEC), (nLevel, nM1)]) (by decide) (by decide)
 have h1 : getK (putAll [] (optP code level ret ct info value others ++ [(nEC, nBadEC), (nLevel, nM1)])) nCode nOk = istr (if code = 2 then ret else code) := by
  rw [D.gets]; exact D.lCode _
 have h2 : getK (putAll [] (optP code level ret ct info value others ++ [(nEC, nBadEC), (nLevel, nM1)])) nLevel [49] = nM1 := by rw [D.gets]; rfl
 have := EndR.level (value := v) hM (by rw [h1]; have := istr_len D.nums.1; exact fg (.le (.v 0) (.c 100000)) [.le (.v 0) (.c 14)] [1,1] [] rfl [_] [] this) (by rw [h1]; exact code_istr _) (by rw [h2]; decide) (by rw [h2]; decide +kernel)
 rwa [h2] at this
theorem split_badEC : SplitAt nBadEC 0 none 0 := .bad (by kernel_rfl!)
theorem Drawn.wrong2 {v : List Nat} : EndR [(nOptions, joinN (optItems code level ret ct info value others)), (nEC, nBadEC)] v (.bad (ecWhy nBadEC) "ILLEGAL_ERRORCODE") := by
 have hM := D.mrg (W := [(nEC, nBadEC)]) (by decide) (by decide)
 have h1 : getK (putAll [] (optP code level ret ct info value others ++ [(nEC, nBadEC)])) nCode nOk = istr (if code = 2 then ret else code) := by
  rw [D.gets]; exact D.lCode _
 have h2 : getK (putAll [] (optP code level ret ct info value others ++ [(nEC, nBadEC)])) nLevel [49] = istr (if code = 2 then level else 0) := by
  rw [D.gets]; exact D.lLevel _
 have h3 : getK (putAll [] (optP code level ret ct info value others ++ [(nEC, nBadEC)])) nEC nNONE = nBadEC := by rw [D.gets]; rfl
 have := EndR.ec (value := v) hM (by rw [h1]; have := istr_len D.nums.1; exact fg (.le (.v 0) (.c 100000)) [.le (.v 0) (.c 14)] [1,1] [] rfl [_] [] this) (by rw [h1]; exact code_istr _) (by rw [h2]; have := istr_len D.nums.2.1; exact fg (.le (.v 0) (.c 100000)) [.le (.v 0) (.c 14)] [1,1] [] rfl [_] [] this) (by rw [h2]; exact level_istr D.nums.2.2) (by rw [h3]; decide) (by rw [h3]; exact split_badEC D) (by decide)
 rwa [h3] at this
theorem Drawn.back : EndR [(nOptions, joinN (optItems code level ret ct info value others))] value (endE code value cd level ret info (putAll [] others)) := by
 have hM := D.mrg (W := []) (by decide) (by decide)
 rw [List.append_nil] at hM
 exact D.fine (P := []) (by decide) (by decide) hM
theorem Drawn.ahead {a b : List Nat} : EndR [(nLevel, a), (nCode, b), (nOptions, joinN (optItems code level ret ct info value others))] value (endE code value cd level ret info (putAll [] others)) := by
 have hM : Mrg ([(nLevel, a), (nCode, b)] ++ [(nOptions, joinN (flatP (optP code level ret ct info value others)))]) [] (.inl (putAll [] ([(nLevel, a), (nCode, b)] ++ optP code level ret ct info value others))) :=
  Mrg.then_text (ps := optP code level ret ct info value others) D.small D.noopt (all2 (show nLevel ≠ nOptions by decide) (show nCode ≠ nOptions by decide)) (by simp)
 rw [flatP_optP] at hM
 have := D.fine (P := [(nLevel, a), (nCode, b)]) (by simp) (all2 (.inr (.inl rfl)) (.inl rfl)) hM
 have e : ([(nLevel, a), (nCode, b)] : Kv).filter (fun p => p.1 == nW) = [] := rfl
 rwa [e] at this
noncomputable def n77 : List Nat := [55, 55]
noncomputable def wrapI (t b : List Nat) : List (List Nat) := [nOptions, t, nLevel, n77, nW, b]
theorem Drawn.wrapped {b : List Nat} (hb : OkT b) : EndR [(nOptions, joinN (wrapI (joinN (optItems code level ret ct info value others)) b))] value (endE code value cd level ret info ((nW, b) :: putAll [] others)) := by
 have hM : Mrg [(nOptions, joinN (wrapI (joinN (optItems code level ret ct info value others)) b))] [] (.inl (putAll [] ([(nLevel, n77), (nW, b)] ++ optP code level ret ct info value others))) := by
  have h1 := D.small.joined
  rw [flatP_optP] at h1
  have hj := join_len (wrapI (joinN (optItems code level ret ct info value others)) b)
  have e : ((wrapI (joinN (optItems code level ret ct info value others)) b).map List.length).sum = 18 + (joinN (optItems code level ret ct info value others)).length + b.length := by simp [wrapI, nOptions, nLevel, n77, nW]; exact fe (.a (.c 8) (.a (.v 0) (.a (.c 6) (.a (.c 2) (.a (.c 2) (.v 1)))))) (.a (.a (.c 18) (.v 0)) (.v 1)) [] [1] [] [1] [] rfl [_,_] []
  have e2 : (wrapI (joinN (optItems code level ret ct info value others)) b).length = 6 := rfl
  have hb1 := hb.1
  have hh : (joinN (wrapI (joinN (optItems code level ret ct info value others)) b)).length ≤ 100000 := by exact fg (.le (.v 1) (.c 100000)) [.le (.v 0) (.c 4000),.le (.v 1) (.a (.m 2 (.v 2)) (.m 3 (.v 3))),.eq (.v 2) (.a (.a (.c 18) (.v 0)) (.v 4)),.eq (.v 3) (.c 6),.le (.v 4) (.c 3)] [1,2,1,2,3,2] [] rfl [_,_,_,_,_] [] h1 hj e e2 hb1
  refine .nest (n := 2) hh (.step (n := 1) hh (split_join _) (by rw [e2]; decide) (by rw [e2]) (by rw [e2]; decide) ?_) .nil
  rw [putAll_append]
  show Nested (some (joinN (optItems code level ret ct info value others))) (putAll [] [(nLevel, n77), (nW, b)]) _ _
  rw [← flatP_optP]
  exact .flat D.small D.noopt (by have := putAll_len [(nLevel, n77), (nW, b)] []; simp at this; exact fg (.le (.v 0) (.c 100)) [.le (.v 0) (.c 2)] [1,1] [] rfl [_] [] this)
 have := D.fine (P := [(nLevel, n77), (nW, b)]) (by simp) (all2 (.inr (.inl rfl)) (.inr (.inr rfl))) hM
 have e : ([(nLevel, n77), (nW, b)] : Kv).filter (fun p => p.1 == nW) ++ others = (nW, b) :: others := rfl
 rw [e] at this
 have e3 : putAll [] ((nW, b) :: others) = (nW, b) :: putAll [] others := by
  have h0 : ∀ (r acc : Kv), (∀ p ∈ r, p.1 ≠ nW) → putAll ((nW, b) :: acc) r = (nW, b) :: putAll acc r := by
   intro r
   induction r with
   | nil => intro acc _; rfl
   | cons p r ih =>
    intro acc h
    have hp := h p (.head _)
    show putAll (putK ((nW, b) :: acc) p.1 p.2) r = _
    have e4 : putK ((nW, b) :: acc) p.1 p.2 = (nW, b) :: putK acc p.1 p.2 := by
     unfold putK
     have : ¬ nW = p.1 := fun e => hp e.symm
     simp only [List.any_cons, List.map_cons, this, decide_false, Bool.false_or, if_false]
     split <;> rfl
    rw [e4, ih _ fun q hq => h q (.tail _ hq)]; rfl
  exact h0 others [] fun p hp => (D.oth hp).1
 rwa [e3] at this
theorem Drawn.later {j : Int} {w : List Nat} {i : Int} (hj : 0 ≤ j ∧ j ≤ 100) (hw : w.length ≤ 10) (hc : codeN w = some i) : EndR [(nOptions, joinN (optItems code level ret ct info value others)), (nLevel, istr j), (nCode, w)] value (endOf (putAll [] (optP code level ret ct info value others)) i j value) := by
 have hM := D.mrg (W := [(nLevel, istr j), (nCode, w)]) (all2 (show nLevel ≠ nOptions by decide) (show nCode ≠ nOptions by decide)) (by simp)
 have h1 : getK (putAll [] (optP code level ret ct info value others ++ [(nLevel, istr j), (nCode, w)])) nCode nOk = w := by rw [D.gets]; rfl
 have h2 : getK (putAll [] (optP code level ret ct info value others ++ [(nLevel, istr j), (nCode, w)])) nLevel [49] = istr j := by rw [D.gets]; rfl
 have h3 : getK (putAll [] (optP code level ret ct info value others ++ [(nLevel, istr j), (nCode, w)])) nEC nNONE = getK (putAll [] (optP code level ret ct info value others)) nEC nNONE := by
  rw [D.gets, getK_putAll]; rfl
 have h4 : getK (putAll [] (optP code level ret ct info value others ++ [(nLevel, istr j), (nCode, w)])) nEI [] = getK (putAll [] (optP code level ret ct info value others)) nEI [] := by
  rw [D.gets, getK_putAll]; rfl
 have h5 : ∀ c : Int, (putAll [] (optP code level ret ct info value others ++ [(nLevel, istr j), (nCode, w)])).filter (fun p => !(ownOf c).contains p.1) = (putAll [] (optP code level ret ct info value others)).filter (fun p => !(ownOf c).contains p.1) := fun c => by
  rw [filter_putAll (fun k => !(ownOf c).contains k), filter_putAll (fun k => !(ownOf c).contains k), List.filter_append]
  have : ([(nLevel, istr j), (nCode, w)] : Kv).filter (fun p => !(ownOf c).contains p.1) = [] := by
   refine List.filter_eq_nil_iff.mpr fun p hp => ?_
   rcases List.mem_cons.mp hp with rfl | hp
   ·show ¬ (!(ownOf c).contains nLevel) = true; rw [own_level]; decide
   ·rw [List.mem_singleton.mp hp]; show ¬ (!(ownOf c).contains nCode) = true; rw [own_code]; decide
  rw [this, List.append_nil]
 refine o12 D.sEC fun l el hll zz1 => ?_
 refine o21 zz1 fun es s hs hs2 => ?_
 clear zz1
 have hlen := putAll_len (optP code level ret ct info value others ++ [(nLevel, istr j), (nCode, w)]) []
 have hsm := D.small.1
 rw [List.length_append, List.length_nil] at hlen
 have h6 : getK (putAll [] (optP code level ret ct info value others)) nEC nNONE = l := by rw [getK_putAll]; exact el
 have := EndR.fine (value := value) hM (by rw [h1]; exact fg (.le (.v 0) (.c 100000)) [.le (.v 0) (.c 10)] [1,1] [] rfl [_] [] hw) (by rw [h1]; exact hc) (by rw [h2]; have := istr_len (i := j) (nab ⟨Int.le_trans (by decide) hj.1, Int.le_trans hj.2 (by decide)⟩); exact fg (.le (.v 0) (.c 100000)) [.le (.v 0) (.c 14)] [1,1] [] rfl [_] [] this) (by rw [h2]; exact level_istr hj.1) (by rw [h3, h6]; exact fg (.le (.v 0) (.c 100000)) [.le (.v 0) (.c 40)] [1,1] [] rfl [_] [] hll) (by rw [h3, h6]; exact hs) (by exact fg (.le (.v 0) (.c 100000)) [.le (.v 0) (.c 1000)] [1,1] [] rfl [_] [] hs2) (putAll_nodup _ _ .nil) (by simp at hlen; omega)
 have e2 : endOf (putAll [] (optP code level ret ct info value others ++ [(nLevel, istr j), (nCode, w)])) i j value = endOf (putAll [] (optP code level ret ct info value others)) i j value := by
  unfold endOf endOf2
  rw [h3, h4, h5, h5]
 rwa [e2] at this
end
end
section
theorem filterMap_range {α : Type} (ps : List α) : ∀ m : Nat, (List.range m).filterMap (ps[·]?) = ps.take m
 | 0 => by simp
 | m + 1 => by
  rw [List.range_succ, List.filterMap_append, filterMap_range ps m, List.take_add_one]
  congr 1
theorem pick_init (ps : List PyData) : pickD ps none (some (-1)) none = ps.dropLast := by
 have e : sliceBounds none (some (-1)) none ps.length = (((0 : Nat) : Int), ((ps.length - 1 : Nat) : Int), 1) := by
  simp only [sliceBounds, Option.getD_none]
  refine Prod.ext rfl (Prod.ext ?_ rfl)
  simp
  omega
 unfold pickD
 rw [e, sliceRange_one, List.dropLast_eq_take, Nat.sub_zero, show (fun x : Nat => 0 + x) = id from by funext x; simp, List.map_id]
 exact filterMap_range ps _
theorem txs_dropLast (l : List (List Nat)) : (txs l).dropLast = txs l.dropLast := by
 unfold txs; rw [List.map_dropLast]
noncomputable def badL : List PyData := [.tuple [.str (Str.ofString "-errorcode"), .str (Str.ofString "{\"")], .tuple [.str (Str.ofString "-level"), .str (Str.ofString "-1")], .tuple [.str (Str.ofString "-code"), .str (Str.ofString "er")]]
noncomputable def erWhy : Str := Str.ofString "bad completion code \"er\": must be ok, error, return, break, continue, or an integer"
noncomputable def refR (why : Str) (word : String) : PyData := .tuple [.int 1, .str why, .tuple [.str "TCL", .str "RESULT", .str word]]
noncomputable def duesL : List PyData := [.tuple [.int 1, .str erWhy, .tuple [.str "TCL", .str "RESULT", .str "ILLEGAL_CODE"]], lawBad (Str.ofString "level") (Str.ofString "non-negative integer") nM1 (Str.ofString "LEVEL"), lawBad (Str.ofString "errorcode") (Str.ofString "a list") nBadEC (Str.ofString "ERRORCODE")]
theorem refR_lay {why : Str} {word : String} (h : PyData.strOk why = true) (hw : PyData.strOk (Str.ofString word) = true) : Lay 100 (refR why word) := by
 refine (Lay.tup (n := 1) (all3 (Lay.int.up (by decide)) ((Lay.lit h).up (by decide)) (Lay.tup (n := 0) (all3 ?_ ?_ (Lay.lit hw))))).up (by decide)
 ·exact Lay.lit (by decide +kernel)
 ·exact Lay.lit (by decide +kernel)
theorem strOk_app {a b : Str} (h : PyData.strOk a = true) (k : PyData.strOk b = true) : PyData.strOk (a ++ b) = true := by
 unfold PyData.strOk at *
 show (a.cps ++ b.cps).all _ = true
 rw [Array.all_append, h, k]; rfl
theorem strOk_S {l : List Nat} (h : Vd l) : PyData.strOk (S l) = true := (Lay.str h).1
theorem lawOpt_lay {l : List Nat} (h : Vd l) : Lay 100 (lawOpt l) := by
 rw [← eq_opt]
 refine refR_lay (word := "ILLEGAL_OPTIONS") ?_ (by decide +kernel)
 unfold optionsWhy badWhy
 exact strOk_app (strOk_app (by decide +kernel) (strOk_S h)) (by decide +kernel)
section
variable {c : Cx} {st : St} {X : Flds → List (Option AV) → Prop} {Q : AV → St → Prop}
variable {raising cd : PyData} {code level ret : Int} {value ct info : List Nat} {others : Kv}
theorem Drawn.wrongs (D : Drawn raising code value cd ct level ret info others) {which : Int} (hw : 0 ≤ which ∧ which < 3) : ∃ (W : Kv) (why : Str) (word : String), pickD badL none (some (3 - which)) none = W.map pairD ∧ duesL[which.toNat]? = some (refR why word) ∧
  EndR ((nOptions, joinN (optItems code level ret ct info value others)) :: W) [118] (.bad why word) ∧ Lay 100 (refR why word) ∧ W.length ≤ 3 := by
 have : which = 0 ∨ which = 1 ∨ which = 2 := e3 hw.1 hw.2
 rcases this with rfl | rfl | rfl
 ·refine i34 [(nEC, nBadEC), (nLevel, nM1), (nCode, nEr)] (codeWhy nEr) ("ILLEGAL_CODE") (by kernel_rfl!) ?_ D.wrong0 (refR_lay (by decide +kernel) (by decide +kernel)) (by decide)
  show some (refR erWhy "ILLEGAL_CODE") = _
  rw [show erWhy = codeWhy nEr from by kernel_rfl!]
 ·refine i34 [(nEC, nBadEC), (nLevel, nM1)] (levelWhy nM1) ("ILLEGAL_LEVEL") (by kernel_rfl!) ?_ D.wrong1 (refR_lay (by decide +kernel) (by decide +kernel)) (by decide)
  show some (lawBad _ _ _ _) = _
  rw [← eq_level]; rfl
 ·refine i34 [(nEC, nBadEC)] (ecWhy nBadEC) ("ILLEGAL_ERRORCODE") (by kernel_rfl!) ?_ D.wrong2 (refR_lay (by decide +kernel) (by decide +kernel)) (by decide)
  show some (lawBad _ _ _ _) = _
  rw [← eq_ec]; rfl
theorem s_K : (Str.ofString "-k") = S nK := by kernel_rfl!
theorem s_V : (Str.ofString "v") = S nV := by kernel_rfl!
theorem law_bad_L {what sought mark t : Str} {l : List Nat} (ht : t = S l) (hn : what.length ≤ 100) (hw : sought.length ≤ 100) (hk : mark.length ≤ 100) (hl : l.length ≤ 100000) (hhd : c.hd = false) (hr : 1 ≤ c.room)
  (h : Q (.d (lawBad what sought l mark)) st) : TC c st (.ref 360) [.d (.str what), .d (.str sought), .d (.str t), .d (.str mark)] Q X := by
 subst ht; exact law_bad_T hn hw hk hl hhd hr h
theorem law_refused_T (D : Drawn raising code value cd ct level ret info others) {which : Int} (hw : 0 ≤ which ∧ which < 3) (hhd : c.hd = false) (hr : 12 ≤ c.room)
  (h : Q (.d (.bool true)) st) : TC c st (.ref 367) [.d (.str (S (joinN (optItems code level ret ct info value others)))), .d (.list (txs (optItems code level ret ct info value others))), .d (.int which)] Q X := by
 have hP := flatP_optP (code := code) (level := level) (ret := ret) (l := ct) (info := info) (value := value) (extra := others)
 have hsm := D.small
 have hvd := D.vd
 have hne := D.ne
 have b1 := hsm.bad_odd hvd hne
 have b2 := hsm.bad_within hvd hne
 have b3 := hsm.bad_open hvd
 have hflen := hsm.flen
 have hsum := hsm.sum
 have hjo := hsm.joined
 have hds := @dropLast_sum (flatP (optP code level ret ct info value others))
 refine o34 (D.wrongs hw) fun W why word w1 w2 w3 w4 w5 => ?_
 rw [hP] at b1 b2 b3 hflen hsum hjo hds
 generalize hI : optItems code level ret ct info value others = I at *
 have hdl : I.dropLast.length ≤ 40 := by rw [List.length_dropLast]; exact Nat.le_trans (Nat.sub_le _ 1) hflen
 refine enter_law_refused [] st.mu rfl hhd (rm0 hr rfl) fun o ho' hF => ?_
 with_reducible refine' absN ?e fun K0 hK0 => ?_
 case e => exact rfl
 walk_at "V"
 refine Item.list_slice (by decide) (by rw [txs_len]; (try dsimp only); exact fg (.le (.v 0) (.c 1000000)) [.le (.v 0) (.c 40)] [1,1] [] rfl [_] [] hflen) ?_
 rw [pick_init, txs_dropLast]
 walk_at "V"
 refine join_list_T (.inl rfl) (by exact fg (.le (.a (.v 1) (.v 2)) (.c 100000)) [.le (.v 0) (.c 1600),.le (.v 1) (.v 0),.le (.v 2) (.c 40)] [1,1,1,1] [] rfl [_,_,_] [] hsum hds hdl) rfl (by walk_at "RM") ?_
 walk_at "V"
 with_reducible refine TL_c ?_
 walk_at "V"
 refine TE_lst ?_
 walk_at "V"
 rw [s_K, s_V, s_Options]
 refine join_list_T (items := [nK, nV, nOptions, joinN I.dropLast]) (.inl rfl) ?_ rfl (by walk_at "RM") ?_
 ·have := join_len I.dropLast
  have e : ([nK, nV, nOptions, joinN I.dropLast].map List.length).sum = 11 + (joinN I.dropLast).length := by simp [nK, nV, nOptions]; exact fe (.a (.c 2) (.a (.c 1) (.a (.c 8) (.v 0)))) (.a (.c 11) (.v 0)) [] [1] [] [1] [] rfl [_] []
  rw [e]; show _ + 4 ≤ _; exact fg (.le (.a (.a (.c 11) (.v 3)) (.c 4)) (.c 100000)) [.le (.v 0) (.c 1600),.le (.v 1) (.v 0),.le (.v 2) (.c 40),.le (.v 3) (.a (.m 2 (.v 1)) (.m 3 (.v 2)))] [1,2,2,3,1] [] rfl [_,_,_,_] [] hsum hds hdl this
 walk_at "V"
 have hj2 : (joinN [nK, nV, nOptions, joinN I.dropLast]).length ≤ 100000 := b2.1
 generalize hO : joinN I.dropLast = O at *
 generalize hN : joinN [nK, nV, nOptions, O] = N at *
 with_reducible refine TL_c (TS_sq (fun st1 => ∃ z, st1 = ⟨[some (.d (.str (S (joinN I)))), some (.d (.list (txs I))), some (.d (.int which)), some (.d (.str (S O))), some (.d (.str (S N))), z, none, none, none], []⟩) (fun K2 hK2 => ?_) fun st1 => exI fun z => fun e1 => ?_)
 ·refine TS_fr (S := fun z : Option AV => ⟨[some (.d (.str (S (joinN I)))), some (.d (.list (txs I))), some (.d (.int which)), some (.d (.str (S O))), some (.d (.str (S N))), z, none, none, none], []⟩)
   (I := fun xs _ => ∀ x ∈ xs, ∃ l, x = .str (S l) ∧ BadT l) hF ?_ (by intro _; rfl)
  walk_at "T"
  refine Bin.add_str (by rw [len_S]; show _ + 2 ≤ _; exact fg (.le (.a (.v 0) (.c 2)) (.c 1000000)) [.le (.v 0) (.c 4000)] [1,1] [] rfl [_] [] hjo) ?_
  rw [show (Str.ofString " {") = S [32, 123] from by kernel_rfl!, S_append]
  walk_at "T"
  refine i24 [.str (S O), .str (S N), .str (S (joinN I ++ [32, 123]))] none Iters.tuple (by walk_at "LE") (all3 (i11 _ rfl b1) (i11 _ rfl b2) (i11 _ rfl b3)) (fun o' ho'' hF' x xs z hI2 K1 hK1 => ?_) (fun z hI2 => ?_)
  ·refine o11 (hI2 x (.head _)) fun l zz1 hb => ?_
   subst zz1
   walk_at "T"
   refine TE_lst ?_
   walk_at "T"
   refine law_refusal_T (ops := [(nOptions, l)]) hb.ends rfl (by walk_at "RM") ?_
   walk_at "T"
   refine law_bad_T (lit_le (by kernel_rfl!)) (lit_le (by kernel_rfl!)) (lit_le (by kernel_rfl!)) hb.1 rfl (by walk_at "RM") ?_
   walk_at "T"
   rw [eq_opt]
   refine Cm_i (Cmp.ne_self (lawOpt_lay hb.2.1)) ?_
   walk_at "T"
   exact i11 _ (by walk_at "LE") (fun x hx => hI2 x (.tail _ hx))
  ·walk_at "K"; exact Seq.next ⟨z, rfl⟩
 subst e1
 with_reducible refine TL_c ?_
 walk_at "V"
 refine TE_lst ?_
 walk_at "V"
 refine Item.list_slice (ps := badL) (by simp) (by decide) ?_
 rw [w1]
 walk_at "V"
 with_reducible refine TL_c ?_
 walk_at "V"
 with_reducible refine TL_c ?_
 walk_at "V"
 refine TE_lst ?_
 walk_at "V"
 refine law_bad_L (l := nM1) (by kernel_rfl!) (lit_le (by kernel_rfl!)) (lit_le (by kernel_rfl!)) (lit_le (by kernel_rfl!)) (by decide) rfl (by walk_at "RM") ?_
 walk_at "V"
 refine law_bad_L (l := nBadEC) (by kernel_rfl!) (lit_le (by kernel_rfl!)) (lit_le (by kernel_rfl!)) (lit_le (by kernel_rfl!)) (by decide) rfl (by walk_at "RM") ?_
 walk_at "V"
 refine Item.list (ps := duesL) hw.1 w2 (by decide) ?_
 walk_at "V"
 with_reducible refine TL_c ?_
 walk_at "V"
 refine TE_lst ?_
 walk_at "V"
 refine Bin.add_list (by rw [List.length_map]; show 1 + _ ≤ _; exact fg (.le (.a (.c 1) (.v 0)) (.c 1000000)) [.le (.v 0) (.c 3)] [1,1] [] rfl [_] [] w5) ?_
 walk_at "V"
 refine law_refusal_T (ops := (nOptions, joinN I) :: W) w3 rfl (by walk_at "RM") ?_
 walk_at "V"
 refine Cm_i (Cmp.eq_self w4) ?_
 walk_at "V"
 walk_at "E"; exact h
end
end
section
section
variable {raising cd : PyData} {code level ret : Int} {value ct info : List Nat} {others : Kv}
theorem getK_vd {kv : Kv} {k d : List Nat} (h : VdP kv) (hd : Vd d) : Vd (getK kv k d) := by
 unfold getK
 split
 ·rename_i p e
  exact (h p (List.mem_of_find?_eq_some e)).2
 ·exact hd
theorem drawn_lay {code level ret : Int} {value info : List Nat} {ec : PyData} {extra : Kv} (hv : Vd value) (he : Lay 1 ec) (hi : Vd info) (hx : VdP extra) : Lay 100 (drawnD code value ec level ret info extra) := by
 refine (Lay.tup (n := 2) ?_).up (by decide)
 intro x hx'
 rcases List.mem_cons.mp hx' with rfl | hx'
 ·exact Lay.int.up (by decide)
 rcases List.mem_cons.mp hx' with rfl | hx'
 ·exact (Lay.str hv).up (by decide)
 rcases List.mem_cons.mp hx' with rfl | hx'
 ·exact he.up (by decide)
 rcases List.mem_cons.mp hx' with rfl | hx'
 ·exact Lay.int.up (by decide)
 rcases List.mem_cons.mp hx' with rfl | hx'
 ·exact Lay.int.up (by decide)
 rcases List.mem_cons.mp hx' with rfl | hx'
 ·exact (Lay.str hi).up (by decide)
 rw [List.mem_singleton.mp hx']
 exact pairs_lay hx
theorem ecNone_lay : Lay 1 ecNone := ⟨by decide +kernel, by decide +kernel⟩
theorem end_cases {kv : Kv} {i j : Int} {v : List Nat} (h : VdP kv) (hv : Vd v) : endOf kv i j v = .none ∨ ∃ code ec level ret info extra, endOf kv i j v = .ok code v ec level ret info extra ∧ Lay 100 (drawnD code v ec level ret info extra) := by
 have key : ∀ i j, endOf2 kv i j v = .none ∨ ∃ code ec level ret info extra, endOf2 kv i j v = .ok code v ec level ret info extra ∧ Lay 100 (drawnD code v ec level ret info extra) := fun i j => by
  unfold endOf2
  split
  ·exact .inl rfl
  ·refine .inr (i61 _ _ _ _ _ _ rfl (drawn_lay hv ?_ ?_ fun p hp => h p (List.mem_filter.mp hp).1))
   ·split
    ·exact (Lay.str (getK_vd h none_vd)).up (by decide)
    ·exact ecNone_lay
   ·split
    ·exact getK_vd h .nil
    ·exact .nil
 unfold endOf
 split
 ·exact key _ _
 ·exact key _ _
noncomputable def writtenL : List PyData := [.str (Str.ofString "ok"), .str (Str.ofString "error"), .str (Str.ofString "return"), .str (Str.ofString "break"), .str (Str.ofString "continue"), .str (Str.ofString "7"), .str (Str.ofString " 0x1 ")]
noncomputable def codeL : List PyData := [.int 0, .int 1, .int 2, .int 3, .int 4, .int 7, .int 1]
theorem written_at {m : Int} (h : 0 ≤ m ∧ m < 7) : ∃ (w : List Nat) (i : Int), writtenL[m.toNat]? = some (.str (S w)) ∧ codeL[m.toNat]? = some (.int i) ∧ codeN w = some i ∧ w.length ≤ 10 := by
 have : m = 0 ∨ m = 1 ∨ m = 2 ∨ m = 3 ∨ m = 4 ∨ m = 5 ∨ m = 6 := e7 h.1 h.2
 rcases this with rfl | rfl | rfl | rfl | rfl | rfl | rfl
 ·exact i23 nOk 0 (by kernel_rfl!) rfl (by decide +kernel) (by decide)
 ·exact i23 nError 1 (by kernel_rfl!) rfl (by decide +kernel) (by decide)
 ·exact i23 nReturn 2 (by kernel_rfl!) rfl (by decide +kernel) (by decide)
 ·exact i23 nBreak 3 (by kernel_rfl!) rfl (by decide +kernel) (by decide)
 ·exact i23 nContinue 4 (by kernel_rfl!) rfl (by decide +kernel) (by decide)
 ·exact i23 [55] 7 (by kernel_rfl!) rfl (by decide +kernel) (by decide)
 ·exact i23 [32, 48, 120, 49, 32] 1 (by kernel_rfl!) rfl (by decide +kernel) (by decide)
theorem flat_at {pre : Kv} {p : List Nat × List Nat} {r : Kv} : (flatP (pre ++ p :: r))[2 * pre.length]? = some p.1 ∧ (flatP (pre ++ p :: r))[2 * pre.length + 1]? = some p.2 := by
 rw [flatP_append]
 have := flatP_len pre
 constructor
 ·rw [List.getElem?_append_right (by exact fg (.le (.v 0) (.m 2 (.v 1))) [.eq (.v 0) (.m 2 (.v 1))] [1,1] [] rfl [_,_] [] this), this, Nat.sub_self]; rfl
 ·rw [List.getElem?_append_right (by exact fg (.le (.v 0) (.a (.m 2 (.v 1)) (.c 1))) [.eq (.v 0) (.m 2 (.v 1))] [1,1] [] rfl [_,_] [] this), this, show 2 * pre.length + 1 - 2 * pre.length = 1 from Nat.add_sub_cancel_left _ _]; rfl
theorem txs_at {l : List (List Nat)} {k : Nat} {x : List Nat} (h : l[k]? = some x) : (txs l)[k]? = some (.str (S x)) := by
 unfold txs; rw [List.getElem?_map, h]; rfl
theorem putK_of {f : List Nat × List Nat → Prop} (hf : ∀ k v v', f (k, v) → f (k, v') → True) {kv : Kv} {k v : List Nat} (h : ∀ p ∈ kv, f p) (hk : f (k, v)) : ∀ p ∈ putK kv k v, f p := by
 intro p hp
 unfold putK at hp
 split at hp
 ·refine o11 (List.mem_map.mp hp) fun q hq e => ?_
  split at e
  ·rename_i e2; rw [← e, e2]; exact hk
  ·rw [← e]; exact h q hq
 ·rcases List.mem_append.mp hp with hp | hp
  ·exact h p hp
  ·rw [List.mem_singleton.mp hp]; exact hk
theorem putAll_of {f : List Nat × List Nat → Prop} : ∀ {r acc : Kv}, (∀ p ∈ acc, f p) → (∀ p ∈ r, f p) → ∀ p ∈ putAll acc r, f p
 | [], acc, h, _ => h
 | p :: r, acc, h, k => by
  show ∀ q ∈ putAll (putK acc p.1 p.2) r, f q
  exact putAll_of (putK_of (fun _ _ _ _ _ => trivial) h (k p (.head _))) fun q hq => k q (.tail _ hq)
variable (D : Drawn raising code value cd ct level ret info others)
include D
theorem Drawn.againInfo : Vd (if code = 1 ∧ info = [] then value else info) ∧ (if code = 1 ∧ info = [] then value else info).length ≤ 3 := by
 split
 ·exact ⟨D.hvalue.2, D.hvalue.1⟩
 ·exact ⟨D.hinfo.2, D.hinfo.1⟩
theorem Drawn.againVd : VdP (putAll [] others) := putAll_vd (fun _ q => nomatch q) D.vdO
theorem Drawn.againLen : (putAll [] others).length ≤ 3 := by
 have := putAll_len others []
 have := D.len
 simp at *; omega
theorem Drawn.againLay : Lay 100 (againD code value cd level ret info others) := D.lay D.againInfo.1 D.againVd
theorem Drawn.wrapLay {b : List Nat} (hb : OkT b) : Lay 100 (drawnD code value cd (if ret = 2 then level + 1 else level) (if ret = 2 then 0 else ret) (if code = 1 ∧ info = [] then value else info) ((nW, b) :: putAll [] others)) :=
 D.lay D.againInfo.1 fun p hp => by
  rcases List.mem_cons.mp hp with rfl | hp
  ·exact ⟨show Vd nW from nlit (by decide), hb.2⟩
  ·exact D.againVd p hp
theorem Drawn.cdEC : EC cd ct := by
 rcases D.hcd with e | ⟨e1, e2⟩
 ·rw [e]; exact .str
 ·rw [e1, e2]; exact ecNone_EC
theorem Drawn.againCd (q : code = 1 ∨ (code = 2 ∧ (if ret = 2 then 0 else ret) = 1)) : cd = .str (S ct) := by
 refine D.cdS (q.imp_right fun z => ⟨z.1, ?_⟩)
 have := z.2
 split at this
 ·exact fi (.v 0) (.c 1) [.iqe (.c 0) (.c 1)] [0,1] [] [0,1] [] rfl [] [_] this
 ·exact this
theorem Drawn.ret0 (q : code ≠ 2) : ret = 0 := by
 rcases D.kind with k | k | k
 ·exact k.2.2.1
 ·exact absurd k.1 q
 ·exact k.2.2.1
theorem Drawn.againLv (q : code ≠ 2) : (if ret = 2 then level + 1 else level) = 0 := by
 rw [D.ret0 q, if_neg (by decide)]; exact D.lv0 q
theorem Drawn.againNum : (if code = 2 then (if ret = 2 then 0 else ret) else code).natAbs < 10 ^ 13 ∧ (if ret = 2 then level + 1 else level).natAbs < 10 ^ 13 := by
 have hn := D.nums
 by_cases q : code = 2
 ·rw [if_pos q] at hn ⊢
  rw [if_pos q] at hn
  constructor
  ·split
   ·decide
   ·exact hn.1
  ·have : level ≤ 40 ∧ 0 ≤ level := by
    rcases D.kind with k | k | k
    ·exact absurd (q.symm.trans k.1) (by decide)
    ·exact ⟨k.2.2.1, hn.2.2⟩
    ·rw [k.2.1]; decide
   split
   ·exact nab ⟨Int.le_trans (by decide) (Int.add_le_add_right this.2 1), Int.le_trans (Int.add_le_add_right this.1 1) (by decide)⟩
   ·exact nab ⟨Int.le_trans (by decide) this.2, Int.le_trans this.1 (by decide)⟩
 ·rw [D.againLv q, if_neg q]
  rw [if_neg q] at hn
  exact ⟨hn.1, by decide⟩
theorem Drawn.againI : istrOk (if code = 2 then (if ret = 2 then 0 else ret) else code) ∧ istrOk (if ret = 2 then level + 1 else level) := ⟨istr_ok D.againNum.1, istr_ok D.againNum.2⟩
theorem Drawn.againI2 : istrOk (if code = 2 then (if ret = 2 then 0 else ret) else code) ∧ istrOk (if code = 2 then (if ret = 2 then level + 1 else level) else 0) := by
 refine ⟨istr_ok D.againNum.1, ?_⟩
 split
 ·exact istr_ok D.againNum.2
 ·exact istr_ok (by decide)
theorem Drawn.againSmall : SmallP (optP code (if ret = 2 then level + 1 else level) (if ret = 2 then 0 else ret) ct (if code = 1 ∧ info = [] then value else info) value (putAll [] others)) := by
 have h1 := D.againLen
 have hi := D.againInfo
 have hn := D.againNum
 generalize (if code = 1 ∧ info = [] then value else info) = info' at *
 have h2 := @errP_len code (if ret = 2 then 0 else ret) value ct info'
 refine ⟨by unfold optP; simp only [List.length_append, List.length_cons, List.length_nil]; exact fg (.le (.a (.a (.a (.a (.c 0) (.c 1)) (.c 1)) (.v 1)) (.v 0)) (.c 20)) [.le (.v 0) (.c 3),.le (.v 1) (.c 2)] [1,1,1] [] rfl [_,_] [] h1 h2, fun p hp => ?_⟩
 rcases mem_optP hp with rfl | rfl | h | h
 ·exact ⟨by show nCode.length ≤ 40; decide, Nat.le_trans (istr_len hn.1) (by decide)⟩
 ·refine ⟨by show nLevel.length ≤ 40; decide, Nat.le_trans (istr_len ?_) (by decide)⟩
  split
  ·exact hn.2
  ·decide
 ·refine ⟨?_, ?_⟩
  ·rcases errP_keys p h with e | e <;> rw [e] <;> decide
  ·have a1 := D.hvalue.1
   have a3 := D.coded.1
   rcases errP_vals p h with e | e | e <;> rw [e] <;> omega
 ·have hk : ∀ q ∈ putAll [] others, q.1.length ≤ 40 ∧ q.2.length ≤ 40 := putAll_of (fun _ z => nomatch z) fun q hq => by
   have := D.other q hq
   exact ⟨Nat.le_trans this.1 (by decide), Nat.le_trans this.2.1 (by decide)⟩
  exact hk p h
theorem Drawn.againOptVd : VdP (optP code (if ret = 2 then level + 1 else level) (if ret = 2 then 0 else ret) ct (if code = 1 ∧ info = [] then value else info) value (putAll [] others)) := by
 have hi := D.againInfo
 generalize (if code = 1 ∧ info = [] then value else info) = info' at *
 intro p hp
 rcases mem_optP hp with rfl | rfl | h | h
 ·exact ⟨show Vd nCode from nlit (by decide), istr_vd⟩
 ·exact ⟨show Vd nLevel from nlit (by decide), istr_vd⟩
 ·refine ⟨?_, ?_⟩
  ·rcases errP_keys p h with e | e <;> rw [e] <;> exact nlit (by decide)
  ·rcases errP_vals p h with e | e | e <;> rw [e]
   ·exact D.coded.2.1
   ·exact hi.1
   ·exact D.hvalue.2
 ·exact D.againVd p h
end
end
section
noncomputable abbrev irV : List Str := ["pen", "raising", "drawn", "value", "flat", "again", "text", "back", "ahead", "mark", "later", "beside", "wrapped", "pairs", "written", "got"]
noncomputable abbrev irG : List (Str × Value) := [("_law_drawn", .ref 308), ("_law_flat", .ref 327), ("_law_again", .ref 334), ("options_text", .ref 200), ("_law_raised", .ref 315), ("split_list", .ref 143), ("end_raised", .ref 256), ("_law_fields", .ref 346), ("_law_take", .ref 263), ("_law_text", .ref 277), ("join_list", .ref 172), ("_law_last", .ref 320), ("range", .type "range"), ("len", .builtin "len"), ("str", .type "str"), ("_law_due", .ref 339), ("_law_refused", .ref 367)]
section
variable {raising cd : PyData} {code level ret : Int} {value ct info : List Nat} {others : Kv}
variable {c : Cx} {st : St} {X : Flds → List (Option AV) → Prop} {Q : AV → St → Prop} {o : Other} {pa e1 e2 D2 : Addr} {p1 : AO} {l : List (Addr × AO)} {mark later : Int} {beside written : List Nat} {got : AV}
theorem ir_end (D : Drawn raising code value cd ct level ret info others) (hm : 0 ≤ mark ∧ mark < 7) (hF : (mkCx irV irG (c.room - 1) o ["flat"]).Fn) (hsc : o.env.scope = (fdOf 55).2.2) (hr : 13 ≤ c.room) (h : ∀ p', Q (.d (.bool true)) ⟨st.loc, (pa, p') :: l⟩) :
  TL (mkCx irV irG (c.room - 1) o ["flat"]) ⟨[some (.v (.ref pa)), some (.d raising), some (.d (drawnD code value cd level ret info others)), some (.d (.str (S value))), some (.d (.list (txs (optItems code level ret ct info value others)))), some (.d (againD code value cd level ret info others)), some (.d (.str (S (joinN (optItems code level ret ct info value others))))), some (.v (.ref e1)), some (.v (.ref e2)), some (.d (.int mark)), some (.d (.int later)), some (.d (.str (S beside))), some (.d (.str (S (joinN (wrapI (joinN (optItems code level ret ct info value others)) beside))))), some (.v (.ref D2)), some (.d (.str (S written))), some got], [(pa, p1)]⟩ ((fdOf 55).2.1.drop 16) (RetQ fun a st' => Q a ⟨st.loc, [] ++ st'.mu ++ l⟩) (fun fs _ => X fs st.loc) := by
 refine TL_c ?_
 walk_at "V"
 refine Bin.mod_int (by decide) ?_
 walk_at "V"
 refine law_refused_T D (which := mark.fmod 3) (by rw [Int.fmod_eq_emod_of_nonneg _ (by decide)]; omega) rfl (by walk_at "RM") ?_
 walk_at "V"
 exact h p1
theorem ir_due (D : Drawn raising code value cd ct level ret info others) (hm : 0 ≤ mark ∧ mark < 7) (hlt : 0 ≤ later ∧ later < 4) {i : Int} (hi : codeL[mark.toNat]? = some (.int i)) {e3 dx3 : Addr} {fs3 : Flds}
  (hg : (got = .d .none ∧ endOf (putAll [] (optP code level ret ct info value others)) i later value = .none) ∨ (got = .v (.ref e3) ∧ ∃ code' ec' level' ret' info' extra', endOf (putAll [] (optP code level ret ct info value others)) i later value = .ok code' value ec' level' ret' info' extra' ∧ fs3 = okF code' value ec' level' ret' info' extra' ∧ Lay 100 (drawnD code' value ec' level' ret' info' extra'))) (hF : (mkCx irV irG (c.room - 1) o ["flat"]).Fn) (hsc : o.env.scope = (fdOf 55).2.2) (hr : 13 ≤ c.room) (h : ∀ p', Q (.d (.bool true)) ⟨st.loc, (pa, p') :: l⟩) :
  TL (mkCx irV irG (c.room - 1) o ["flat"]) ⟨[some (.v (.ref pa)), some (.d raising), some (.d (drawnD code value cd level ret info others)), some (.d (.str (S value))), some (.d (.list (txs (optItems code level ret ct info value others)))), some (.d (againD code value cd level ret info others)), some (.d (.str (S (joinN (optItems code level ret ct info value others))))), some (.v (.ref e1)), some (.v (.ref e2)), some (.d (.int mark)), some (.d (.int later)), some (.d (.str (S beside))), some (.d (.str (S (joinN (wrapI (joinN (optItems code level ret ct info value others)) beside))))), some (.v (.ref D2)), some (.d (.str (S written))), some got], (if got matches .v _ then [(e3, .inst dx3 fs3 none)] else []) ++ [(D2, .list ((putAll [] (optP code level ret ct info value others)).map pairD)), (pa, p1)]⟩ ((fdOf 55).2.1.drop 15) (RetQ fun a st' => Q a ⟨st.loc, [] ++ st'.mu ++ l⟩) (fun fs _ => X fs st.loc) := by
 have hlen := putAll_len (optP code level ret ct info value others) []
 have hsm := D.small.1
 rw [List.length_nil] at hlen
 rcases hg with ⟨rfl, hE⟩ | ⟨rfl, code', ec', level', ret', info', extra', hE, rfl, hL⟩
 ·show TL _ ⟨_, [_, _]⟩ _ _ _
  refine TL_c ?_
  walk_at "V"
  refine law_fields_none rfl (by walk_at "RM") ?_
  walk_at "V"
  refine TE_lst ?_
  walk_at "V"
  refine Item.list (ps := codeL) hm.1 hi (by decide) ?_
  walk_at "V"
  refine law_due_T rfl (by exact fg (.le (.v 0) (.c 900)) [.le (.v 0) (.a (.c 0) (.v 1)),.le (.v 1) (.c 20)] [1,1,1] [] rfl [_,_] [] hlen hsm) (putAll_twice _) rfl (by walk_at "RM") ?_
  walk_at "V"
  rw [hE]
  refine Cm_i (Cmp.ne_self (p := .none) (Lay.none.up (by decide))) ?_
  walk_at "V"
  exact ir_end D hm hF hsc hr h
 ·show TL _ ⟨_, [_, _, _]⟩ _ _ _
  refine TL_c ?_
  walk_at "V"
  refine law_fields_T .here okF_R rfl (by walk_at "RM") ?_
  walk_at "V"
  refine TE_lst ?_
  walk_at "V"
  refine Item.list (ps := codeL) hm.1 hi (by decide) ?_
  walk_at "V"
  refine TC_perm (mu' := [(D2, .list ((putAll [] (optP code level ret ct info value others)).map pairD)), (e3, .inst dx3 (okF code' value ec' level' ret' info' extra') none), (pa, p1)]) (List.Perm.swap ..) ?_
  refine law_due_T rfl (by exact fg (.le (.v 0) (.c 900)) [.le (.v 0) (.a (.c 0) (.v 1)),.le (.v 1) (.c 20)] [1,1,1] [] rfl [_,_] [] hlen hsm) (putAll_twice _) rfl (by walk_at "RM") ?_
  walk_at "V"
  rw [hE]
  refine Cm_i (Cmp.ne_self (p := drawnD code' value ec' level' ret' info' extra') hL) ?_
  walk_at "V"
  refine TL_drop .here ?_
  exact ir_end D hm hF hsc hr h
end
end
section
section
variable {raising cd : PyData} {code level ret : Int} {value ct info : List Nat} {others : Kv}
variable {c : Cx} {st : St} {X : Flds → List (Option AV) → Prop} {Q : AV → St → Prop} {o : Other} {pa e1 e2 D2 : Addr} {p1 : AO} {l : List (Addr × AO)} {mark later : Int} {beside written : List Nat} {got : AV}
theorem ir_got (D : Drawn raising code value cd ct level ret info others) (hm : 0 ≤ mark ∧ mark < 7) (hlt : 0 ≤ later ∧ later < 4) (hF : (mkCx irV irG (c.room - 1) o ["flat"]).Fn) (hsc : o.env.scope = (fdOf 55).2.2) (hr : 13 ≤ c.room) (h : ∀ p', Q (.d (.bool true)) ⟨st.loc, (pa, p') :: l⟩) :
  TL (mkCx irV irG (c.room - 1) o ["flat"]) ⟨[some (.v (.ref pa)), some (.d raising), some (.d (drawnD code value cd level ret info others)), some (.d (.str (S value))), some (.d (.list (txs (optItems code level ret ct info value others)))), some (.d (againD code value cd level ret info others)), some (.d (.str (S (joinN (optItems code level ret ct info value others))))), some (.v (.ref e1)), some (.v (.ref e2)), some (.d (.int mark)), some (.d (.int later)), some (.d (.str (S beside))), some (.d (.str (S (joinN (wrapI (joinN (optItems code level ret ct info value others)) beside))))), none, none, none], [(pa, p1)]⟩ ((fdOf 55).2.1.drop 12) (RetQ fun a st' => Q a ⟨st.loc, [] ++ st'.mu ++ l⟩) (fun fs _ => X fs st.loc) := by
 have hPP := flatP_optP (code := code) (level := level) (ret := ret) (l := ct) (info := info) (value := value) (extra := others)
 have hsm := D.small.1
 have hfl := flatP_len (optP code level ret ct info value others)
 rw [hPP] at hfl
 refine o23 (written_at hm) fun written i w1 w2 w3 w4 => ?_
 refine TL_c ?_
 walk_at "V"
 refine TE_comp (M := fun _ : Unit => [(pa, p1)]) (I := fun xs out _ => ∃ pre r, pre ++ r = optP code level ret ct info value others ∧ xs = rangeL (2 * pre.length : Nat) 2 r.length ∧ out = pre.map pairD) false ["flat"] [some (.d (.list (txs (optItems code level ret ct info value others))))] [] hsc (by kernel_rfl!) (fun P => by kernel_rfl!) rfl (.cons (by with_reducible (repeat (first | exact NameAt.here | apply NameAt.there))) .nil) (fun xs out a hI => ?_) ?_ (fun _ => rfl)
 ·refine o22 hI fun pre r h1 _ zz1 => ?_
  try clear hI
  subst zz1
  have : pre.length ≤ (optP code level ret ct info value others).length := by rw [← h1]; simp
  rw [List.length_map]; exact fg (.le (.v 1) (.c 1000)) [.le (.v 0) (.c 20),.le (.v 1) (.v 0)] [1,1,1] [] rfl [_,_] [] hsm this
 walk_at "V"
 refine TC_len_list (by rw [txs_len]; (try dsimp only); exact fg (.le (.v 1) (.c 1000000)) [.le (.v 0) (.c 20),.eq (.v 1) (.m 2 (.v 0))] [1,2,1] [] rfl [_,_] [] hsm hfl) ?_
 walk_at "V"
 refine TC_range3 (by decide) noPylong2 ?_
 walk_at "V"
 refine i24 _ () (Iters.rng (n := (optP code level ret ct info value others).length) (by rw [txs_len]; exact small2 (by exact fg (.le (.v 1) (.c 100000)) [.le (.v 0) (.c 20),.eq (.v 1) (.m 2 (.v 0))] [1,2,1] [] rfl [_,_] [] hsm hfl) (by rw [hfl]; exact Nat.mul_mod_right 2 _)) (by rw [txs_len, rangeSize2 (by rw [hfl]; exact Nat.mul_mod_right 2 _), hfl, Nat.mul_div_cancel_left _ (by decide)])) rfl (i22 [] _ rfl rfl rfl) (fun o2 ho2 hsc2 D3 y xs out _ hI => ?_) (fun out _ D3 hI => ?_)
 ·refine o22 hI fun pre r h1 hx zz1 => ?_
  try clear hI
  subst zz1
  cases r with
  | nil => cases hx
  | cons p r =>
   obtain ⟨rfl, rfl⟩ : y = .int ((2 * pre.length : Nat) : Int) ∧ xs = rangeL ((2 * pre.length : Nat) + 2) 2 r.length := by
    have := List.cons.inj hx; exact ⟨this.1, this.2⟩
   have hat := @flat_at pre p r
   rw [h1, hPP] at hat
   refine TI_nil ?_
   refine ite_t rfl ?_
   walk_at "V"
   refine Item.list (by exact fg (.ile (.c 0) (.n (.m 2 (.v 0)))) [] [1] [2] rfl [_] []) (by rw [Int.toNat_natCast]; exact txs_at hat.1) (by rw [txs_len]; (try dsimp only); exact fg (.le (.v 1) (.c 1000000)) [.le (.v 0) (.c 20),.eq (.v 1) (.m 2 (.v 0))] [1,2,1] [] rfl [_,_] [] hsm hfl) ?_
   walk_at "V"
   refine Item.list (by exact fg (.ile (.c 0) (.a (.n (.m 2 (.v 0))) (.c 1))) [] [1] [2] rfl [_] []) (by rw [show (((2 * pre.length : Nat) : Int) + 1).toNat = 2 * pre.length + 1 from rfl]; exact txs_at hat.2) (by rw [txs_len]; (try dsimp only); exact fg (.le (.v 1) (.c 1000000)) [.le (.v 0) (.c 20),.eq (.v 1) (.m 2 (.v 0))] [1,2,1] [] rfl [_,_] [] hsm hfl) ?_
   walk_at "V"
   exact i22 (pairD p) () rfl rfl (i22 (pre ++ [p]) r (by rw [← h1]; simp) (by rw [show (2 * (pre ++ [p]).length : Nat) = 2 * pre.length + 2 by simp; exact fe (.m 2 (.a (.v 0) (.c 1))) (.a (.m 2 (.v 0)) (.c 2)) [] [1] [] [1] [] rfl [_] []]; rfl) (by rw [List.map_append]; rfl))
 ·refine o22 hI fun pre r h1 hx zz1 => ?_
  try clear hI
  subst zz1
  cases r with
  | cons p r => cases hx
  | nil =>
   have hpr : pre = optP code level ret ct info value others := by simpa using h1
   rw [hpr]
   walk_at "V"
   refine TC_freeze1 .here ?_
   refine law_last_T (by exact fg (.le (.v 0) (.c 900)) [.le (.v 0) (.c 20)] [1,1] [] rfl [_] [] hsm) rfl (by walk_at "RM") fun D2 => ?_
   walk_at "V"
   with_reducible refine TL_c ?_
   walk_at "V"
   refine TE_lst ?_
   walk_at "V"
   refine Item.list (ps := writtenL) hm.1 w1 (by decide) ?_
   walk_at "V"
   with_reducible refine TL_c ?_
   walk_at "V"
   rw [s_Options, s_Level, s_Code]
   refine TE_lst ?_
   walk_at "V"
   refine TC_str_int (istr_ok (nab ⟨Int.le_trans (by decide) hlt.1, Int.le_trans (Int.le_of_lt hlt.2) (by decide)⟩)) ?_
   walk_at "V"
   refine end_raised_T (ops := [(nOptions, (joinN (optItems code level ret ct info value others))), (nLevel, istr later), (nCode, written)]) (D.later ⟨hlt.1, by exact fg (.ile (.v 0) (.c 100)) [.ilt (.v 0) (.c 4)] [1,1] [] rfl [] [_] hlt.2⟩ w4 w3) rfl (by walk_at "RM") ?_
   rcases end_cases (i := i) (j := later) (putAll_vd (show VdP [] from fun _ q => nomatch q) D.vd) D.hvalue.2 with hE | ⟨code', ec', level', ret', info', extra', hE, hL⟩
   ·rw [hE]
    unfold EQ
    walk_at "V"
    exact ir_due (e3 := pa) (dx3 := pa) (fs3 := []) D hm hlt w2 (.inl ⟨rfl, hE⟩) hF hsc hr h
   ·rw [hE]
    unfold EQ
    intro e3 dx3
    walk_at "V"
    exact ir_due (e3 := e3) (dx3 := dx3) D hm hlt w2 (.inr ⟨rfl, _, _, _, _, _, _, hE, rfl, hL⟩) hF hsc hr h
end
end
section
section
variable {raising cd : PyData} {code level ret : Int} {value ct info : List Nat} {others : Kv}
variable {c : Cx} {st : St} {X : Flds → List (Option AV) → Prop} {Q : AV → St → Prop} {o : Other} {pa e1 e2 D2 : Addr} {p1 : AO} {l : List (Addr × AO)} {mark later : Int} {beside written : List Nat} {got : AV}
theorem s_X : (Str.ofString "x") = S [120] := by kernel_rfl!
theorem s_Y : (Str.ofString "y") = S [121] := by kernel_rfl!
theorem s_77 : (Str.ofString "77") = S n77 := by kernel_rfl!
theorem s_W : (Str.ofString "-w") = S nW := by kernel_rfl!
theorem ir_beside (D : Drawn raising code value cd ct level ret info others) (hp1 : PenOk p1) (hF : (mkCx irV irG (c.room - 1) o ["flat"]).Fn) (hsc : o.env.scope = (fdOf 55).2.2) (hr : 13 ≤ c.room) (h : ∀ p', Q (.d (.bool true)) ⟨st.loc, (pa, p') :: l⟩) :
  TL (mkCx irV irG (c.room - 1) o ["flat"]) ⟨[some (.v (.ref pa)), some (.d raising), some (.d (drawnD code value cd level ret info others)), some (.d (.str (S value))), some (.d (.list (txs (optItems code level ret ct info value others)))), some (.d (againD code value cd level ret info others)), some (.d (.str (S (joinN (optItems code level ret ct info value others))))), some (.v (.ref e1)), some (.v (.ref e2)), none, none, none, none, none, none, none], [(pa, p1)]⟩ ((fdOf 55).2.1.drop 8) (RetQ fun a st' => Q a ⟨st.loc, [] ++ st'.mu ++ l⟩) (fun fs _ => X fs st.loc) := by
 have hjo := D.small.joined
 rw [flatP_optP] at hjo
 refine TL_c ?_
 walk_at "V"
 refine law_take_T hp1 rfl (by decide) (by decide) rfl (by walk_at "RM") fun mark p2 m0 m1 hp2 => ?_
 walk_at "V"
 refine law_take_T hp2 rfl (by decide) (by decide) rfl (by walk_at "RM") fun later p3 l0 l1 hp3 => ?_
 walk_at "V"
 with_reducible refine TL_c ?_
 walk_at "V"
 refine law_text_T hp3 rfl rfl (by walk_at "RM") fun beside p4 hb hp4 => ?_
 walk_at "V"
 have hb1 := hb.1
 have hwj := join_len (wrapI (joinN (optItems code level ret ct info value others)) beside)
 have hws : ((wrapI (joinN (optItems code level ret ct info value others)) beside).map List.length).sum = 18 + (joinN (optItems code level ret ct info value others)).length + beside.length := by simp [wrapI, nOptions, nLevel, n77, nW]; exact fe (.a (.c 8) (.a (.v 0) (.a (.c 6) (.a (.c 2) (.a (.c 2) (.v 1)))))) (.a (.a (.c 18) (.v 0)) (.v 1)) [] [1] [] [1] [] rfl [_,_] []
 have hwl : (wrapI (joinN (optItems code level ret ct info value others)) beside).length = 6 := rfl
 with_reducible refine TL_c ?_
 walk_at "V"
 refine TE_lst ?_
 rw [s_Options, s_Level, s_77, s_W]
 walk_at "V"
 refine join_list_T (items := wrapI (joinN (optItems code level ret ct info value others)) beside) (.inl rfl) (by exact fg (.le (.a (.v 2) (.v 3)) (.c 100000)) [.le (.v 0) (.c 4000),.le (.v 1) (.c 3),.eq (.v 2) (.a (.a (.c 18) (.v 0)) (.v 1)),.eq (.v 3) (.c 6)] [1,1,1,1,1] [] rfl [_,_,_,_] [] hjo hb1 hws hwl) rfl (by walk_at "RM") ?_
 walk_at "V"
 with_reducible refine TL_c ?_
 walk_at "V"
 refine TE_lst ?_
 walk_at "V"
 refine end_raised_T (ops := [(nOptions, joinN (wrapI (joinN (optItems code level ret ct info value others)) beside))]) (D.wrapped hb) rfl (by walk_at "RM") ?_
 unfold EQ endE
 intro e3 dx3
 walk_at "V"
 refine law_fields_T .here okF_R rfl (by walk_at "RM") ?_
 walk_at "V"
 refine Item.tuple_to6 ?_
 walk_at "V"
 refine TE_lst ?_
 walk_at "V"
 refine Item.tuple (ps := [.int code, .str (S value), cd, .int (if ret = 2 then level + 1 else level), .int (if ret = 2 then 0 else ret), .str (S (if code = 1 ∧ info = [] then value else info)), .list ((putAll [] others).map pairD)]) (p := .list ((putAll [] others).map pairD)) (by decide) rfl (by show (7 : Nat) ≤ _; decide) ?_
 walk_at "V"
 refine Bin.add_list (by have := D.againLen; rw [List.length_map]; show 1 + _ ≤ _; exact fg (.le (.a (.c 1) (.v 0)) (.c 1000000)) [.le (.v 0) (.c 3)] [1,1] [] rfl [_] [] this) ?_
 walk_at "V"
 refine Bin.add_tuple (by show 6 + 1 ≤ _; decide) ?_
 walk_at "V"
 refine Cm_i (Cmp.ne_self (p := drawnD code value cd (if ret = 2 then level + 1 else level) (if ret = 2 then 0 else ret) (if code = 1 ∧ info = [] then value else info) ((nW, beside) :: putAll [] others)) (D.wrapLay hb)) ?_
 walk_at "V"
 refine TL_drop .here ?_
 exact ir_got D ⟨m0, m1⟩ ⟨l0, l1⟩ hF hsc hr h
theorem ir_back (D : Drawn raising code value cd ct level ret info others) (hp1 : PenOk p1) (hF : (mkCx irV irG (c.room - 1) o ["flat"]).Fn) (hsc : o.env.scope = (fdOf 55).2.2) (hr : 13 ≤ c.room) (h : ∀ p', Q (.d (.bool true)) ⟨st.loc, (pa, p') :: l⟩) :
  TL (mkCx irV irG (c.room - 1) o ["flat"]) ⟨[some (.v (.ref pa)), some (.d raising), some (.d (drawnD code value cd level ret info others)), some (.d (.str (S value))), some (.d (.list (txs (optItems code level ret ct info value others)))), some (.d (againD code value cd level ret info others)), some (.d (.str (S (joinN (optItems code level ret ct info value others))))), none, none, none, none, none, none, none, none, none], [(pa, p1)]⟩ ((fdOf 55).2.1.drop 3) (RetQ fun a st' => Q a ⟨st.loc, [] ++ st'.mu ++ l⟩) (fun fs _ => X fs st.loc) := by
 have hjo := D.small.joined
 have hsm := D.small
 have hsum := hsm.sum
 have hfl := hsm.flen
 rw [flatP_optP] at hjo hsum hfl
 have asm := D.againSmall
 have asum := asm.sum
 have afl := asm.flen
 have ajo := asm.joined
 rw [flatP_optP] at asum afl ajo
 have avd := flat_vdP D.againOptVd
 rw [flatP_optP] at avd
 have fvd := flat_vdP D.vd
 rw [flatP_optP] at fvd
 refine TL_c ?_
 walk_at "V"
 refine split_list_T (by exact fg (.le (.v 0) (.c 100000)) [.le (.v 0) (.c 4000)] [1,1] [] rfl [_] [] hjo) (split_join _) (by exact fg (.le (.v 0) (.c 100000)) [.le (.v 0) (.c 40)] [1,1] [] rfl [_] [] hfl) rfl (by walk_at "RM") (fun es he => ?_) (fun he => nomatch he)
 obtain rfl := Option.some.inj he
 walk_at "V"
 refine Cm_i (Cmp.ne_self ((txs_lay fvd).up (by decide))) ?_
 walk_at "V"
 with_reducible refine TL_c ?_
 rw [s_Options]
 walk_at "V"
 refine TE_lst ?_
 walk_at "V"
 refine end_raised_T (ops := [(nOptions, (joinN (optItems code level ret ct info value others)))]) D.back rfl (by walk_at "RM") ?_
 unfold EQ endE
 intro e1 dx1
 walk_at "V"
 with_reducible refine TL_c ?_
 rw [s_Level, s_Code, s_X, s_Y]
 walk_at "V"
 refine TE_lst ?_
 walk_at "V"
 refine end_raised_T (ops := [(nLevel, [120]), (nCode, [121]), (nOptions, (joinN (optItems code level ret ct info value others)))]) D.ahead rfl (by walk_at "RM") ?_
 unfold EQ endE
 intro e2 dx2
 walk_at "V"
 with_reducible refine TL_c ?_
 walk_at "V"
 refine law_fields_T (.there .here) okF_R rfl (by walk_at "RM") ?_
 walk_at "V"
 refine Cm_i (Cmp.ne_self (p := againD code value cd level ret info others) D.againLay) ?_
 walk_at "V"
 refine law_fields_T .here okF_R rfl (by walk_at "RM") ?_
 walk_at "V"
 refine Cm_i (Cmp.ne_self (p := againD code value cd level ret info others) D.againLay) ?_
 walk_at "V"
 with_reducible refine TL_c ?_
 walk_at "V"
 refine options_text_T (.there .here) okF_R D.cdEC D.againI2 (by exact fg (.le (.a (.v 0) (.v 1)) (.c 100000)) [.le (.v 0) (.c 1600),.le (.v 1) (.c 40)] [1,1,1] [] rfl [_,_] [] asum afl) rfl (by walk_at "RM") ?_
 walk_at "V"
 refine split_list_T (by exact fg (.le (.v 0) (.c 100000)) [.le (.v 0) (.c 4000)] [1,1] [] rfl [_] [] ajo) (split_join _) (by exact fg (.le (.v 0) (.c 100000)) [.le (.v 0) (.c 40)] [1,1] [] rfl [_] [] afl) rfl (by walk_at "RM") (fun es he => ?_) (fun he => nomatch he)
 obtain rfl := Option.some.inj he
 walk_at "V"
 refine law_flat_T (by have := D.againLen; exact fg (.le (.v 0) (.c 1000)) [.le (.v 0) (.c 3)] [1,1] [] rfl [_] [] this) D.againCd D.againLv D.againI rfl (by walk_at "RM") ?_
 walk_at "V"
 refine Cm_i (Cmp.ne_self ((txs_lay avd).up (by decide))) ?_
 walk_at "V"
 refine TL_drop .here ?_
 refine TL_drop .here ?_
 exact ir_beside D hp1 hF hsc hr h
theorem law_is_right_T {p : AO} (hp : PenOk p) (hmu : st.mu = (pa, p) :: l) (hhd : c.hd = false) (hr : 13 ≤ c.room)
  (h : ∀ p', Q (.d (.bool true)) ⟨st.loc, (pa, p') :: l⟩) : TC c st (.ref 372) [.v (.ref pa)] Q X := by
 refine enter_law_is_right [(pa, p)] l hmu hhd (rm0 hr rfl) fun o ho' hF hsc => ?_
 with_reducible refine' absN ?e fun K0 hK0 => ?_
 case e => exact rfl
 walk_at "V"
 refine law_drawn_T hp rfl rfl (by walk_at "RM") fun raising code value cd ct level ret info others p1 D hp1 => ?_
 walk_at "V"
 have hsm := D.small
 have hflen := hsm.flen
 have hsum := hsm.sum
 rw [flatP_optP] at hflen hsum
 have hi := D.istrs
 have hol := D.len
 refine TL_c ?_
 refine TS_at ?_ (by first | kernel_rfl! | with_unfolding_all rfl) (swap_cell3 (.inr (.inl (by show o.env.scope.names.lookup _ = _; rw [hsc]; kernel_rfl!))))
 walk_at "V"
 refine Item.tuple (ps := [.int code, .str (S value), cd, .int level, .int ret, .str (S info), .list (others.map pairD)]) (p := .str (S value)) (by decide) rfl (by show (7 : Nat) ≤ _; decide) ?_
 walk_at "V"
 refine law_flat_T (by exact fg (.le (.v 0) (.c 1000)) [.le (.v 0) (.c 3)] [1,1] [] rfl [_] [] hol) D.cdS D.lv0 hi rfl (by walk_at "RM") ?_
 walk_at "V"
 refine law_again_T (by exact fg (.le (.v 0) (.c 900)) [.le (.v 0) (.c 3)] [1,1] [] rfl [_] [] hol) rfl (by walk_at "RM") ?_
 walk_at "V"
 with_reducible refine TL_c ?_
 walk_at "V"
 refine law_raised_T (by exact fg (.le (.v 0) (.c 1000)) [.le (.v 0) (.c 3)] [1,1] [] rfl [_] [] hol) rfl (by walk_at "RM") fun e0 dx0 => ?_
 walk_at "V"
 refine options_text_T .here okF_R D.ec ⟨hi.1, istr_ok D.nums.2.1⟩ (by exact fg (.le (.a (.v 1) (.v 0)) (.c 100000)) [.le (.v 0) (.c 40),.le (.v 1) (.c 1600)] [1,1,1] [] rfl [_,_] [] hflen hsum) rfl (by walk_at "RM") ?_
 walk_at "V"
 refine TL_drop .here ?_
 exact TL_w hK0 (ir_back D hp1 hF hsc hr h)
end
end
section
theorem def_join : nDef = joinN (flatP [(nCode, [48]), (nLevel, [48])]) := by decide +kernel
theorem def_none : EndR [(nOptions, nDef)] nV .none := by
 have hM : Mrg [(nOptions, nDef)] [] (.inl (putAll [] [(nCode, [48]), (nLevel, [48])])) := by
  rw [def_join]
  have hs : SmallP [(nCode, [48]), (nLevel, [48])] := ⟨by decide, all2 (by decide) (by decide)⟩
  exact Mrg.text (W := []) (P := []) hs (all2 (by decide) (by decide)) (fun _ q => nomatch q) (by decide) (by decide)
 have e : endOf (putAll [] [(nCode, [48]), (nLevel, [48])]) 0 0 nV = .none := by
  unfold endOf endOf2
  rw [if_neg (by decide), if_pos (by decide)]
 rw [← e]
 exact .fine hM (by decide) (by decide +kernel) (by decide) (by decide +kernel) (by decide) (split_join [nNONE]) (by decide) (putAll_nodup _ _ .nil) (by decide)
noncomputable def givenL : List PyData := [.list (([0, 2, 12, 0, 1, 2, 2, 1, 9, 1, 10, 3, 12, 7, 2, 3, 2, 1, 8, 2, 9, 10, 0, 1, 5, 2, 1, 8, 0, 3, 0, 1, 4] : List Int).map .int), .list (([1, 1, 12, 2, 0, 0, 0, 1, 12, 1, 1, 1, 1, 0, 0, 0] : List Int).map .int), .list (([2, 0, 3, 4, 1, 1, 0, 3, 1, 6, 3, 1, 12, 1, 2, 2, 9, 9] : List Int).map .int)]
section
variable {c : Cx} {st : St} {X : Flds → List (Option AV) → Prop} {Q : AV → St → Prop}
theorem law_given_T (hhd : c.hd = false) (hr : 1 ≤ c.room) (h : Q (.d (.list givenL)) st) : TC c st (.ref 270) [] Q X := by
 refine enter_law_given [] st.mu rfl hhd (rm0 hr rfl) fun o ho' hF => ?_
 with_reducible refine' absN ?e fun K0 hK0 => ?_
 case e => exact rfl
 walk_at "V"
 refine TE_lst ?_
 walk_at "V"
 refine TE_lst ?_
 walk_at "V"
 refine TE_lst ?_
 walk_at "V"
 refine TE_lst ?_
 walk_at "V"
 walk_at "E"; exact h
theorem pick_ints (ns : List Int) (lo hi k : Option Int) : ∃ ms : List Int, pickD (ns.map .int) lo hi k = ms.map .int := by
 unfold pickD
 generalize sliceRange _ _ _ = is
 induction is with
 | nil => exact ⟨[], rfl⟩
 | cons i is ih =>
  refine o10 ih fun ms e => ?_
  try clear ih
  rw [List.filterMap_cons, List.getElem?_map]
  cases ns[i]? with
  | none => exact ⟨ms, e⟩
  | some n => exact ⟨n :: ms, by rw [List.map_cons, ← e]; rfl⟩
end
theorem law_body {room : Nat} {o : Other} (hr : 13 ≤ room) (hF : (mkCx ["script", "turn", "given"] [("options_text", .ref 200), ("end_raised", .ref 256), ("enumerate", .type "enumerate"), ("_law_given", .ref 270), ("_law_is_right", .ref 372), ("sum", .builtin "sum")] room o).Fn) {ns : List Int} (hl : ns.length ≤ 1000) :
  TL (mkCx ["script", "turn", "given"] [("options_text", .ref 200), ("end_raised", .ref 256), ("enumerate", .type "enumerate"), ("_law_given", .ref 270), ("_law_is_right", .ref 372), ("sum", .builtin "sum")] room o) ⟨[some (.d (.list (ns.map .int))), none, none], []⟩ (fdOf 56).2.1 (RetQ fun a _ => a = .d (.bool true)) (fun _ _ => False) := by
 refine TL_c ?_
 walk_at "V"
 refine options_none_T rfl (by walk_at "RM") ?_
 walk_at "V"
 rw [s_Def]
 refine ite_f (bne_self_eq_false _) ?_
 walk_at "V"
 refine TE_lst ?_
 walk_at "V"
 rw [s_V]
 refine end_raised_T (ops := [(nOptions, nDef)]) (value := nV) def_none rfl (by walk_at "RM") ?_
 unfold EQ
 walk_at "V"
 refine ite_f rfl ?_
 walk_at "V"
 with_reducible refine TL_c (TS_sq (fun st1 => ∃ x y, st1 = ⟨[some (.d (.list (ns.map .int))), x, y], []⟩) (fun K1 hK1 => ?_) fun st1 => exI fun x => exI fun y => fun e1 => ?_)
 ·refine TS_for_enum (S := fun σ : Option AV × Option AV => ⟨[some (.d (.list (ns.map .int))), σ.1, σ.2], []⟩) (I := fun _ xs _ => ∀ x ∈ xs, ∃ ms : List Int, x = .list (ms.map .int) ∧ ms.length ≤ 100) hF (by with_reducible (repeat (first | exact mem_h | apply mem_t))) ?_ (by rfl) (by rfl) (by rfl) (fun _ => rfl)
  walk_at "V"
  refine law_given_T rfl (by walk_at "RM") ?_
  walk_at "V"
  refine i25 _ (none, none) rfl (by decide) (by walk_at "LE") (all3 (i11 _ rfl (by decide)) (i11 _ rfl (by decide)) (i11 _ rfl (by decide))) (fun o' ho' hF' i x xs σ hI => ?_) (fun i σ hI => ?_)
  ·refine o11 (hI x (.head _)) fun ms zz1 hms => ?_
   subst zz1
   walk_at "V"
   with_reducible refine TL_c ?_
   with_reducible refine TS_if' ?_
   with_reducible refine TB_nt ?_
   with_reducible refine TB_p ?_ (by first | kernel_rfl! | with_unfolding_all rfl)
   with_reducible refine TE_ca (by with_reducible (repeat (first | exact mem_h | apply mem_t))) ?_
   with_reducible refine CW_c ?_ ?_ rfl
   ·with_reducible exact keeps_ref (by first | kernel_rfl! | with_unfolding_all rfl)
   with_reducible refine TA_c ?_ (by first | kernel_rfl! | with_unfolding_all rfl)
   with_reducible refine TE_add_mu ?_
   refine TE_lst ?_
   walk_at "V"
   refine Item.list_slice (by decide) (by rw [List.length_map]; exact fg (.le (.v 0) (.c 1000000)) [.le (.v 0) (.c 1000)] [1,1] [] rfl [_] [] hl) ?_
   refine o10 (pick_ints ns (some (i : Nat)) none (some 3)) fun ks hks => ?_
   rw [hks]
   walk_at "V"
   refine TC_sum rfl fun n => ?_
   walk_at "V"
   refine Bin.pow_int (by decide) (by decide) ?_
   walk_at "V"
   refine Bin.mod_int (by decide) ?_
   walk_at "V"
   refine i23 _ _ rfl rfl (by rw [List.length_map]; show 1 + _ ≤ _; exact fg (.le (.a (.c 1) (.v 0)) (.c 1000)) [.le (.v 0) (.c 100)] [1,1] [] rfl [_] [] hms) (fun a => ?_)
   walk_at "V"
   refine law_is_right_T (p := PN _ ms) ⟨_, ms, rfl⟩ rfl rfl (by walk_at "RM") fun p' => ?_
   walk_at "V"
   refine TL_drop .here ?_
   walk_at "T"
   exact ⟨(_, _), by walk_at "LE", fun x hx => hI x (.tail _ hx)⟩
  ·walk_at "K"; exact Seq.next (i20 σ.1 σ.2 rfl)
 subst e1
 with_reducible refine TL_c ?_
 walk_at "V"
 exact (rfl : AV.d (.bool true) = _)
end
section
noncomputable abbrev topO (w : World) (s : Shared) (fd : FuncData) (fa : Addr) : Other := ⟨w, callerA.deeper (callEnv fd s.heap.objs.size fa), callEnv fd s.heap.objs.size fa, [callEnv fd s.heap.objs.size fa], s.heap, [s.heap.objs.size], [], []⟩
theorem top_rel {w : World} {s : Shared} {h₁ : Heap} {tk : Nat} {m : Str → Option Value} {fd : FuncData} {fa : Addr} {vars : List Str} {globs : List (Str × Value)} {loc0 : List (Option AV)}
  (BO : BaseOk w s.heap) (hsc : scOk (KF w.params) fd.scope vars globs = true) (hg : fd.globals = mainGlobals ∧ fd.builtins = builtinsNs ∧ fd.closure = [])
  (hn : h₁.Ns s.heap.objs.size m) (hk : ∀ b o, s.heap.get? b = some o → h₁.get? b = some o)
  (hm : ∀ (i : Nat) x a, vars[i]? = some x → loc0[i]? = some (some a) → ∃ v, m x = some v ∧ RV s.heap a v) : Rel (mkCx vars globs 100 (topO w s fd fa)) ⟨loc0, []⟩ { s with heap := h₁, toks := tk } := by
 unfold scOk at hsc
 simp only [Bool.and_eq_true, beq_iff_eq, Bool.not_eq_true', List.all_eq_true, decide_eq_true_eq, bne_iff_ne] at hsc
 refine o01 hsc fun zz1 hcd => ?_
 try clear hsc
 refine o01 zz1 fun zz2 hdb => ?_
 clear zz1
 refine o01 zz2 fun zz3 hgl => ?_
 clear zz2
 refine o01 zz3 fun zz4 hnd => ?_
 clear zz3
 refine o01 zz4 fun zz5 hvars => ?_
 clear zz4
 refine o01 zz5 fun zz6 hcell => ?_
 clear zz5
 refine o01 zz6 fun zz7 hgen => ?_
 clear zz6
 refine o01 zz7 fun hkind hco => ?_
 clear zz7
 have new : s.heap.get? s.heap.objs.size = none := get_new _
 refine o32 hn fun oN es ep hoN hdN rN => ?_
 try clear hn
 have hcl : (callEnv fd s.heap.objs.size fa).cells = [] := hg.2.2
 have nocell : ∀ x ca, (callEnv fd s.heap.objs.size fa).cells.lookup x = some ca → False := fun x ca h => by rw [hcl] at h; cases h
 have fzs : s.heap.StaysIn (fz (mkCx vars globs 100 (topO w s fd fa)) ⟨loc0, []⟩ h₁) := fun b o e => by
  refine fz_iff.mpr (i04 (hk b o e) ?_ ?_ ?_ ?_)
  ·simp only [List.mem_singleton]; exact Nat.ne_of_lt (Heap.lt_size e)
  ·exact fun q => nomatch q
  ·exact fun q => nomatch q
  ·exact fun q => nomatch q
 refine ⟨?_, hk, ?_, fun a h => ?_, ⟨m, oN, es, ep, hoN, hdN, rN⟩, fun x ca h => (nocell x ca h).elim, fun i x a h1 h2 => ?_, fun p hp => (nomatch hp), .nil, fun a ha => (nomatch ha)⟩
 ·refine { base := BO, nodup := hnd, kinds := fun x hx => .inl (hvars x hx), locs := fun x hx _ _ => hvars x hx, cellsAt := fun x hx h => ?_, fn := hkind, glob := ⟨hg.1, hg.2.1⟩, globs := fun p hp => glob_is BO (hgl p hp), dbg := ⟨hdb, hcd⟩, loc := .head _, locBase := new, cellIn := fun x ca h => (nocell x ca h).elim, cellOwn := fun x ca h => (nocell x ca h).elim, cellNe := fun x ca h => (nocell x ca h).elim, cellInj := fun x y ca h => (nocell x ca h).elim, ownCtl := fun a ha => ⟨fun q => (nomatch q), fun q => (nomatch q)⟩, ownBase := fun a ha => ?_, ctlBase := fun a ha => (nomatch ha), privBase := fun a ha => (nomatch ha), handled := fun _ => rfl, stack := ?_, frIn := ?_, depth := ?_, units := ?_ }
  ·have := hvars x hx
   rw [show fd.scope.names.lookup x = some .cell from h] at this; cases this
  ·obtain rfl : a = s.heap.objs.size := by simpa using ha
   exact new
  ·exact Around.frames_deeper (A := callerA) rfl
  ·intro env he L hL
   obtain rfl : env = _ := List.mem_singleton.mp he
   left
   have : s.heap.objs.size = L := by simpa [callEnv, newEnv] using hL
   simp [this]
  ·show callerA.depth + 1 + 100 < 800
   decide +kernel
  ·show callerA.units + _ + 8 * 100 < 4000
   decide +kernel
 ·refine ⟨?_, (i23 s.heap.objs.size oN rfl new hoN (fun vs q => by rw [hdN] at q; cases q)), ?_⟩
  ·show fd.scope.kind ≠ .module
   rw [hkind]; decide
  ·trivial
 ·rcases h with h | h | h
  ·obtain rfl : a = s.heap.objs.size := by simpa using h
   show (h₁.get? _).isSome = true
   rw [hoN]; rfl
  ·cases h
  ·cases h
 ·refine o11 (hm i x a h1 h2) fun v e q => ?_
  exact i11 v (.inl ⟨hvars x (List.mem_of_getElem? h1), m, ⟨oN, es, ep, hoN, hdN, rN⟩, e⟩) (q.keeps fzs)
theorem top_law {w : World} {s : Shared} (BO : BaseOk w s.heap) {ns : List Int} (hl : ns.length ≤ 1000) {a : Value} (rv : RD s.heap (.list (ns.map .int)) a) :
  wpAny (model pw w) callerA (PySem.call (.ref 379) [a]) (fun v s' => v = .bool true ∧ (∀ b o, s.heap.get? b = some o → s'.heap.get? b = some o) ∧ s'.gens = s.gens ∧ s'.os = s.os) (fun _ _ => False) s := by
 have h1 : ∀ P, (KF P).lookup 379 = some (fnO "law" "law" (fdOf 56) (.none) (.str "law_oj0059_01" 548) (.ref 378)) := fun P => by kernel_rfl!
 have h2 : ∀ P, codeIn (KF P) (.ref 378) "law" = true := fun P => by kernel_rfl!
 have h3 : ∀ P, scOk (KF P) (fdOf 56).2.2 ["script", "turn", "given"] [("options_text", .ref 200), ("end_raised", .ref 256), ("enumerate", .type "enumerate"), ("_law_given", .ref 270), ("_law_is_right", .ref 372), ("sum", .builtin "sum")] = true := fun P => by kernel_rfl!
 have h4 : (fdOf 56).1 = ⟨[], (fdOf 56).1.args, none, [], [], none, []⟩ := by kernel_rfl!
 have h5 : (fdOf 56).1.args.map (·.arg) = (["script"] : List Str) := by kernel_rfl!
 have hbody := fun {o : Other} hF => @law_body 100 o (by decide) hF ns hl
 generalize fdOf 56 = f at *
 have hsc := h3 w.params
 have hs := hsc
 unfold scOk at hs
 simp only [Bool.and_eq_true, beq_iff_eq, Bool.not_eq_true', List.all_eq_true, decide_eq_true_eq, bne_iff_ne] at hs
 refine o01 hs fun zz1 hcdb => ?_
 try clear hs
 refine o01 zz1 fun zz2 hdb => ?_
 clear zz1
 refine o01 zz2 fun zz3 hgl => ?_
 clear zz2
 refine o01 zz3 fun zz4 hnd => ?_
 clear zz3
 refine o01 zz4 fun zz5 hvars => ?_
 clear zz4
 refine o01 zz5 fun zz6 hcell => ?_
 clear zz5
 refine o01 zz6 fun zz7 hgen => ?_
 clear zz6
 refine o01 zz7 fun hkind hco => ?_
 clear zz7
 have hget := BO.K _ _ (h1 w.params)
 refine wpAny_call (codeAny_call_def (fd := fdO "law" "law" f .none (.str "law_oj0059_01" 548) (.ref 378)) (body := f.2.1) (binds := [("script", a)]) (by decide +kernel) hget rfl BO.nolimit (codeRec_of BO.K (h2 w.params)) rfl (.of_eq (bind_plain2 (args := f.1.args) (ps := ["script"]) (vs := [a]) h4 rfl h5 (by decide) rfl))
  (fun x hx => hcell x hx) (fun x hx => hvars x.1 (by rw [List.mem_singleton.mp hx]; exact .head _)) (fun h₁ hns hk => ?_) hco hgen hkind)
 have hR := top_rel (w := w) (s := s) (tk := s.toks + 1) (fd := fdO "law" "law" f .none (.str "law_oj0059_01" 548) (.ref 378)) (fa := 379) (loc0 := [some (.d (.list (ns.map .int))), none, none]) BO hsc (i02 rfl rfl rfl) hns hk fun i x y q1 q2 => by
  match i, q2 with
  | 0, q2 =>
   obtain rfl : ("script" : Str) = x := Option.some.inj q1
   obtain rfl : AV.d (.list (ns.map .int)) = y := Option.some.inj (Option.some.inj q2)
   exact i11 a (zip_find (ps := ["script"]) (vs := [a]) 0 (by decide) rfl rfl) rv
  | 1, q2 => cases q2
  | 2, q2 => cases q2
 have hFn : Cx.Fn (mkCx ["script", "turn", "given"] [("options_text", .ref 200), ("end_raised", .ref 256), ("enumerate", .type "enumerate"), ("_law_given", .ref 270), ("_law_is_right", .ref 372), ("sum", .builtin "sum")] 100 (topO w s (fdO "law" "law" f .none (.str "law_oj0059_01" 548) (.ref 378)) 379)) := ⟨⟨_, rfl⟩, rfl⟩
 refine wpAny_mono (hbody hFn _ hR) (fun fl s' zm1 => o23 zm1 fun af st' q r' t' v' => ?_) fun ev s' zm0 => o52 zm0 fun e dx fs tb loc' he hx _ => hx.elim
 have keep : ∀ b o, s.heap.get? b = some o → s'.heap.get? b = some o := fun b o e => t'.keep b o (hk b o e) (fun m => by
  obtain rfl := List.mem_singleton.mp m
  rw [get_new] at e; cases e) (fun m => nomatch m) fun m => nomatch m
 cases af with
 | ret x =>
  obtain rfl : x = .d (.bool true) := q
  refine o11 v' fun v zz1 hv => ?_
  try clear v'
  subst zz1
  refine o10 hv fun as _ => ?_
  clear hv
  rename_i hv
  cases hv
  exact ⟨rfl, keep, t'.rest.1, t'.rest.2⟩
 | next => cases q
 | brk => exact q.elim
 | cont => exact q.elim
end
section
theorem fin_good {w : World} {s₀ s₁ : Shared} {ns : List Int} {a fa : Addr} {as : List Addr} (BO : BaseOk w s₁.heap) (rv : Reads s₁.heap (.ref a) (.list (ns.map .int)) as) (hl : ns.length ≤ 1000) (hgens : s₁.gens = #[]) (hfa : fa = 379) :
  wpAny (model rw.row.toRowW.prog w) callerA ((fun f vs => PySem.call f vs) (.ref fa) [.ref a])
   (fun v s' => GoodWG rw.row.toRowW.claim (classAt s₀.heap) (ExcName.means s₀.heap) [ofPy (.list (ns.map .int))] s₁ (.ok (.ret v)) s')
   (fun e s' => GoodWG rw.row.toRowW.claim (classAt s₀.heap) (ExcName.means s₀.heap) [ofPy (.list (ns.map .int))] s₁ (.error e) s') s₁ := by
 subst hfa
 refine wpAny_mono (top_law BO hl ⟨as, rv⟩) (fun v s' ⟨e1, e2, e3, e4⟩ => ?_) fun _ _ h => h.elim
 subst e1
 refine ⟨.inl ⟨_, ofPy (.bool true), [], rfl, fun cls => ?_, ?_, ?_, fun _ => ⟨.nil, fun a ha => nomatch ha⟩⟩, .of_keep e2, e4, .of_eq (e3.trans hgens)⟩
 ·rfl
 ·constructor
 ·wrow_post
end
end Mine
open PySem PySem.W PyProof.Rows
set_option maxHeartbeats 8000000 in
theorem PySem.Challenge.cw_oj0059_01_holds : PySem.Challenge.rw_oj0059_01.Holds := by
 refine holds_law Mine.said fun hs => ?_
 refine holds_open (q := Mine.view) (loose := Mine.loose) (Xt := fun s => xlAt Mine.view [] s && recOk (RowW.records Mine.rw.row.toRowW) s) (XP := XL Mine.view []) (Yf := Hook.obs Mine.HK) (Ya := Hook.val Mine.HK) (YP := Hook.says Mine.HK) (N := 3890) Mine.left (Hook.of Mine.HK) (Hook.keeps Mine.HK) (fun s e => xl_of s (Bool.and_eq_true_iff.mp e).1) XL.keeps (by rfl) (by rfl) (by rfl) (fun s e => recFacts_of (Bool.and_eq_true_iff.mp e).2) (by rfl) hs (by decide +kernel) ⟨rfl, rfl, rfl, rfl, rfl, by decide +kernel⟩ ?hw ?hc
 case hw => w_witness2
 intro w s₀ s₁ mg mb G Y fa o pm cd doc dV kV ho hd hcd hD hmg hg args vals as hpre hlay hrd hwl hlo
 refine Ground.open G ?_
 intro T B D TE TW
 have BO : Mine.BaseOk w s₁.heap := ⟨Y, ⟨_, T.g⟩, ⟨_, T.b, T.builtins⟩, T.nolimit, T.nodigits⟩
 have hfa : fa = 379 := by
  have e : mg "law" = some (.ref 379) := mg_of (kIn_of Y) T.g (by kernel_rfl!)
  have e2 : mg "law" = some (.ref fa) := hmg
  rw [e] at e2
  exact (Value.ref.inj (Option.some.inj e2)).symm
 clear hd hcd hD hmg ho
 wrow_args hpre hlay hrd hwl hlo
 exact Mine.fin_good BO (by assumption) (by omega) hg hfa
